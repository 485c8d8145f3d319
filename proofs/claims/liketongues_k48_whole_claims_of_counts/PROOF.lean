import PyProof.Rows.All
import Wide.All
import OpenK.AllK
import Wide.FinOn
import HandS.Base
import HandS.Call
import HandS.List
import HandS.Words
import KE.KDictKeyed
import KE.KDictWalk
import HandS.TupAny
import HandS.TupMul
import HandS.Deep
import HandS.IsInst
import HandS.Text
import HandS.TupLe
import HandS.Style
import HandS.Dict
import HandS.Ends
import HandS.Comp
import HandS.Iter
import HandS.Walk
import HandS.More
import HandS.WordsDict
import HandS.Replace
import PyProof.ReprRoads
import KE.KRevSl
import KE.GoesEnum
import HandS.Zip
import HandS.ForMost
import HandS.Star
import HandS.SortKw
import HandS.DictTup
import KE.KMinKey
import HandS.SortInts
import HandS.FStr
import HandS.Conv
import HandS.RaiseMore
import PyProof.InstNe
import HandS.MapObj
import KE.KDictCopyH
import KE.KDictDisplayH
import HandS.SetFor
import HandS.Strs
import HandS.StrMore
import PyProof.Rows.RegReprOcc
import KE.GoesZip
import KE.GoesMore
import PySem.Challenge.RW_liketongues_k48_whole_claims_of_counts
import PyProof.ReprLen
set_option Elab.async false
set_option linter.all false
section
set_option maxRecDepth 100000
set_option maxHeartbeats 4000000
namespace MC
open PySem PySem.Spec PyProof.Rows L2

/-- a name: its signs -/
abbrev Nm := List Nat

/-- pure values; ref n: the n-th object of the list heap; scr, rdic, ins: objects that nobody changes any more (lists, dicts, instances) -/
inductive PV where
  | non
  | bl (b : Bool)
  | int (i : Int)
  | str (s : List Nat)
  | tup (xs : List PV)
  | scr (xs : List PV)
  | rdic (kvs : List (PV × PV))
  | ins (c : Nat) (fs : List (Nm × PV))
  | ref (n : Nat)
  | gl (i : Nat)
  deriving Inhabited

/-- objects that may change -/
inductive PO where
  | lst (xs : List PV)
  | ins (c : Nat) (fs : List (Nm × PV))
  | dic (lk : Bool) (kvs : List (PV × PV))
  | dit (lk : Bool) (kvs : List (PV × PV))
  deriving Inhabited
abbrev PH := List PO

/-- what the text's top has left: its written part, its classes and its values by number -/
structure Wo where
  K : PySem.W.Frag
  cl : Nat → Option Addr
  gv : Nat → Option V
  W : World

def nmS (k : Nm) : Str := ⟨k.toArray⟩

/-- a dict's key: an int or a text -/
def keyP : PV → Option Key
  | .int i => some (.inl i)
  | .str s => some (.inr ⟨s.toArray⟩)
  | _ => none

/-- a list that nobody changes: an object of the written part, or one that is known to the object -/
def ScrL (w : Wo) (M : Addr → Prop) (H : Hp) (a : Addr) (vs : List V) : Prop :=
  (∃ (o : Obj) (its : Array Value) (n : Nat), w.K.lookup a = some o ∧ o.cls = .type "list" ∧ o.dict = none ∧ o.data = .seq its n ∧ its.size ≤ sizeLine ∧ Vals vs its.toList) ∨
    ∃ o, H a = some (.frz o (.lst vs)) ∧ ¬ M a
theorem ScrL.sq {w : Wo} {M : Addr → Prop} {H : Hp} {a : Addr} {vs : List V} (h : ScrL w M H a vs) : SqL w.K H a vs := h.elim .inr fun ⟨o, e, _⟩ => .inl (.inr ⟨o, e⟩)

mutual
inductive VR (w : Wo) (M : Addr → Prop) (rho : List Addr) (H : Hp) : PV → V → Prop
  | non : VR w M rho H .non .non
  | bl (b : Bool) : VR w M rho H (.bl b) (.bl b)
  | int (i : Int) : VR w M rho H (.int i) (.int i)
  | str (s : List Nat) : VR w M rho H (.str s) (.str ⟨s.toArray⟩)
  | tup {xs : List PV} {vs : List V} {a : Addr} : SqT w.K H a vs → VRs w M rho H xs vs → VR w M rho H (.tup xs) (.ref a)
  | scr {xs : List PV} {vs : List V} {a : Addr} : ScrL w M H a vs → VRs w M rho H xs vs → VR w M rho H (.scr xs) (.ref a)
  | rdic {kvs : List (PV × PV)} {ks : List (Key × V)} {a : Addr} {o : Obj} : H a = some (.frz o (.dK ks)) → ¬ M a → KRs w M rho H kvs ks → VR w M rho H (.rdic kvs) (.ref a)
  | ins {c : Nat} {C dx a : Addr} {fs : List (Nm × PV)} {gs : List (Str × V)} : w.cl c = some C → H a = some (.ins C dx gs) → ¬ M a → FRs w M rho H fs gs → VR w M rho H (.ins c fs) (.ref a)
  | ref {n : Nat} {a : Addr} : rho[n]? = some a → VR w M rho H (.ref n) (.ref a)
  | gl {i : Nat} {v : V} : w.gv i = some v → VR w M rho H (.gl i) v
inductive VRs (w : Wo) (M : Addr → Prop) (rho : List Addr) (H : Hp) : List PV → List V → Prop
  | nil : VRs w M rho H [] []
  | cons {x : PV} {v : V} {xs : List PV} {vs : List V} : VR w M rho H x v → VRs w M rho H xs vs → VRs w M rho H (x :: xs) (v :: vs)
inductive FRs (w : Wo) (M : Addr → Prop) (rho : List Addr) (H : Hp) : List (Nm × PV) → List (Str × V) → Prop
  | nil : FRs w M rho H [] []
  | cons {k : Nm} {x : PV} {v : V} {fs : List (Nm × PV)} {gs : List (Str × V)} : VR w M rho H x v → FRs w M rho H fs gs → FRs w M rho H ((k, x) :: fs) ((nmS k, v) :: gs)
inductive KRs (w : Wo) (M : Addr → Prop) (rho : List Addr) (H : Hp) : List (PV × PV) → List (Key × V) → Prop
  | nil : KRs w M rho H [] []
  | cons {k x : PV} {j : Key} {v : V} {fs : List (PV × PV)} {gs : List (Key × V)} : keyP k = some j → VR w M rho H x v → KRs w M rho H fs gs → KRs w M rho H ((k, x) :: fs) ((j, v) :: gs)
end

mutual
/-- a key of a dict whose keys are tuples -/
def nkP : PV → Option NestedKey
  | .non => some .none
  | .bl b => some (.num (if b = true then 1 else 0))
  | .int i => some (.num i)
  | .str s => some (.text ⟨s.toArray⟩)
  | .tup xs => match nkPs xs with
    | some ks => some (.tup ks)
    | none => none
  | .scr _ => none
  | .rdic _ => none
  | .ins _ _ => none
  | .ref _ => none
  | .gl _ => none
def nkPs : List PV → Option (List NestedKey)
  | [] => some []
  | x :: xs => match nkP x with
    | some k => match nkPs xs with
      | some ks => some (k :: ks)
      | none => none
    | none => none
end
/-- a dict whose keys are tuples, by its entries -/
def TDO (W : World) (a : Addr) (xs : List (NestedKey × Addr × Value)) : HO := .ext fun h => ∃ o es ep, h.get? a = some o ∧ o.ExactDict ∧ o.data = .dict es ep ∧ es.toList = xs.map fun x => ⟨x.1.hash W, .ref x.2.1, x.2.2⟩
inductive TRs (w : Wo) (M : Addr → Prop) (rho : List Addr) (H : Hp) : List (PV × PV) → List (NestedKey × Addr × Value) → Prop
  | nil : TRs w M rho H [] []
  | cons {k x : PV} {nk : NestedKey} {a : Addr} {u : Value} {v : V} {fs : List (PV × PV)} {gs : List (NestedKey × Addr × Value)} : nkP k = some nk → nk.depth ≤ 8 → VR w M rho H k (.ref a) → VR w M rho H x v → RelV v u → TRs w M rho H fs gs → TRs w M rho H ((k, x) :: fs) ((nk, a, u) :: gs)

def OR (w : Wo) (M : Addr → Prop) (rho : List Addr) (H : Hp) (a : Addr) : PO → Prop
  | .lst xs => ∃ vs, H a = some (.lst vs) ∧ VRs w M rho H xs vs
  | .ins c fs => ∃ C dx gs, w.cl c = some C ∧ H a = some (.ins C dx gs) ∧ FRs w M rho H fs gs
  | .dic lk kvs => ∃ ks, (bif lk then ∃ o, H a = some (.frz o (.dK ks)) else H a = some (.dK ks)) ∧ KRs w M rho H kvs ks
  | .dit lk kvs => ∃ xs, (bif lk then ∃ o, H a = some (.frz o (TDO w.W a xs)) else H a = some (TDO w.W a xs)) ∧ (a == sysModules) = false ∧ xs.length ≤ sizeLine ∧ (xs.map (·.1)).Nodup ∧ TRs w M rho H kvs xs

structure HR (w : Wo) (M : Addr → Prop) (rho : List Addr) (H : Hp) (h : PH) : Prop where
  len : h.length = rho.length
  nd : rho.Nodup
  mem : ∀ b ∈ rho, M b
  live : ∀ b, M b → H b ≠ none
  ob : ∀ (n : Nat) (o : PO), h[n]? = some o → ∃ a, rho[n]? = some a ∧ OR w M rho H a o

structure Step (M : Addr → Prop) (rho : List Addr) (H : Hp) (M' : Addr → Prop) (rho' : List Addr) (H' : Hp) : Prop where
  ext : ∀ (n : Nat) a, rho[n]? = some a → rho'[n]? = some a
  mono : ∀ b, M b → M' b
  fresh : ∀ b, M' b → M b ∨ H b = none
  new : ∀ b ∈ rho', b ∈ rho ∨ H b = none
  frame : ∀ b o, b ∉ rho → H b = some o → H' b = some o
  there : ∀ b, H b ≠ none → H' b ≠ none
  frz : ∀ b o u, H b = some (.frz o u) → H' b = some (.frz o u)

section
variable {w : Wo} {M M1 M2 : Addr → Prop} {rho rho1 rho2 : List Addr} {H H1 H2 : Hp} {h h1 : PH}

theorem Step.refl : Step M rho H M rho H := ⟨fun _ _ e => e, fun _ e => e, fun _ e => .inl e, fun _ e => .inl e, fun _ _ _ e => e, fun _ e => e, fun _ _ _ e => e⟩
theorem Step.trans (a : Step M rho H M1 rho1 H1) (b : Step M1 rho1 H1 M2 rho2 H2) : Step M rho H M2 rho2 H2 where
  ext := fun n x e => b.ext n x (a.ext n x e)
  mono := fun x e => b.mono x (a.mono x e)
  fresh := fun x e => by
    rcases b.fresh x e with e | e
    · exact a.fresh x e
    · refine .inr ?_
      cases q : H x with
      | none => rfl
      | some o => exact absurd e (a.there x (by rw [q]; exact Option.some_ne_none _))
  new := fun x e => by
    rcases b.new x e with e | e
    · exact a.new x e
    · refine .inr ?_
      cases q : H x with
      | none => rfl
      | some o => exact absurd e (a.there x (by rw [q]; exact Option.some_ne_none _))
  frame := fun x o n e => by
    refine b.frame x o (fun z => ?_) (a.frame x o n e)
    rcases a.new x z with z | z
    · exact n z
    · rw [z] at e; cases e
  there := fun x e => b.there x (a.there x e)
  frz := fun x o u e => b.frz x o u (a.frz x o u e)

/-- no tuple -/
def noT : HO → Bool
  | .tup _ => false
  | .frz _ (.tup _) => false
  | _ => true
theorem OR.some {a : Addr} {o : PO} (r : OR w M rho H a o) : ∃ u, H a = some u ∧ noT u = true := by
  cases o with
  | lst xs => obtain ⟨vs, e, _⟩ := r; exact ⟨_, e, rfl⟩
  | ins c fs => obtain ⟨_, _, _, _, e, _⟩ := r; exact ⟨_, e, rfl⟩
  | dic lk kvs =>
    obtain ⟨ks, e, _⟩ := r
    cases lk with
    | false => exact ⟨_, e, rfl⟩
    | true => obtain ⟨o, e⟩ := e; exact ⟨_, e, rfl⟩
  | dit lk kvs =>
    obtain ⟨ks, e, _⟩ := r
    cases lk with
    | false => exact ⟨_, e, rfl⟩
    | true => obtain ⟨o, e⟩ := e; exact ⟨_, e, rfl⟩
theorem HR.at (r : HR w M rho H h) {b : Addr} (hb : b ∈ rho) : ∃ u, H b = some u ∧ noT u = true := by
  obtain ⟨n, hn, e⟩ := List.mem_iff_getElem.mp hb
  have hl : n < h.length := by rw [r.len]; exact hn
  obtain ⟨a, ha, q⟩ := r.ob n h[n] (List.getElem?_eq_getElem hl)
  rw [List.getElem?_eq_getElem hn, e] at ha
  cases ha
  exact q.some
theorem Step.sqT (st : Step M rho H M1 rho1 H1) (r : HR w M rho H h) {K : PySem.W.Frag} {a : Addr} {vs : List V} (q : SqT K H a vs) : SqT K H1 a vs := by
  rcases q with (q | ⟨o, q⟩) | q
  · refine .inl (.inl (st.frame a _ (fun z => ?_) q))
    obtain ⟨u, e, n⟩ := r.at z
    rw [q] at e; cases e; cases n
  · refine .inl (.inr ⟨o, st.frame a _ (fun z => ?_) q⟩)
    obtain ⟨u, e, n⟩ := r.at z
    rw [q] at e; cases e; cases n
  · exact .inr q
theorem Step.no (st : Step M rho H M1 rho1 H1) {a : Addr} {u : HO} (q : H a = some u) (n : ¬ M a) : ¬ M1 a := fun z => by
  rcases st.fresh a z with z | z
  · exact n z
  · rw [q] at z; cases z
theorem Step.at (st : Step M rho H M1 rho1 H1) (r : HR w M rho H h) {a : Addr} {u : HO} (q : H a = some u) (n : ¬ M a) : H1 a = some u :=
  st.frame a u (fun z => n (r.mem a z)) q
theorem Step.scr (st : Step M rho H M1 rho1 H1) (r : HR w M rho H h) {a : Addr} {vs : List V} (q : ScrL w M H a vs) : ScrL w M1 H1 a vs := by
  rcases q with q | ⟨o, q, n⟩
  · exact .inl q
  · exact .inr ⟨o, st.at r q n, st.no q n⟩
mutual
theorem VR.step (st : Step M rho H M1 rho1 H1) (r : HR w M rho H h) : ∀ {x : PV} {v : V}, VR w M rho H x v → VR w M1 rho1 H1 x v
  | _, _, .non => .non
  | _, _, .bl b => .bl b
  | _, _, .int i => .int i
  | _, _, .str s => .str s
  | _, _, .tup q s => .tup (st.sqT r q) (VRs.step st r s)
  | _, _, .scr q s => .scr (st.scr r q) (VRs.step st r s)
  | _, _, .rdic e n s => .rdic (st.at r e n) (st.no e n) (KRs.step st r s)
  | _, _, .ins c e n s => .ins c (st.at r e n) (st.no e n) (FRs.step st r s)
  | _, _, .ref e => .ref (st.ext _ _ e)
  | _, _, .gl e => .gl e
theorem VRs.step (st : Step M rho H M1 rho1 H1) (r : HR w M rho H h) : ∀ {xs : List PV} {vs : List V}, VRs w M rho H xs vs → VRs w M1 rho1 H1 xs vs
  | _, _, .nil => .nil
  | _, _, .cons a b => .cons (VR.step st r a) (VRs.step st r b)
theorem FRs.step (st : Step M rho H M1 rho1 H1) (r : HR w M rho H h) : ∀ {fs : List (Nm × PV)} {gs : List (Str × V)}, FRs w M rho H fs gs → FRs w M1 rho1 H1 fs gs
  | _, _, .nil => .nil
  | _, _, .cons a b => .cons (VR.step st r a) (FRs.step st r b)
theorem KRs.step (st : Step M rho H M1 rho1 H1) (r : HR w M rho H h) : ∀ {fs : List (PV × PV)} {gs : List (Key × V)}, KRs w M rho H fs gs → KRs w M1 rho1 H1 fs gs
  | _, _, .nil => .nil
  | _, _, .cons k a b => .cons k (VR.step st r a) (KRs.step st r b)
end

theorem TRs.step (st : Step M rho H M1 rho1 H1) (r : HR w M rho H h) : ∀ {fs : List (PV × PV)} {gs : List (NestedKey × Addr × Value)}, TRs w M rho H fs gs → TRs w M1 rho1 H1 fs gs
  | _, _, .nil => .nil
  | _, _, .cons k d a b c q => .cons k d (a.step st r) (b.step st r) c (TRs.step st r q)
theorem TRs.length : ∀ {fs : List (PV × PV)} {gs : List (NestedKey × Addr × Value)}, TRs w M rho H fs gs → gs.length = fs.length
  | _, _, .nil => rfl
  | _, _, .cons _ _ _ _ _ b => by rw [List.length_cons, List.length_cons, TRs.length b]
theorem VRs.length : ∀ {xs : List PV} {vs : List V}, VRs w M rho H xs vs → vs.length = xs.length
  | _, _, .nil => rfl
  | _, _, .cons _ b => by rw [List.length_cons, List.length_cons, VRs.length b]
theorem VRs.get : ∀ {xs : List PV} {vs : List V} {i : Nat} {x : PV}, VRs w M rho H xs vs → xs[i]? = some x → ∃ v, vs[i]? = some v ∧ VR w M rho H x v
  | _, _, i, _, .nil, e => by simp at e
  | _, _, 0, _, .cons a _, e => by simp at e; subst e; exact ⟨_, rfl, a⟩
  | _, _, i + 1, x, .cons _ b, e => by
    obtain ⟨v, h1, h2⟩ := VRs.get (i := i) (x := x) b (by simpa using e)
    exact ⟨v, by simpa using h1, h2⟩
theorem VRs.append : ∀ {xs ys : List PV} {vs us : List V}, VRs w M rho H xs vs → VRs w M rho H ys us → VRs w M rho H (xs ++ ys) (vs ++ us)
  | _, _, _, _, .nil, s => s
  | _, _, _, _, .cons r t, s => .cons r (VRs.append t s)
theorem VRs.take : ∀ {xs : List PV} {vs : List V} (n : Nat), VRs w M rho H xs vs → VRs w M rho H (xs.take n) (vs.take n)
  | _, _, 0, _ => .nil
  | _, _, _ + 1, .nil => .nil
  | _, _, n + 1, .cons r t => .cons r (VRs.take n t)
theorem VRs.drop : ∀ {xs : List PV} {vs : List V} (n : Nat), VRs w M rho H xs vs → VRs w M rho H (xs.drop n) (vs.drop n)
  | _, _, 0, r => r
  | _, _, _ + 1, .nil => .nil
  | _, _, n + 1, .cons _ t => VRs.drop n t
theorem VRs.set {x : PV} {v : V} (r : VR w M rho H x v) : ∀ {xs : List PV} {vs : List V} (i : Nat), VRs w M rho H xs vs → VRs w M rho H (xs.set i x) (vs.set i v)
  | _, _, _, .nil => .nil
  | _, _, 0, .cons _ t => .cons r t
  | _, _, i + 1, .cons q t => .cons q (VRs.set r i t)

/-- all that stood stands, more may be laid -/
theorem Step.grow (e : ∀ b o, H b = some o → H1 b = some o) : Step M rho H M rho H1 where
  ext := fun _ _ e => e
  mono := fun _ e => e
  fresh := fun _ e => .inl e
  new := fun _ e => .inl e
  frame := fun b o _ q => e b o q
  there := fun b q z => by
    cases p : H b with
    | none => exact q p
    | some o => rw [e b o p] at z; cases z
  frz := fun b o u q => e b _ q
theorem OR.step (st : Step M rho H M1 rho1 H1) (r : HR w M rho H h) {a : Addr} {o : PO} (e : H1 a = H a) (q : OR w M rho H a o) : OR w M1 rho1 H1 a o := by
  cases o with
  | lst xs => obtain ⟨vs, p, s⟩ := q; exact ⟨vs, e.trans p, s.step st r⟩
  | ins c fs => obtain ⟨C, dx, gs, p1, p, s⟩ := q; exact ⟨C, dx, gs, p1, e.trans p, s.step st r⟩
  | dic lk kvs =>
    obtain ⟨ks, p, s⟩ := q
    refine ⟨ks, ?_, s.step st r⟩
    cases lk with
    | false => exact e.trans p
    | true => obtain ⟨o, p⟩ := p; exact ⟨o, e.trans p⟩
  | dit lk kvs =>
    obtain ⟨ks, p, z1, z2, z3, s⟩ := q
    refine ⟨ks, ?_, z1, z2, z3, s.step st r⟩
    cases lk with
    | false => exact e.trans p
    | true => obtain ⟨o, p⟩ := p; exact ⟨o, e.trans p⟩
theorem HR.grow (r : HR w M rho H h) (e : ∀ b o, H b = some o → H1 b = some o) : HR w M rho H1 h where
  len := r.len
  nd := r.nd
  mem := r.mem
  live := fun b m => (Step.grow (M := M) (rho := rho) e).there b (r.live b m)
  ob := fun n o q => by
    obtain ⟨a, ha, s⟩ := r.ob n o q
    obtain ⟨u, hu, _⟩ := s.some
    exact ⟨a, ha, s.step (Step.grow e) r ((e a u hu).trans hu.symm)⟩
theorem same_upd {p : Addr} {o : HO} (n : H p = none) : ∀ b u, H b = some u → upd H p o b = some u := fun b u e => by
  rw [upd_ne (ne_of_none e n)]; exact e

/-- a new object of the list heap -/
theorem Step.alloc {p : Addr} {o : HO} (n : H p = none) : Step M rho H (fun b => M b ∨ b = p) (rho ++ [p]) (upd H p o) where
  ext := fun i a e => by
    have hi : i < rho.length := (List.getElem?_eq_some_iff.mp e).1
    rw [List.getElem?_append_left hi]; exact e
  mono := fun b e => .inl e
  fresh := fun b e => e.elim .inl fun z => .inr (by rw [z]; exact n)
  new := fun b e => by
    rcases List.mem_append.mp e with z | z
    · exact .inl z
    · rw [List.mem_singleton.mp z]; exact .inr n
  frame := fun b u _ e => same_upd n b u e
  there := fun b e => (Step.grow (M := M) (rho := rho) (same_upd (o := o) n)).there b e
  frz := fun b u v e => same_upd n b _ e
theorem HR.alloc (r : HR w M rho H h) {p : Addr} {o : HO} (n : H p = none) {po : PO} (q : OR w (fun b => M b ∨ b = p) (rho ++ [p]) (upd H p o) p po) :
    HR w (fun b => M b ∨ b = p) (rho ++ [p]) (upd H p o) (h ++ [po]) where
  len := by rw [List.length_append, List.length_append, r.len]; rfl
  nd := by
    refine List.nodup_append.mpr ⟨r.nd, (by simp), fun a ha b hb e => ?_⟩
    rw [List.mem_singleton] at hb
    subst e; subst hb
    exact r.live _ (r.mem _ ha) n
  mem := fun b hb => (List.mem_append.mp hb).elim (fun z => .inl (r.mem b z)) fun z => .inr (List.mem_singleton.mp z)
  live := fun b hb => hb.elim (fun z => (Step.alloc (M := M) (rho := rho) (o := o) n).there b (r.live b z)) fun z => by rw [z, upd_same]; exact Option.some_ne_none _
  ob := fun i u e => by
    by_cases hi : i < h.length
    · rw [List.getElem?_append_left hi] at e
      obtain ⟨a, ha, s⟩ := r.ob i u e
      obtain ⟨v, hv, _⟩ := s.some
      exact ⟨a, (Step.alloc (M := M) (rho := rho) (o := o) n).ext i a ha, s.step (Step.alloc n) r (upd_ne (ne_of_none hv n))⟩
    · have hi2 : i = h.length := by
        have z := (List.getElem?_eq_some_iff.mp e).1
        rw [List.length_append, List.length_singleton] at z
        omega
      subst hi2
      rw [List.getElem?_append_right (Nat.le_refl _), Nat.sub_self] at e
      cases e
      refine ⟨p, ?_, q⟩
      rw [List.getElem?_append_right (by rw [r.len]; exact Nat.le_refl _), r.len, Nat.sub_self]
      rfl
/-- the n-th object is written -/
theorem Step.write (r : HR w M rho H h) {n : Nat} {a : Addr} {o : HO} (e : rho[n]? = some a) (nf : ∀ p u, H a ≠ some (.frz p u)) : Step M rho H M rho (upd H a o) where
  ext := fun _ _ e => e
  mono := fun _ e => e
  fresh := fun _ e => .inl e
  new := fun _ e => .inl e
  frame := fun b u nb q => by
    rw [upd_ne]
    · exact q
    · rintro rfl
      exact nb (List.mem_of_getElem? e)
  there := fun b q => by
    by_cases hb : b = a
    · subst hb; rw [upd_same]; exact Option.some_ne_none _
    · rw [upd_ne hb]; exact q
  frz := fun b p u q => by
    rw [upd_ne]
    · exact q
    · rintro rfl
      exact nf p u q
theorem HR.write (r : HR w M rho H h) {n : Nat} {a : Addr} {o : HO} {po : PO} (e : rho[n]? = some a) (nf : ∀ p u, H a ≠ some (.frz p u)) (q : OR w M rho (upd H a o) a po) : HR w M rho (upd H a o) (h.set n po) where
  len := by rw [List.length_set]; exact r.len
  nd := r.nd
  mem := r.mem
  live := fun b hb => (Step.write r (o := o) e nf).there b (r.live b hb)
  ob := fun i u z => by
    by_cases hi : i = n
    · subst hi
      have hl : i < h.length := by
        have := (List.getElem?_eq_some_iff.mp z).1
        rwa [List.length_set] at this
      rw [List.getElem?_set_self hl] at z
      cases z
      exact ⟨a, e, q⟩
    · rw [List.getElem?_set_ne (Ne.symm hi)] at z
      obtain ⟨b, hb, s⟩ := r.ob i u z
      refine ⟨b, hb, s.step (Step.write r e nf) r (upd_ne ?_)⟩
      rintro rfl
      obtain ⟨h1, e1⟩ := List.getElem?_eq_some_iff.mp hb
      obtain ⟨h2, e2⟩ := List.getElem?_eq_some_iff.mp e
      exact hi ((List.getElem_inj r.nd).mp (e1.trans e2.symm))
end

/-- an outcome: a value and the heap behind it; an exception (its class, its attributes); or nothing is said -/
inductive R (α : Type) where
  | ok (a : α) (h : PH)
  | exc (c : Nat) (fs : List (Nm × PV)) (h : PH)
  | stuck
/-- the kind depends on f, so that simp leaves f alone -/
@[reducible] def RT {α β : Type} (_ : α → PH → R β) : Type := R β
def R.bind {α β : Type} (r : R α) (f : α → PH → R β) : RT f := match r with
  | .ok a h => f a h
  | .exc c fs h => .exc c fs h
  | .stuck => .stuck
/-- what is wanted of an exception -/
abbrev XC := Nat → List (Nm × PV) → PH → (Addr → Prop) → List Addr → Hp → Prop
abbrev KC (α : Type) := α → PH → (Addr → Prop) → List Addr → Hp → Prop
def Out {α : Type} (w : Wo) (EX : XC) (M : Addr → Prop) (rho : List Addr) (H : Hp) (r : R α) (k : KC α) : Prop := match r with
  | .ok a h => ∀ M' rho' H', Step M rho H M' rho' H' → HR w M' rho' H' h → k a h M' rho' H'
  | .exc c fs h => ∀ M' rho' H', Step M rho H M' rho' H' → HR w M' rho' H' h → EX c fs h M' rho' H'
  | .stuck => False
section
variable {w : Wo} {EX : XC} {M M1 : Addr → Prop} {rho rho1 : List Addr} {H H1 : Hp} {α β : Type}
theorem Out.step {r : R α} {k : KC α} (o : Out w EX M rho H r k) (st : Step M rho H M1 rho1 H1) : Out w EX M1 rho1 H1 r k := by
  cases r with
  | ok a h => exact fun M' rho' H' s q => o M' rho' H' (st.trans s) q
  | exc c fs h => exact fun M' rho' H' s q => o M' rho' H' (st.trans s) q
  | stuck => exact o
theorem Out.bind {r : R α} {f : α → PH → R β} {k : KC β} (o : Out w EX M rho H (r.bind f) k) : Out w EX M rho H r fun a h M' rho' H' => Out w EX M' rho' H' (f a h) k := by
  cases r with
  | ok a h => exact fun M' rho' H' s _ => Out.step (show Out w EX M rho H (f a h) k from o) s
  | exc c fs h => exact o
  | stuck => exact o
theorem Out.imp {r : R α} {k k' : KC α} (o : Out w EX M rho H r k) (i : ∀ a h M' rho' H', Step M rho H M' rho' H' → HR w M' rho' H' h → k a h M' rho' H' → k' a h M' rho' H') : Out w EX M rho H r k' := by
  cases r with
  | ok a h => exact fun M' rho' H' s q => i a h M' rho' H' s q (o M' rho' H' s q)
  | exc c fs h => exact o
  | stuck => exact o
theorem Out.now {a : α} {h : PH} {k : KC α} (o : Out w EX M rho H (.ok a h) k) (q : HR w M rho H h) : k a h M rho H := o M rho H Step.refl q
end
end MC

end
section
set_option maxRecDepth 100000
set_option maxHeartbeats 4000000
namespace MC
open PySem PySem.Spec PyProof.Rows L2

/-- slots -/
abbrev Sl := L2.St
abbrev ME0 := List (Option PV) → PH → R PV
/-- the mirrors: of an expression, a test, an argument list -/
abbrev ME := ME0
abbrev MT := List (Option PV) → PH → R Bool
abbrev MA := List (Option PV) → PH → R (List PV)

/-- what a context must be for the rules -/
structure Cxt (w : Wo) (k : Nat) (X : Cx) : Prop where
  hK : X.K = w.K
  hW : X.w = w.W
  calm : X.calm = true
  room : Room k X.A
  grd : X.A.guards = some []
  own : PassesOwn (model X.prog X.w) X.A X.env X.xe

inductive ER (w : Wo) (M : Addr → Prop) (rho : List Addr) (H : Hp) : List (Option PV) → Sl → Prop
  | nil : ER w M rho H [] []
  | has {x : PV} {v : V} {e : List (Option PV)} {s : Sl} : VR w M rho H x v → ER w M rho H e s → ER w M rho H (some x :: e) (some v :: s)
  | no {v : Option V} {e : List (Option PV)} {s : Sl} : ER w M rho H e s → ER w M rho H (none :: e) (v :: s)
section
variable {w : Wo} {M M1 : Addr → Prop} {rho rho1 : List Addr} {H H1 : Hp} {h : PH}
theorem ER.step (st : Step M rho H M1 rho1 H1) (r : HR w M rho H h) : ∀ {e : List (Option PV)} {s : Sl}, ER w M rho H e s → ER w M1 rho1 H1 e s
  | _, _, .nil => .nil
  | _, _, .has a b => .has (a.step st r) (ER.step st r b)
  | _, _, .no b => .no (ER.step st r b)
theorem ER.get : ∀ {e : List (Option PV)} {s : Sl} {i : Nat} {x : PV}, ER w M rho H e s → e[i]? = some (some x) → ∃ v, s[i]? = some (some v) ∧ VR w M rho H x v
  | _, _, i, _, .nil, q => by simp at q
  | _, _, 0, _, .has a _, q => by simp at q; subst q; exact ⟨_, rfl, a⟩
  | _, _, 0, _, .no _, q => by simp at q
  | _, _, i + 1, x, .has _ b, q => by
    obtain ⟨v, h1, h2⟩ := ER.get (i := i) (x := x) b (by simpa using q)
    exact ⟨v, by simpa using h1, h2⟩
  | _, _, i + 1, x, .no b, q => by
    obtain ⟨v, h1, h2⟩ := ER.get (i := i) (x := x) b (by simpa using q)
    exact ⟨v, by simpa using h1, h2⟩
theorem ER.set {x : PV} {v : V} (r : VR w M rho H x v) : ∀ {e : List (Option PV)} {s : Sl} (i : Nat), ER w M rho H e s → ER w M rho H (e.set i (some x)) (s.set i (some v))
  | _, _, _, .nil => .nil
  | _, _, 0, .has _ b => .has r b
  | _, _, 0, .no b => .has r b
  | _, _, i + 1, .has a b => .has a (ER.set r i b)
  | _, _, i + 1, .no b => .no (ER.set r i b)
theorem ER.drop : ∀ {e : List (Option PV)} {s : Sl} (i : Nat) (v : Option V), ER w M rho H e s → ER w M rho H (e.set i none) (s.set i v)
  | _, _, _, _, .nil => .nil
  | _, _, 0, _, .has _ b => .no b
  | _, _, 0, _, .no b => .no b
  | _, _, i + 1, v, .has a b => .has a (ER.drop i v b)
  | _, _, i + 1, v, .no b => .no (ER.drop i v b)
theorem ER.length : ∀ {e : List (Option PV)} {s : Sl}, ER w M rho H e s → e.length = s.length
  | _, _, .nil => rfl
  | _, _, .has _ b => by rw [List.length_cons, List.length_cons, ER.length b]
  | _, _, .no b => by rw [List.length_cons, List.length_cons, ER.length b]
end

/-- a value's end -/
def KV (w : Wo) (Q : VK) : KC PV := fun x _ M rho H => ∀ v, VR w M rho H x v → Q v H
def KA (w : Wo) (Q : List V → Hp → Prop) : KC (List PV) := fun xs _ M rho H => ∀ vs, VRs w M rho H xs vs → Q vs H
def KB (Q : Bool → Hp → Prop) : KC Bool := fun b _ _ _ H => Q b H
/-- the readings -/
def tM (w : Wo) (EX : XC) (m : ME) : TE := fun σ H Q => ∃ M rho env h, ER w M rho H env σ ∧ HR w M rho H h ∧ Out w EX M rho H (m env h) (KV w Q)
def tT (w : Wo) (EX : XC) (m : MT) : TT := fun σ H Q => ∃ M rho env h, ER w M rho H env σ ∧ HR w M rho H h ∧ Out w EX M rho H (m env h) (KB Q)
def tA (w : Wo) (EX : XC) (m : MA) : TA := fun σ H Q => ∃ M rho env h, ER w M rho H env σ ∧ HR w M rho H h ∧ Out w EX M rho H (m env h) (KA w Q)
theorem PE.imp {X : Cx} {e : Expr} {t t' : TE} (p : PE X e t) (i : ∀ σ H Q, t' σ H Q → t σ H Q) : PE X e t' := ⟨fun pins s σ H Q I h => p.run pins s σ H Q I (i σ H Q h)⟩
theorem PT.imp {X : Cx} {e : Expr} {t t' : TT} (p : PT X e t) (i : ∀ σ H Q, t' σ H Q → t σ H Q) : PT X e t' := ⟨fun pins s σ H Q I h => p.run pins s σ H Q I (i σ H Q h)⟩
theorem PW.imp {X : Cx} {e : Expr} {t t' : TT} (p : PW X e t) (i : ∀ σ H Q, t' σ H Q → t σ H Q) : PW X e t' := ⟨fun wh pins s σ H Q I h => p.run wh pins s σ H Q I (i σ H Q h)⟩
theorem PA.imp {X : Cx} {es : List Expr} {t t' : TA} (p : PA X es t) (i : ∀ σ H Q, t' σ H Q → t σ H Q) : PA X es t' := ⟨fun ps pins s σ H Q I h => p.run ps pins s σ H Q I (i σ H Q h)⟩

section
variable {w : Wo} {EX : XC} {M : Addr → Prop} {rho : List Addr} {H : Hp} {env : List (Option PV)} {σ : Sl} {h : PH}
/-- from an outcome with any end to the reading -/
theorem tM.of {m : ME} {k : KC PV} {Q : VK} (er : ER w M rho H env σ) (hr : HR w M rho H h) (o : Out w EX M rho H (m env h) k)
    (i : ∀ x h1 M1 rho1 H1 v, Step M rho H M1 rho1 H1 → ER w M1 rho1 H1 env σ → HR w M1 rho1 H1 h1 → k x h1 M1 rho1 H1 → VR w M1 rho1 H1 x v → Q v H1) : tM w EX m σ H Q :=
  ⟨M, rho, env, h, er, hr, o.imp fun x h1 M1 rho1 H1 st hr1 q v r => i x h1 M1 rho1 H1 v st (er.step st hr) hr1 q r⟩
theorem tT.of {m : MT} {k : KC Bool} {Q : Bool → Hp → Prop} (er : ER w M rho H env σ) (hr : HR w M rho H h) (o : Out w EX M rho H (m env h) k)
    (i : ∀ x h1 M1 rho1 H1, Step M rho H M1 rho1 H1 → ER w M1 rho1 H1 env σ → HR w M1 rho1 H1 h1 → k x h1 M1 rho1 H1 → Q x H1) : tT w EX m σ H Q :=
  ⟨M, rho, env, h, er, hr, o.imp fun x h1 M1 rho1 H1 st hr1 q => i x h1 M1 rho1 H1 st (er.step st hr) hr1 q⟩
theorem tA.of {m : MA} {k : KC (List PV)} {Q : List V → Hp → Prop} (er : ER w M rho H env σ) (hr : HR w M rho H h) (o : Out w EX M rho H (m env h) k)
    (i : ∀ x h1 M1 rho1 H1 v, Step M rho H M1 rho1 H1 → ER w M1 rho1 H1 env σ → HR w M1 rho1 H1 h1 → k x h1 M1 rho1 H1 → VRs w M1 rho1 H1 x v → Q v H1) : tA w EX m σ H Q :=
  ⟨M, rho, env, h, er, hr, o.imp fun x h1 M1 rho1 H1 st hr1 q v r => i x h1 M1 rho1 H1 v st (er.step st hr) hr1 q r⟩
end

def mVar (i : Nat) : ME := fun env h => match env[i]? with
  | some (some x) => .ok x h
  | _ => .stuck
def mC (x : PV) : ME := fun _ h => .ok x h
section
variable {w : Wo} {EX : XC} {X : Cx} {k : Nat}
theorem me_var (i : Nat) {x : Str} {pos : Pos} (hN : X.N[i]? = some x := by rfl) (hv : Vis X.env.scope x := by first | exact Or.inl rfl | exact Or.inr (Or.inl rfl) | exact Or.inr (Or.inr rfl)) (hd : (x == ("__debug__" : Str)) = false := by decide)
    (hcd : (x == ("__classdict__" : Str)) = false := by decide) : PE X (.Name x pos) (tM w EX (mVar i)) := by
  refine PE.imp (pv i hN hv hd hcd) fun σ H Q h => ?_
  obtain ⟨M, rho, env, hh, er, hr, o⟩ := h
  unfold mVar at o
  cases e : env[i]? with
  | none => rw [e] at o; exact o.elim
  | some a =>
    cases a with
    | none => rw [e] at o; exact o.elim
    | some x =>
      rw [e] at o
      obtain ⟨v, e1, r⟩ := er.get e
      exact ⟨v, e1, o.now hr v r⟩
theorem me_const {e : Expr} {v : V} {x : PV} (p : PE X e (tC v)) (r : ∀ M rho H, VR w M rho H x v) : PE X e (tM w EX (mC x)) := by
  refine PE.imp p fun σ H Q h => ?_
  obtain ⟨M, rho, env, hh, er, hr, o⟩ := h
  exact o.now hr v (r M rho H)
theorem me_int {i : Int} {j pos} : PE X (.Constant (.int i) j pos) (tM w EX (mC (.int i))) := me_const pe_int fun _ _ _ => .int i
theorem me_bl {b : Bool} {j pos} : PE X (.Constant (.bool b) j pos) (tM w EX (mC (.bl b))) := me_const pe_bl fun _ _ _ => .bl b
theorem me_non {j pos} : PE X (.Constant .none j pos) (tM w EX (mC .non)) := me_const pe_non fun _ _ _ => .non
theorem me_str {x : Str} {j pos} (s : List Nat) (e : x = ⟨s.toArray⟩ := by decide +kernel) : PE X (.Constant (.str x) j pos) (tM w EX (mC (.str s))) := by
  subst e
  exact me_const pe_str fun _ _ _ => .str s
/-- a global whose value is told by number -/
theorem me_gl (i : Nat) {x : Str} {v : V} {u : Value} {pos : Pos} (hg : Gl X x) (hm : X.mg x = some u) (r : RelV v u) (hv : w.gv i = some v) (hd : (x == ("__debug__" : Str)) = false := by decide) : PE X (.Name x pos) (tM w EX (mC (.gl i))) :=
  me_const (pe_glob hg hm r hd) fun _ _ _ => .gl hv
/-- a global that holds an int, a text -/
theorem me_gint (i : Int) {x : Str} {t : Tok} {pos : Pos} (hg : Gl X x) (hm : X.mg x = some (.int i t)) (hd : (x == ("__debug__" : Str)) = false := by decide) : PE X (.Name x pos) (tM w EX (mC (.int i))) :=
  me_const (pe_glob (v := .int i) hg hm ⟨t, rfl⟩ hd) fun _ _ _ => .int i
theorem me_gstr (s : List Nat) {x z : Str} {t : Tok} {pos : Pos} (hg : Gl X x) (hm : X.mg x = some (.str z t)) (e : z = ⟨s.toArray⟩) (hd : (x == ("__debug__" : Str)) = false := by decide) : PE X (.Name x pos) (tM w EX (mC (.str s))) := by
  subst e
  exact me_const (pe_glob (v := .str ⟨s.toArray⟩) hg hm ⟨t, rfl⟩ hd) fun _ _ _ => .str s
/-- a global whose value stands for ever as it is told (a tuple of the top) -/
theorem me_gval (y : PV) {x : Str} {v : V} {u : Value} {pos : Pos} (hg : Gl X x) (hm : X.mg x = some u) (r : RelV v u) (hy : ∀ M rho H, VR w M rho H y v) (hd : (x == ("__debug__" : Str)) = false := by decide) : PE X (.Name x pos) (tM w EX (mC y)) :=
  me_const (pe_glob hg hm r hd) hy
end

def LIM : Nat := 16777216
theorem lim_eq : (sizeLine : Nat) = LIM := sizeLine_eq
def maNil : MA := fun _ h => .ok [] h
def maCons (m : ME) (ms : MA) : MA := fun env h => (m env h).bind fun x h1 => (ms env h1).bind fun xs h2 => .ok (x :: xs) h2
def mTup (ms : MA) : ME := fun env h => (ms env h).bind fun xs h1 => if xs.length ≤ LIM then .ok (.tup xs) h1 else .stuck
def mLst (ms : MA) : ME := fun env h => (ms env h).bind fun xs h1 => if xs.length ≤ LIM then .ok (.ref h1.length) (h1 ++ [.lst xs]) else .stuck
section
variable {w : Wo} {EX : XC} {X : Cx} {k : Nat} {M : Addr → Prop} {rho : List Addr} {H : Hp} {h : PH}
theorem ma_nil : PA X [] (tA w EX maNil) := by
  refine PA.imp pa_nil fun σ H Q h => ?_
  obtain ⟨M, rho, env, hh, er, hr, o⟩ := h
  exact o.now hr [] .nil
theorem ma_cons {e : Expr} {es : List Expr} {m : ME} {ms : MA} (ha : PE X e (tM w EX m)) (hb : PA X es (tA w EX ms)) (hs : starEach (e :: es) X.env = (false, eval e X.env) :: starEach es X.env := by rfl) : PA X (e :: es) (tA w EX (maCons m ms)) := by
  refine PA.imp (pa_cons ha hb hs) fun σ H Q h => ?_
  obtain ⟨M, rho, env, hh, er, hr, o⟩ := h
  refine tM.of er hr o.bind fun x h1 M1 rho1 H1 v st1 er1 hr1 o1 rv => ?_
  refine ⟨M1, rho1, env, h1, er1, hr1, (Out.bind o1).imp fun ys h2 M2 rho2 H2 st2 hr2 o2 us rs => ?_⟩
  exact o2.now hr2 (v :: us) (.cons (rv.step st2 hr1) rs)
/-- a new tuple -/
theorem KV.tup {xs : List PV} {vs : List V} {Q : VK} (hr : HR w M rho H h) (o : Out w EX M rho H (.ok (.tup xs) h) (KV w Q)) (r : VRs w M rho H xs vs) : ∀ p, H p = none → Q (.ref p) (upd H p (.tup vs)) := fun p n =>
  o M rho _ (Step.grow (same_upd n)) (hr.grow (same_upd n)) _ (.tup (SqT.of upd_same) (r.step (Step.grow (same_upd n)) hr))
/-- a new list -/
theorem KV.lst {xs : List PV} {vs : List V} {Q : VK} (hr : HR w M rho H h) (o : Out w EX M rho H (.ok (.ref h.length) (h ++ [.lst xs])) (KV w Q)) (r : VRs w M rho H xs vs) : ∀ p, H p = none → Q (.ref p) (upd H p (.lst vs)) := fun p n => by
  have st := Step.alloc (M := M) (rho := rho) (o := .lst vs) n
  have r2 := r.step st hr
  refine o _ _ _ st (hr.alloc n ⟨vs, upd_same, r2⟩) _ (.ref ?_)
  rw [List.getElem?_append_right (by rw [hr.len]; exact Nat.le_refl _), hr.len, Nat.sub_self]
  rfl
theorem me_tup {es : List Expr} {ms : MA} {x1 pos} (ha : PA X es (tA w EX ms)) : PE X (.Tuple es x1 pos) (tM w EX (mTup ms)) := by
  refine PE.imp (pe_tup ha) fun σ H Q h => ?_
  obtain ⟨M, rho, env, hh, er, hr, o⟩ := h
  refine tA.of er hr o.bind fun xs h1 M1 rho1 H1 vs st1 er1 hr1 o1 rs => ?_
  by_cases hl : xs.length ≤ LIM
  · simp only [hl, if_true] at o1
    exact ⟨by rw [rs.length, lim_eq]; exact hl, KV.tup hr1 o1 rs⟩
  · simp only [hl, if_false] at o1
    exact o1.elim
theorem me_lst {es : List Expr} {ms : MA} {pos} (ha : PA X es (tA w EX ms)) : PE X (.List es pos) (tM w EX (mLst ms)) := by
  refine PE.imp (pe_lst ha) fun σ H Q h => ?_
  obtain ⟨M, rho, env, hh, er, hr, o⟩ := h
  refine tA.of er hr o.bind fun xs h1 M1 rho1 H1 vs st1 er1 hr1 o1 rs => ?_
  by_cases hl : xs.length ≤ LIM
  · simp only [hl, if_true] at o1
    exact ⟨by rw [rs.length, lim_eq]; exact hl, KV.lst hr1 o1 rs⟩
  · simp only [hl, if_false] at o1
    exact o1.elim
end

abbrev O2 := PH → PV → PV → R PV
abbrev O1 := PH → PV → R PV
def r2 (w : Wo) (EX : XC) (op : O2) : R2 := fun x y H Q => ∃ M rho h px py, HR w M rho H h ∧ VR w M rho H px x ∧ VR w M rho H py y ∧ Out w EX M rho H (op h px py) (KV w Q)
def r1 (w : Wo) (EX : XC) (op : O1) : V → Hp → VK → Prop := fun x H Q => ∃ M rho h px, HR w M rho H h ∧ VR w M rho H px x ∧ Out w EX M rho H (op h px) (KV w Q)
def rA (w : Wo) (EX : XC) (op : PH → List PV → R PV) : List V → Hp → VK → Prop := fun xs H Q => ∃ M rho h ps, HR w M rho H h ∧ VRs w M rho H ps xs ∧ Out w EX M rho H (op h ps) (KV w Q)
def mOp (op : O2) (ma mb : ME) : ME := fun env h => (ma env h).bind fun x h1 => (mb env h1).bind fun y h2 => op h2 x y
def mUn (op : O1) (ma : ME) : ME := fun env h => (ma env h).bind fun x h1 => op h1 x
section
variable {w : Wo} {EX : XC} {X : Cx} {k : Nat} {a b : Expr} {ma mb : ME} {pos : Pos}
theorem tM_op {op : O2} {σ : Sl} {H : Hp} {Q : VK} (h : tM w EX (mOp op ma mb) σ H Q) : tOp (r2 w EX op) (tM w EX ma) (tM w EX mb) σ H Q := by
  obtain ⟨M, rho, env, hh, er, hr, o⟩ := h
  refine tM.of er hr o.bind fun x h1 M1 rho1 H1 v st1 er1 hr1 o1 rv => ?_
  refine ⟨M1, rho1, env, h1, er1, hr1, (Out.bind o1).imp fun y h2 M2 rho2 H2 st2 hr2 o2 u ru => ?_⟩
  exact ⟨M2, rho2, h2, x, y, hr2, rv.step st2 hr1, ru, o2⟩
theorem tM_un {op : O1} {σ : Sl} {H : Hp} {Q : VK} (h : tM w EX (mUn op ma) σ H Q) : tUn (r1 w EX op) (tM w EX ma) σ H Q := by
  obtain ⟨M, rho, env, hh, er, hr, o⟩ := h
  exact tM.of er hr o.bind fun x h1 M1 rho1 H1 v st1 er1 hr1 o1 rv => ⟨M1, rho1, h1, x, hr1, rv, o1⟩
theorem me_op {op : Operator} {f : O2} (ho : OpR X (binaryOp op) (r2 w EX f)) (ha : PE X a (tM w EX ma)) (hb : PE X b (tM w EX mb)) : PE X (.BinOp a op b pos) (tM w EX (mOp f ma mb)) :=
  PE.imp (pe_op ho ha hb) fun _ _ _ h => tM_op h
theorem me_un {op : UnaryOp} {f : O1} (ho : UnR X (unaryOp op) (r1 w EX f)) (ha : PE X a (tM w EX ma)) : PE X (.UnaryOp op a pos) (tM w EX (mUn f ma)) :=
  PE.imp (pe_un ho ha) fun _ _ _ h => tM_un h
theorem me_cmp {op : CmpOp} {f : O2} (ho : OpR X (compareOp op) (r2 w EX f)) (ha : PE X a (tM w EX ma)) (hb : PE X b (tM w EX mb)) (hm : behindInMarks op b = false) : PE X (.Compare a [op] [b] pos) (tM w EX (mOp f ma mb)) :=
  PE.imp (pe_cmpR ho ha hb hm) fun _ _ _ h => tM_op h
end

/-- of a bool -/
def asB (r : R PV) : R Bool := r.bind fun x h => match x with
  | .bl b => .ok b h
  | _ => .stuck
def mTB (m : ME) : MT := fun env h => asB (m env h)
section
variable {w : Wo} {EX : XC} {X : Cx} {k : Nat} {a b c : Expr} {ma mb mc : ME} {pos : Pos}
theorem tM_test {σ : Sl} {H : Hp} {Q : Bool → Hp → Prop} (h : tT w EX (mTB ma) σ H Q) : tTest (tM w EX ma) σ H Q := by
  obtain ⟨M, rho, env, hh, er, hr, o⟩ := h
  refine tM.of er hr (Out.bind o) fun x h1 M1 rho1 H1 v st1 er1 hr1 o1 rv => ?_
  cases rv with
  | bl b => exact ⟨b, rfl, o1.now hr1⟩
  | _ => exact (show False from o1).elim
theorem mt_cmp {op : CmpOp} {f : O2} (ho : OpR X (compareOp op) (r2 w EX f)) (ha : PE X a (tM w EX ma)) (hb : PE X b (tM w EX mb)) (hm : behindInMarks op b = false) : PT X (.Compare a [op] [b] pos) (tT w EX (mTB (mOp f ma mb))) := by
  refine PT.imp (pt_cmpR ho ha hb hm) fun σ H Q h => ?_
  exact tM_op (show tM w EX (mOp f ma mb) σ H _ from tM_test h)
/-- a < b < c -/
def mCh (f g : O2) (ma mb mc : ME) : ME := fun env h => (ma env h).bind fun x h1 => (mb env h1).bind fun y h2 => (f h2 x y).bind fun z h3 => match z with
  | .bl true => (mc env h3).bind fun u h4 => g h4 y u
  | .bl false => .ok (.bl false) h3
  | _ => .stuck
theorem tM_ch {f g : O2} {σ : Sl} {H : Hp} {Q : VK} (h : tM w EX (mCh f g ma mb mc) σ H Q) : tChain (r2 w EX f) (r2 w EX g) (tM w EX ma) (tM w EX mb) (tM w EX mc) σ H Q := by
  obtain ⟨M, rho, env, hh, er, hr, o⟩ := h
  refine tM.of er hr o.bind fun x h1 M1 rho1 H1 v st1 er1 hr1 o1 rv => ?_
  refine ⟨M1, rho1, env, h1, er1, hr1, (Out.bind o1).imp fun y h2 M2 rho2 H2 st2 hr2 o2 u ru => ?_⟩
  refine ⟨M2, rho2, h2, x, y, hr2, rv.step st2 hr1, ru, (Out.bind o2).imp fun z h3 M3 rho3 H3 st3 hr3 o3 t rt => ?_⟩
  have er3 := (er1.step st2 hr1).step st3 hr2
  cases rt with
  | bl b =>
    refine ⟨b, rfl, ?_⟩
    cases b with
    | false => exact o3.now hr3 _ (.bl false)
    | true =>
      refine iteT (tM.of er3 hr3 (Out.bind (show Out w EX M3 rho3 H3 ((mc env h3).bind fun u h4 => g h4 y u) _ from o3)) fun p h4 M4 rho4 H4 q st4 er4 hr4 o4 rq => ?_)
      exact ⟨M4, rho4, h4, y, p, hr4, (ru.step st3 hr2).step st4 hr3, rq, o4⟩
  | _ => exact (show False from o3).elim
end
end MC

end
section
set_option maxRecDepth 100000
set_option maxHeartbeats 4000000
namespace MC
open PySem PySem.Spec PyProof.Rows L2

def S (l : List Nat) : Str := ⟨l.toArray⟩
theorem S_len (l : List Nat) : (S l).length = l.length := by show l.toArray.size = _; simp
theorem S_app (a b : List Nat) : S a ++ S b = S (a ++ b) := by
  show (⟨a.toArray ++ b.toArray⟩ : Str) = ⟨(a ++ b).toArray⟩
  simp
theorem S_inj {a b : List Nat} (h : S a = S b) : a = b := by
  have := congrArg (fun z : Str => z.cps.toList) h
  simpa [S] using this
theorem S_list (l : List Nat) : (S l).cps.toList = l := by simp [S]
theorem S_of (z : Str) : S z.cps.toList = z := by cases z; simp [S]

def opI (C : Int → Int → Bool) (g : Int → Int → PV) : O2 := fun h x y => match x, y with
  | .int i, .int j => bif C i j then .ok (g i j) h else .stuck
  | _, _ => .stuck
def unI (g : Int → Int) : O1 := fun h x => match x with
  | .int i => .ok (.int (g i)) h
  | _ => .stuck
section
variable {w : Wo} {EX : XC} {X : Cx} {k : Nat}
theorem oI {f : Value → Value → Sem Value} {C : Int → Int → Bool} {D : Int → Int → Prop} {g : Int → Int → PV} {g' : Int → Int → V} (ho : OpR X f (rI D g')) (hC : ∀ i j, C i j = true → D i j) (hg : ∀ i j M rho H, VR w M rho H (g i j) (g' i j)) :
    OpR X f (r2 w EX (opI C g)) := by
  intro pins s σ H x y v u Q I rx ry ⟨M, rho, h, px, py, hr, vx, vy, o⟩
  cases vx <;> try exact (show False from o).elim
  cases vy <;> try exact (show False from o).elim
  rename_i i j
  cases e : C i j with
  | false =>
    have o' : Out w EX M rho H (bif C i j then .ok (g i j) h else .stuck) (KV w Q) := o
    rw [e] at o'
    exact (show False from o').elim
  | true =>
    have o' : Out w EX M rho H (bif C i j then .ok (g i j) h else .stuck) (KV w Q) := o
    rw [e] at o'
    exact ho pins s σ H _ _ v u Q I rx ry ⟨i, j, rfl, rfl, hC i j e, (show Out w EX M rho H (.ok (g i j) h) (KV w Q) from o').now hr _ (hg i j M rho H)⟩
theorem oI0 {f : Value → Value → Sem Value} {g : Int → Int → PV} {g' : Int → Int → V} (ho : OpR X f (rI0 g')) (hg : ∀ i j M rho H, VR w M rho H (g i j) (g' i j)) : OpR X f (r2 w EX (opI (fun _ _ => true) g)) :=
  oI (D := fun _ _ => True) (fun pins s σ H x y v u Q I rx ry ⟨i, j, e1, e2, _, q⟩ => ho pins s σ H x y v u Q I rx ry ⟨i, j, e1, e2, q⟩) (fun _ _ _ => trivial) hg
def opSub : O2 := opI (fun _ _ => true) fun i j => .int (i - j)
def opMod : O2 := opI (fun _ j => decide (0 < j)) fun i j => .int (i % j)
def opFdiv : O2 := opI (fun _ j => decide (0 < j) && decide (j < 1073741824)) fun i j => .int (i / j)
def opPow : O2 := opI (fun i j => decide (0 ≤ j) && decide (j ≤ 1000000) && decide (i.natAbs < 2 ^ 64)) fun i j => .int (i ^ j.toNat)
theorem o_sub : OpR X (binaryOp .Sub) (r2 w EX opSub) := oI0 op_sub fun _ _ _ _ _ => .int _
theorem o_mod : OpR X (binaryOp .Mod) (r2 w EX opMod) := oI op_mod (fun _ _ h => of_decide_eq_true h) fun _ _ _ _ _ => .int _
theorem o_fdiv : OpR X (binaryOp .FloorDiv) (r2 w EX opFdiv) := oI op_fdiv (fun _ _ h => by
  rw [Bool.and_eq_true] at h
  exact ⟨of_decide_eq_true h.1, of_decide_eq_true h.2⟩) fun _ _ _ _ _ => .int _
theorem o_pow : OpR X (binaryOp .Pow) (r2 w EX opPow) := oI op_pow (fun _ _ h => by
  rw [Bool.and_eq_true, Bool.and_eq_true] at h
  exact ⟨of_decide_eq_true h.1.1, of_decide_eq_true h.1.2, of_decide_eq_true h.2⟩) fun _ _ _ _ _ => .int _
theorem o_neg : UnR X (unaryOp .USub) (r1 w EX (unI fun i => -i)) := by
  intro pins s σ H x v Q I rx ⟨M, rho, h, px, hr, vx, o⟩
  cases vx <;> try exact (show False from o).elim
  exact un_neg pins s σ H _ v Q I rx ⟨_, rfl, (show Out w EX M rho H (.ok _ h) (KV w Q) from o).now hr _ (.int _)⟩
def cmpI (p : Int → Int → Bool) : O2 := opI (fun _ _ => true) fun i j => .bl (p i j)

def opAdd : O2 := fun h x y => match x, y with
  | .int i, .int j => .ok (.int (i + j)) h
  | .str a, .str b => bif decide (a.length + b.length ≤ LIM) then .ok (.str (a ++ b)) h else .stuck
  | .tup a, .tup b => bif decide (a.length + b.length ≤ LIM) then .ok (.tup (a ++ b)) h else .stuck
  | .ref n, .ref m => match h[n]?, h[m]? with
    | some (.lst a), some (.lst b) => bif decide (a.length + b.length ≤ LIM) then .ok (.ref h.length) (h ++ [.lst (a ++ b)]) else .stuck
    | _, _ => .stuck
  | _, _ => .stuck
theorem Out.lim {M : Addr → Prop} {rho : List Addr} {H : Hp} {α : Type} {c : Prop} [Decidable c] {r : R α} {kk : KC α} (o : Out w EX M rho H (bif decide c then r else .stuck) kk) : c ∧ Out w EX M rho H r kk := by
  by_cases h : c
  · rw [decide_eq_true h] at o; exact ⟨h, o⟩
  · rw [decide_eq_false h] at o; exact (show False from o).elim
theorem HR.lst {M : Addr → Prop} {rho : List Addr} {H : Hp} {h : PH} (hr : HR w M rho H h) {n : Nat} {a : Addr} {xs : List PV} (e : h[n]? = some (.lst xs)) (ha : rho[n]? = some a) : ∃ vs, H a = some (.lst vs) ∧ VRs w M rho H xs vs := by
  obtain ⟨b, hb, q⟩ := hr.ob n _ e
  rw [ha] at hb; cases hb
  exact q
theorem o_add (C : Cxt w k X) : OpR X (binaryOp .Add) (r2 w EX opAdd) := by
  intro pins s σ H x y v u Q I rx ry ⟨M, rho, h, px, py, hr, vx, vy, o⟩
  cases vx with
  | int i =>
    cases vy <;> try exact (show False from o).elim
    exact op_add pins s σ H _ _ v u Q I rx ry ⟨_, _, rfl, rfl, (show Out w EX M rho H (.ok _ h) (KV w Q) from o).now hr _ (.int _)⟩
  | str a =>
    cases vy <;> try exact (show False from o).elim
    obtain ⟨hl, o2⟩ := Out.lim o
    refine op_add_str pins s σ H _ _ v u Q I rx ry ⟨_, _, rfl, rfl, ?_, ?_⟩
    · show (S _).length + (S _).length ≤ _
      rw [S_len, S_len, lim_eq]; exact hl
    · show Q (.str (S _ ++ S _)) H
      rw [S_app]
      exact o2.now hr _ (.str _)
  | @tup a vs A ha sa =>
    cases vy <;> try exact (show False from o).elim
    rename_i b us B hb sb
    obtain ⟨hl, o2⟩ := Out.lim o
    refine op_catA pins s σ H _ _ v u Q I rx ry ⟨A, B, vs, us, rfl, rfl, by rw [C.hK]; exact ha, by rw [C.hK]; exact hb, by rw [sa.length, sb.length, lim_eq]; exact hl, fun e => ?_, fun _ e => ?_, fun _ _ => ?_⟩
    · subst e
      cases sa
      exact o2.now hr _ (.tup hb sb)
    · subst e
      cases sb
      rw [List.append_nil] at o2
      exact o2.now hr _ (.tup ha sa)
    · exact KV.tup hr o2 (sa.append sb)
  | @ref n A ha =>
    cases vy <;> try exact (show False from o).elim
    rename_i m B hb
    have o' : Out w EX M rho H (match h[n]?, h[m]? with
      | some (.lst a), some (.lst b) => bif decide (a.length + b.length ≤ LIM) then .ok (.ref h.length) (h ++ [.lst (a ++ b)]) else .stuck
      | _, _ => .stuck) (KV w Q) := o
    split at o'
    · rename_i xs ys e1 e2
      obtain ⟨hl, o2⟩ := Out.lim o'
      obtain ⟨vs, h1, s1⟩ := hr.lst e1 ha
      obtain ⟨us, h2, s2⟩ := hr.lst e2 hb
      exact op_cat pins s σ H _ _ v u Q I rx ry ⟨A, B, vs, us, rfl, rfl, h1, h2, by rw [s1.length, s2.length, lim_eq]; exact hl, KV.lst hr o2 (s1.append s2)⟩
    · exact (show False from o').elim
  | _ => exact (show False from o).elim
end
theorem tuple_mul1 (l : Addr) (items : Array Value) (n : Nat) (dd : Option Addr) (sl : Array (Option Value)) (u : Tok) :
    Meets (Builtin.«tuple.__mul__» ⟨[.ref l, .int 1 u], []⟩) (fun _ R s => s.heap.get? l = some { cls := .type "tuple", dict := dd, data := .seq items n, slots := sl } ∧ R (.ok (.ret (Value.ref l))) s) :=
  .of_wp fun prog w A R s h => by
    obtain ⟨hp, g, d, tk, os⟩ := s
    obtain ⟨hl, h⟩ := h
    have f1 := AutoSeq1.idx_int
    wp_walk using wpAny_loadPart' hl
    repeat (first
      | (refine wpAny_ite_true (by simp) ?_; wp_walk using wpAny_loadPart' hl)
      | (refine wpAny_ite_false (by simp) ?_; wp_walk using wpAny_loadPart' hl))
    exact ⟨_, rfl, h⟩

def opMul : O2 := fun h x y => match x, y with
  | .int i, .int j => bif (decide (-(2 ^ 64) < i) && decide (i < 2 ^ 64)) || (decide (-(2 ^ 64) < j) && decide (j < 2 ^ 64)) then .ok (.int (i * j)) h else .stuck
  | .str a, .int j => bif decide (-1000000 ≤ j) && decide (j ≤ 1000) && decide (a.length ≤ 1000) then .ok (.str (List.replicate j.toNat a).flatten) h else .stuck
  | .tup a, .int j => bif decide (1 ≤ j) && decide (j ≤ 1000) && decide (1 ≤ a.length) && decide (a.length ≤ 1000) then .ok (.tup (List.replicate j.toNat a).flatten) h else .stuck
  | .ref n, .int j => match h[n]? with
    | some (.lst a) => bif decide (-1000000 ≤ j) && decide (j ≤ 1000) && decide (a.length ≤ 1000) then .ok (.ref h.length) (h ++ [.lst (List.replicate j.toNat a).flatten]) else .stuck
    | _ => .stuck
  | _, _ => .stuck
theorem Out.bif {w : Wo} {EX : XC} {M : Addr → Prop} {rho : List Addr} {H : Hp} {α : Type} {c : Bool} {r : R α} {kk : KC α} (o : Out w EX M rho H (bif c then r else .stuck) kk) : c = true ∧ Out w EX M rho H r kk := by
  cases c with
  | true => exact ⟨rfl, o⟩
  | false => exact (show False from o).elim
theorem VRs.rep {w : Wo} {M : Addr → Prop} {rho : List Addr} {H : Hp} {xs : List PV} {vs : List V} (r : VRs w M rho H xs vs) : ∀ j : Nat, VRs w M rho H (List.replicate j xs).flatten (List.replicate j vs).flatten
  | 0 => .nil
  | j + 1 => by
    rw [List.replicate_succ, List.replicate_succ, List.flatten_cons, List.flatten_cons]
    exact r.append (VRs.rep r j)
theorem rep_one {α : Type} (l : List α) : (List.replicate 1 l).flatten = l := by simp
theorem foldl_repS (l : List Nat) : ∀ (j : Nat) (acc : List Nat), List.foldl (fun x y => x ++ y) acc.toArray (List.replicate j l.toArray) = (acc ++ (List.replicate j l).flatten).toArray
  | 0, acc => by simp
  | j + 1, acc => by
    rw [List.replicate_succ, List.foldl_cons, show acc.toArray ++ l.toArray = (acc ++ l).toArray by simp, foldl_repS l j (acc ++ l), List.replicate_succ, List.flatten_cons, List.append_assoc]
theorem S_rep (l : List Nat) (j : Int) : Txt.mul (S l) j = S (List.replicate j.toNat l).flatten := by
  unfold Txt.mul
  by_cases h1 : j < 1
  · rw [if_pos h1, show j.toNat = 0 by omega]
    rfl
  · rw [if_neg h1]
    by_cases h2 : (j == 1 || (S l).length == 0) = true
    · rw [if_pos h2]
      rw [S_len] at h2
      simp only [Bool.or_eq_true, beq_iff_eq] at h2
      rcases h2 with h2 | h2
      · subst h2
        show S l = S (List.replicate 1 l).flatten
        rw [rep_one]
      · have : l = [] := List.eq_nil_of_length_eq_zero h2
        subst this
        simp [S]
    · rw [if_neg h2]
      have e := foldl_repS l j.toNat []
      show (⟨List.foldl (fun x y => x ++ y) #[] (List.replicate j.toNat l.toArray)⟩ : Str) = ⟨(List.replicate j.toNat l).flatten.toArray⟩
      rw [e]
      simp
theorem o_mul {w : Wo} {EX : XC} {X : Cx} {k : Nat} (C : Cxt w k X) : OpR X (binaryOp .Mult) (r2 w EX opMul) := by
  intro pins s σ H x y v u Q I rx ry ⟨M, rho, h, px, py, hr, vx, vy, o⟩
  cases vx with
  | int i =>
    cases vy <;> try exact (show False from o).elim
    rename_i j
    obtain ⟨hc, o2⟩ := Out.bif o
    refine op_mul pins s σ H _ _ v u Q I rx ry ⟨i, j, rfl, rfl, ?_, o2.now hr _ (.int _)⟩
    simp only [Bool.or_eq_true, Bool.and_eq_true, decide_eq_true_eq] at hc
    exact hc
  | str a =>
    cases vy <;> try exact (show False from o).elim
    rename_i j
    obtain ⟨hc, o2⟩ := Out.bif o
    simp only [Bool.and_eq_true, decide_eq_true_eq] at hc
    obtain ⟨t, rfl⟩ := rx
    obtain ⟨t', rfl⟩ := ry
    refine SB.mul (mulOk_of 1000 1000 (by show (S a).length ≤ _; rw [S_len]; exact hc.2) (by omega) (by omega) (by decide) (by decide)) fun t2 k2 => ?_
    refine ⟨.str _, H, I.tok _, ⟨t2, rfl⟩, ?_⟩
    show Q (.str (Txt.mul (S a) j)) H
    rw [S_rep]
    exact o2.now hr _ (.str _)
  | @tup a vs A ha sa =>
    cases vy <;> try exact (show False from o).elim
    rename_i j
    obtain ⟨hc, o2⟩ := Out.bif o
    simp only [Bool.and_eq_true, decide_eq_true_eq] at hc
    obtain ⟨⟨⟨h1, h2⟩, h3⟩, h4⟩ := hc
    have hl := sa.length
    by_cases e : j = 1
    · subst e
      have o3 : Out w EX M rho H (.ok (.tup (List.replicate 1 a).flatten) h) (KV w Q) := o2
      rw [rep_one] at o3
      have q := o3.now hr _ (.tup ha sa)
      cases rx
      obtain ⟨t, rfl⟩ := ry
      obtain ⟨its, r, ⟨⟨cls, dd, data, sl⟩, ho, hcl, n, hd⟩, hs⟩ := I.tuple (show SqT X.K H A vs by rw [C.hK]; exact ha)
      simp only at hcl hd
      subst hcl hd
      exact wpAny_binaryOp_repeat_ref (T := "tuple") (U := "int") (by decide) ⟨_, ho, rfl⟩ (fun s' => typeIs_int s' 1 t) noFill_tuple_mul F.fills_int_mul F.slot_int_rmul repeat_tuple F.slot_int_index.lookup
        (call_meets F.slot_int_rmul (typeIs_int s 1 t) F.entry_int_rmul (F.args_int_rmul_2 _ _) (int_rmul_tuple 1 t A its.toArray n dd sl)
          ⟨ho, rfl, ⟨_, ho, rfl⟩, call_meets F.slot_tuple_mul ⟨_, ho, rfl⟩ F.entry_tuple_mul (F.args_tuple_mul_2 _ _) (tuple_mul1 A its.toArray n dd sl t) ⟨ho, ⟨.ref A, H, I, rfl, q⟩⟩⟩)
    · refine op_repT pins s σ H _ _ v u Q I rx ry ⟨A, j, vs, rfl, rfl, by rw [C.hK]; exact ha, fun z => ?_, by omega, by omega, by omega, KV.tup hr o2 (sa.rep _)⟩
      rw [z] at hl
      simp at hl
      omega
  | @ref n A ha =>
    cases vy <;> try exact (show False from o).elim
    rename_i j
    have o' : Out w EX M rho H (match h[n]? with
      | some (.lst a) => bif decide (-1000000 ≤ j) && decide (j ≤ 1000) && decide (a.length ≤ 1000) then .ok (.ref h.length) (h ++ [.lst (List.replicate j.toNat a).flatten]) else .stuck
      | _ => .stuck) (KV w Q) := o
    split at o'
    · rename_i xs e1
      obtain ⟨hc, o2⟩ := Out.bif o'
      simp only [Bool.and_eq_true, decide_eq_true_eq] at hc
      obtain ⟨⟨h1, h2⟩, h3⟩ := hc
      obtain ⟨vs, h4, s1⟩ := hr.lst e1 ha
      refine op_rep pins s σ H _ _ v u Q I rx ry ⟨A, j, vs, rfl, rfl, h4, by omega, by omega, ?_, KV.lst hr o2 (s1.rep _)⟩
      rw [s1.length, lim_eq]
      have : xs.length * j.toNat ≤ 1000 * 1000 := Nat.mul_le_mul h3 (by omega)
      show _ ≤ 16777216
      omega
    · exact (show False from o').elim
  | _ => exact (show False from o).elim

def mapO {α β : Type} (f : α → Option β) : List α → Option (List β)
  | [] => some []
  | x :: xs => match f x with
    | none => none
    | some y => match mapO f xs with
      | none => none
      | some ys => some (y :: ys)
/-- a value as data -/
def toD (h : PH) : Nat → PV → Option PyData
  | 0, _ => none
  | n + 1, x => match x with
    | .non => some .none
    | .bl b => some (.bool b)
    | .int i => some (.int i)
    | .str s => some (.str (S s))
    | .tup xs => (mapO (toD h n) xs).map .tuple
    | .scr xs => (mapO (toD h n) xs).map .list
    | .ref m => match h[m]? with
      | some (.lst xs) => (mapO (toD h n) xs).map .list
      | _ => none
    | _ => none
def DEP : Nat := 20
section
variable {w : Wo} {EX : XC} {X : Cx} {k : Nat} {M : Addr → Prop} {rho : List Addr} {H : Hp} {h : PH}
theorem mapO_dp (hr : HR w M rho H h) {f : PV → Option PyData} (hf : ∀ x d v, f x = some d → VR w M rho H x v → Dp w.K H v d) : ∀ {xs : List PV} {vs : List V} {ds : List PyData}, mapO f xs = some ds → VRs w M rho H xs vs → DpAll w.K H vs ds
  | [], _, _, e, r => by
    cases r
    cases e
    exact .nil
  | x :: xs, _, ds, e, r => by
    cases r with
    | cons r1 r2 =>
      unfold mapO at e
      cases e1 : f x with
      | none => rw [e1] at e; cases e
      | some d =>
        rw [e1] at e
        cases e2 : mapO f xs with
        | none => simp only [e2] at e; cases e
        | some ds' =>
          simp only [e2] at e
          cases e
          exact .cons (hf x d _ e1 r1) (mapO_dp hr hf e2 r2)
theorem toD_dp (hr : HR w M rho H h) : ∀ (n : Nat) (x : PV) (d : PyData) (v : V), toD h n x = some d → VR w M rho H x v → Dp w.K H v d := by
  intro n
  induction n with
  | zero => intro x d v e; cases e
  | succ n ih =>
    intro x d v e r
    cases r with
    | non => cases e; exact .non
    | bl b => cases e; exact .bl b
    | int i => cases e; exact .int i
    | str s => cases e; exact .str _
    | @tup xs vs A ha sa =>
      have e' : (mapO (toD h n) xs).map PyData.tuple = some d := e
      cases e2 : mapO (toD h n) xs with
      | none => rw [e2] at e'; cases e'
      | some ds => rw [e2] at e'; cases e'; exact .tup ha (mapO_dp hr ih e2 sa)
    | @scr xs vs A ha sa =>
      have e' : (mapO (toD h n) xs).map PyData.list = some d := e
      cases e2 : mapO (toD h n) xs with
      | none => rw [e2] at e'; cases e'
      | some ds => rw [e2] at e'; cases e'; exact .lst ha.sq (mapO_dp hr ih e2 sa)
    | @ref m A ha =>
      have e' : (match h[m]? with
        | some (.lst xs) => (mapO (toD h n) xs).map PyData.list
        | _ => none) = some d := e
      split at e'
      · rename_i xs e1
        obtain ⟨vs, h4, s1⟩ := hr.lst e1 ha
        cases e2 : mapO (toD h n) xs with
        | none => rw [e2] at e'; cases e'
        | some ds => rw [e2] at e'; cases e'; exact .lst (SqL.of h4) (mapO_dp hr ih e2 s1)
      · cases e'
    | _ => cases e
/-- two values as data -/
def by2 (f : PyData → PyData → Bool) : O2 := fun h x y => match toD h DEP x, toD h DEP y with
  | some d, some e => bif SeqAt.shaped d && SeqAt.shaped e then .ok (.bl (f d e)) h else .stuck
  | _, _ => .stuck
def opEq : O2 := by2 fun d e => PyData.eqv d e
def opNe : O2 := by2 fun d e => !PyData.eqv d e
theorem by2_out {f : PyData → PyData → Bool} {x y : PV} {kk : KC PV} (o : Out w EX M rho H (by2 f h x y) kk) : ∃ d e, toD h DEP x = some d ∧ toD h DEP y = some e ∧ SeqAt.shaped d = true ∧ SeqAt.shaped e = true ∧ Out w EX M rho H (.ok (.bl (f d e)) h) kk := by
  unfold by2 at o
  split at o
  · rename_i d e e1 e2
    obtain ⟨hc, o2⟩ := Out.bif o
    rw [Bool.and_eq_true] at hc
    exact ⟨d, e, e1, e2, hc.1, hc.2, o2⟩
  · exact (show False from o).elim
theorem Cxt.units (C : Cxt w k X) : X.A.units + 190 < cLine := by have := C.room.un; omega
theorem o_eq (C : Cxt w k X) : OpR X (compareOp .Eq) (r2 w EX opEq) := by
  intro pins s σ H x y v u Q I rx ry ⟨M, rho, h, px, py, hr, vx, vy, o⟩
  obtain ⟨d, e, e1, e2, s1, s2, o2⟩ := by2_out o
  have hu := C.units
  exact op_eqD (by omega) pins s σ H _ _ v u Q I rx ry ⟨d, e, by rw [C.hK]; exact toD_dp hr _ _ _ _ e1 vx, by rw [C.hK]; exact toD_dp hr _ _ _ _ e2 vy, s1, s2, o2.now hr _ (.bl _)⟩
theorem o_ne (C : Cxt w k X) : OpR X (compareOp .NotEq) (r2 w EX opNe) := by
  intro pins s σ H x y v u Q I rx ry ⟨M, rho, h, px, py, hr, vx, vy, o⟩
  obtain ⟨d, e, e1, e2, s1, s2, o2⟩ := by2_out o
  have hu := C.units
  exact op_neD (by omega) pins s σ H _ _ v u Q I rx ry ⟨d, e, by rw [C.hK]; exact toD_dp hr _ _ _ _ e1 vx, by rw [C.hK]; exact toD_dp hr _ _ _ _ e2 vy, s1, s2, o2.now hr _ (.bl _)⟩
end
end MC

end
section
set_option maxRecDepth 100000
set_option maxHeartbeats 4000000
namespace MC
open PySem PySem.Spec PyProof.Rows L2

def truth (h : PH) : PV → Option Bool
  | .non => some false
  | .bl b => some b
  | .int i => some (i != 0)
  | .str s => bif decide (s.length ≤ LIM) then some (!s.isEmpty) else none
  | .tup xs => some (!xs.isEmpty)
  | .scr xs => some (!xs.isEmpty)
  | .ref n => match h[n]? with
    | some (.lst xs) => some (!xs.isEmpty)
    | some (.dic false kvs) => some (!kvs.isEmpty)
    | _ => none
  | _ => none
def mTru (m : ME) : MT := fun env h => (m env h).bind fun x h1 => match truth h1 x with
  | some b => .ok b h1
  | none => .stuck
def mAnd (a b : MT) : MT := fun env h => (a env h).bind fun c h1 => bif c then b env h1 else .ok false h1
def mOr (a b : MT) : MT := fun env h => (a env h).bind fun c h1 => bif c then .ok true h1 else b env h1
def mNot (a : MT) : MT := fun env h => (a env h).bind fun c h1 => .ok (!c) h1
def mIf (t : MT) (a b : ME) : ME := fun env h => (t env h).bind fun c h1 => bif c then a env h1 else b env h1
def mAndV (a b : ME) : ME := fun env h => (a env h).bind fun x h1 => match x with
  | .bl c => bif c then b env h1 else .ok (.bl false) h1
  | _ => .stuck
def mOrV (a b : ME) : ME := fun env h => (a env h).bind fun x h1 => match x with
  | .bl c => bif c then .ok (.bl true) h1 else b env h1
  | _ => .stuck
def mNotV (a : ME) : ME := fun env h => (a env h).bind fun x h1 => match x with
  | .bl c => .ok (.bl (!c)) h1
  | _ => .stuck
theorem empty_len {α β : Type} {xs : List α} {ys : List β} (h : ys.length = xs.length) : (!ys.isEmpty) = !xs.isEmpty := by
  cases xs <;> cases ys <;> first | rfl | (simp at h)
section
variable {w : Wo} {EX : XC} {X : Cx} {k : Nat} {M : Addr → Prop} {rho : List Addr} {H : Hp} {h : PH} {a b c : Expr} {ma mb : ME} {ta tb : MT} {pos : Pos} {rest : List Expr}
theorem KRs.length : ∀ {kvs : List (PV × PV)} {ks : List (Key × V)}, KRs w M rho H kvs ks → ks.length = kvs.length
  | _, _, .nil => rfl
  | _, _, .cons _ _ b => by rw [List.length_cons, List.length_cons, KRs.length b]
theorem truth_ok (hr : HR w M rho H h) {x : PV} {v : V} {b : Bool} (r : VR w M rho H x v) (e : truth h x = some b) : TruV w.K v H b := by
  cases r with
  | non => cases e; exact rfl
  | bl b => cases e; exact rfl
  | int i => cases e; exact rfl
  | str s =>
    have e' : (bif decide (s.length ≤ LIM) then some (!s.isEmpty) else none) = some b := e
    by_cases hl : s.length ≤ LIM
    · rw [decide_eq_true hl] at e'
      cases e'
      refine ⟨by show (S s).length ≤ _; rw [S_len, lim_eq]; exact hl, ?_⟩
      show _ = (((S s).length : Int) != 0)
      rw [S_len]
      cases s with
      | nil => rfl
      | cons z zs =>
        show true = _
        symm
        rw [bne_iff_ne]
        simp only [List.length_cons]
        omega
    · rw [decide_eq_false hl] at e'
      cases e'
  | tup q s => cases e; exact .inr (.inl ⟨_, q, (empty_len s.length).symm⟩)
  | scr q s => cases e; exact .inl ⟨_, q.sq, (empty_len s.length).symm⟩
  | @ref n A ha =>
    have e' : (match h[n]? with
      | some (.lst xs) => some (!xs.isEmpty)
      | some (.dic false kvs) => some (!kvs.isEmpty)
      | _ => none) = some b := e
    split at e'
    · rename_i xs e1
      cases e'
      obtain ⟨vs, h1, s1⟩ := hr.lst e1 ha
      exact .inl ⟨vs, SqL.of h1, (empty_len s1.length).symm⟩
    · rename_i kvs e1
      cases e'
      obtain ⟨b, hb, ks, h1, s1⟩ := hr.ob n _ e1
      rw [ha] at hb; cases hb
      exact .inr (.inr ⟨ks, h1, (empty_len s1.length).symm⟩)
    · cases e'
  | _ => cases e
theorem mt_tru (C : Cxt w k X) (ha : PE X a (tM w EX ma)) (he : ∀ whole, isTrue a X.env whole = (do let v ← whole; standAt a.pos; holding [v] (truthy v)) := by intro _; rfl) : PT X a (tT w EX (mTru ma)) := by
  refine PT.imp (pt_truth ha he) fun σ H Q hh => ?_
  obtain ⟨M, rho, env, h, er, hr, o⟩ := hh
  refine tM.of er hr (Out.bind o) fun x h1 M1 rho1 H1 v st1 er1 hr1 o1 rv => ?_
  cases e : truth h1 x with
  | none => rw [e] at o1; exact (show False from o1).elim
  | some b =>
    rw [e] at o1
    exact ⟨b, by rw [C.hK]; exact truth_ok hr1 rv e, o1.now hr1⟩
theorem mw_one {op : BoolOp} (ha : PT X a (tT w EX ta)) : PW X (.BoolOp op [a] pos) (tT w EX ta) := by
  cases op with
  | And => exact pw_and1 ha
  | Or => exact pw_or1 ha
theorem mw_and (ha : PT X a (tT w EX ta)) (hb : PW X (.BoolOp .And (b :: rest) pos) (tT w EX tb)) : PW X (.BoolOp .And (a :: b :: rest) pos) (tT w EX (mAnd ta tb)) := by
  refine PW.imp (pw_and ha hb) fun σ H Q hh => ?_
  obtain ⟨M, rho, env, h, er, hr, o⟩ := hh
  refine tT.of er hr (Out.bind o) fun x h1 M1 rho1 H1 st1 er1 hr1 o1 => ?_
  cases x with
  | true => exact iteT ⟨M1, rho1, env, h1, er1, hr1, o1⟩
  | false => exact iteF (o1.now hr1)
theorem mw_or (ha : PT X a (tT w EX ta)) (hb : PW X (.BoolOp .Or (b :: rest) pos) (tT w EX tb)) : PW X (.BoolOp .Or (a :: b :: rest) pos) (tT w EX (mOr ta tb)) := by
  refine PW.imp (pw_or ha hb) fun σ H Q hh => ?_
  obtain ⟨M, rho, env, h, er, hr, o⟩ := hh
  refine tT.of er hr (Out.bind o) fun x h1 M1 rho1 H1 st1 er1 hr1 o1 => ?_
  cases x with
  | true => exact iteT (o1.now hr1)
  | false => exact iteF ⟨M1, rho1, env, h1, er1, hr1, o1⟩
theorem mt_not (ha : PT X a (tT w EX ta)) : PT X (.UnaryOp .Not a pos) (tT w EX (mNot ta)) := by
  refine PT.imp (pt_not ha) fun σ H Q hh => ?_
  obtain ⟨M, rho, env, h, er, hr, o⟩ := hh
  exact tT.of er hr (Out.bind o) fun x h1 M1 rho1 H1 st1 er1 hr1 o1 => o1.now hr1
theorem me_if (hc : PT X c (tT w EX ta)) (ha : PE X a (tM w EX ma)) (hb : PE X b (tM w EX mb)) : PE X (.IfExp c a b pos) (tM w EX (mIf ta ma mb)) := by
  refine PE.imp (pe_ifExp hc ha hb) fun σ H Q hh => ?_
  obtain ⟨M, rho, env, h, er, hr, o⟩ := hh
  refine tT.of er hr (Out.bind o) fun x h1 M1 rho1 H1 st1 er1 hr1 o1 => ?_
  cases x with
  | true => exact iteT ⟨M1, rho1, env, h1, er1, hr1, o1⟩
  | false => exact iteF ⟨M1, rho1, env, h1, er1, hr1, o1⟩
theorem me_one {op : BoolOp} (ha : PE X a (tM w EX ma)) : PE X (.BoolOp op [a] pos) (tM w EX ma) := pe_one ha
theorem me_and (ha : PE X a (tM w EX ma)) (hb : PE X (.BoolOp .And (b :: rest) pos) (tM w EX mb)) : PE X (.BoolOp .And (a :: b :: rest) pos) (tM w EX (mAndV ma mb)) := by
  refine PE.imp (pe_and ha hb) fun σ H Q hh => ?_
  obtain ⟨M, rho, env, h, er, hr, o⟩ := hh
  refine tM.of er hr (Out.bind o) fun x h1 M1 rho1 H1 v st1 er1 hr1 o1 rv => ?_
  cases rv <;> try exact (show False from o1).elim
  rename_i c
  refine ⟨c, rfl, ?_⟩
  cases c with
  | true => exact iteT ⟨M1, rho1, env, h1, er1, hr1, o1⟩
  | false => exact iteF ((show Out w EX M1 rho1 H1 (.ok (.bl false) h1) (KV w Q) from o1).now hr1 _ (.bl _))
theorem me_or (ha : PE X a (tM w EX ma)) (hb : PE X (.BoolOp .Or (b :: rest) pos) (tM w EX mb)) : PE X (.BoolOp .Or (a :: b :: rest) pos) (tM w EX (mOrV ma mb)) := by
  refine PE.imp (pe_or ha hb) fun σ H Q hh => ?_
  obtain ⟨M, rho, env, h, er, hr, o⟩ := hh
  refine tM.of er hr (Out.bind o) fun x h1 M1 rho1 H1 v st1 er1 hr1 o1 rv => ?_
  cases rv <;> try exact (show False from o1).elim
  rename_i c
  refine ⟨c, rfl, ?_⟩
  cases c with
  | true => exact iteT ((show Out w EX M1 rho1 H1 (.ok (.bl true) h1) (KV w Q) from o1).now hr1 _ (.bl _))
  | false => exact iteF ⟨M1, rho1, env, h1, er1, hr1, o1⟩
theorem me_not (ha : PE X a (tM w EX ma)) : PE X (.UnaryOp .Not a pos) (tM w EX (mNotV ma)) := by
  refine PE.imp (pe_not ha) fun σ H Q hh => ?_
  obtain ⟨M, rho, env, h, er, hr, o⟩ := hh
  refine tM.of er hr (Out.bind o) fun x h1 M1 rho1 H1 v st1 er1 hr1 o1 rv => ?_
  cases rv <;> try exact (show False from o1).elim
  rename_i c
  exact ⟨c, rfl, (show Out w EX M1 rho1 H1 (.ok (.bl (!c)) h1) (KV w Q) from o1).now hr1 _ (.bl _)⟩
/-- a chain as a test -/
theorem mt_ch {op op' : CmpOp} {f g : O2} {mc : ME} (ho : OpR X (compareOp op) (r2 w EX f)) (ho' : OpR X (compareOp op') (r2 w EX g)) (ha : PE X a (tM w EX ma)) (hb : PE X b (tM w EX mb)) (hc : PE X c (tM w EX mc))
    (hm : lastMarks [op, op'] [b, c] = false := by with_unfolding_all rfl) : PT X (.Compare a [op, op'] [b, c] pos) (tT w EX (mTB (mCh f g ma mb mc))) := by
  refine PT.imp (pt_chain ho ho' ha hb hc hm) fun σ H Q h => ?_
  exact tM_ch (show tM w EX (mCh f g ma mb mc) σ H _ from tM_test h)
theorem me_ch {op op' : CmpOp} {f g : O2} {mc : ME} (ho : OpR X (compareOp op) (r2 w EX f)) (ho' : OpR X (compareOp op') (r2 w EX g)) (ha : PE X a (tM w EX ma)) (hb : PE X b (tM w EX mb)) (hc : PE X c (tM w EX mc))
    (hm : lastMarks [op, op'] [b, c] = false := by with_unfolding_all rfl) : PE X (.Compare a [op, op'] [b, c] pos) (tM w EX (mCh f g ma mb mc)) := PE.imp (pe_chain ho ho' ha hb hc hm) fun σ H Q h => tM_ch h
end
end MC

end
section
set_option maxRecDepth 100000
set_option maxHeartbeats 4000000
namespace MC
open PySem PySem.Spec PyProof.Rows L2

def ltN : List Nat → List Nat → Bool
  | [], [] => false
  | [], _ :: _ => true
  | _ :: _, [] => false
  | x :: xs, y :: ys => bif x == y then ltN xs ys else decide (x < y)
theorem ltN_iff : ∀ a b : List Nat, decide (a < b) = ltN a b
  | [], [] => by decide
  | [], y :: ys => by simp [ltN]
  | x :: xs, [] => by simp [ltN]
  | x :: xs, y :: ys => by
    have ih := ltN_iff xs ys
    unfold ltN
    by_cases e : x = y
    · subst e
      rw [beq_self_eq_true, cond_true, ← ih]
      simp
    · have e2 : (x == y) = false := beq_eq_false_iff_ne.mpr e
      rw [e2, cond_false]
      simp [List.cons_lt_cons_iff, e]
def opOrd (p : Int → Int → Bool) (q : List Nat → List Nat → Bool) : O2 := fun h x y => match x, y with
  | .int i, .int j => .ok (.bl (p i j)) h
  | .str a, .str b => .ok (.bl (q a b)) h
  | _, _ => .stuck
def opLt : O2 := opOrd (fun i j => decide (i < j)) fun a b => ltN a b
def opLe : O2 := opOrd (fun i j => decide (i ≤ j)) fun a b => !ltN b a
def opGt : O2 := opOrd (fun i j => decide (j < i)) fun a b => ltN b a
def opGe : O2 := opOrd (fun i j => decide (j ≤ i)) fun a b => !ltN a b
def isNon : PV → Bool
  | .non => true
  | _ => false
def opIs (neg : Bool) : O2 := fun h x y => match y with
  | .non => .ok (.bl (bif neg then !isNon x else isNon x)) h
  | .bl b => match x with
    | .bl a => .ok (.bl (bif neg then !(a == b) else a == b)) h
    | _ => .stuck
  | _ => .stuck
section
variable {w : Wo} {EX : XC} {X : Cx} {k : Nat} {M : Addr → Prop} {rho : List Addr} {H : Hp} {h : PH}
theorem o_ord {f : Value → Value → Sem Value} {p : Int → Int → Bool} {q : List Nat → List Nat → Bool} (hi : OpR X f (rI0 fun i j => .bl (p i j)))
    (hs : OpR X f (fun x y H Q => ∃ i j, x = .str i ∧ y = .str j ∧ Q (.bl (q i.cps.toList j.cps.toList)) H)) : OpR X f (r2 w EX (opOrd p q)) := by
  intro pins s σ H x y v u Q I rx ry ⟨M, rho, h, px, py, hr, vx, vy, o⟩
  cases vx <;> try exact (show False from o).elim
  · cases vy <;> try exact (show False from o).elim
    rename_i i j
    exact hi pins s σ H _ _ v u Q I rx ry ⟨i, j, rfl, rfl, (show Out w EX M rho H (.ok (.bl (p i j)) h) (KV w Q) from o).now hr _ (.bl _)⟩
  · cases vy <;> try exact (show False from o).elim
    rename_i a b
    refine hs pins s σ H _ _ v u Q I rx ry ⟨_, _, rfl, rfl, ?_⟩
    have e1 : (⟨a.toArray⟩ : Str).cps.toList = a := by simp
    have e2 : (⟨b.toArray⟩ : Str).cps.toList = b := by simp
    rw [e1, e2]
    exact (show Out w EX M rho H (.ok (.bl (q a b)) h) (KV w Q) from o).now hr _ (.bl _)
theorem o_lt : OpR X (compareOp .Lt) (r2 w EX opLt) := o_ord op_lt fun pins s σ H x y v u Q I rx ry ⟨i, j, e1, e2, q⟩ => op_lt_str pins s σ H x y v u Q I rx ry ⟨i, j, e1, e2, by rw [ltN_iff]; exact q⟩
theorem o_le : OpR X (compareOp .LtE) (r2 w EX opLe) := o_ord op_le fun pins s σ H x y v u Q I rx ry ⟨i, j, e1, e2, q⟩ => op_le_str pins s σ H x y v u Q I rx ry ⟨i, j, e1, e2, by rw [ltN_iff]; exact q⟩
theorem o_gt : OpR X (compareOp .Gt) (r2 w EX opGt) := o_ord op_gt fun pins s σ H x y v u Q I rx ry ⟨i, j, e1, e2, q⟩ => op_gt_str pins s σ H x y v u Q I rx ry ⟨i, j, e1, e2, by rw [ltN_iff]; exact q⟩
theorem o_ge : OpR X (compareOp .GtE) (r2 w EX opGe) := o_ord op_ge fun pins s σ H x y v u Q I rx ry ⟨i, j, e1, e2, q⟩ => op_ge_str pins s σ H x y v u Q I rx ry ⟨i, j, e1, e2, by rw [ltN_iff]; exact q⟩
theorem VR.non_iff (hg : ∀ i v, w.gv i = some v → v ≠ .non) {x : PV} {v : V} (r : VR w M rho H x v) : decide (v = .non) = isNon x := by
  cases r <;> first | rfl | skip
  rename_i i e
  have := hg i v e
  simp [this, isNon]
theorem o_is (hg : ∀ i v, w.gv i = some v → v ≠ .non) : OpR X (compareOp .Is) (r2 w EX (opIs false)) := by
  intro pins s σ H x y v u Q I rx ry ⟨M, rho, h, px, py, hr, vx, vy, o⟩
  cases vy <;> try exact (show False from o).elim
  · have q := (show Out w EX M rho H (.ok (.bl (isNon px)) h) (KV w Q) from o).now hr _ (.bl _)
    exact op_isN pins s σ H _ _ v u Q I rx ry ⟨rfl, by rw [VR.non_iff hg vx]; exact q⟩
  · cases vx <;> try exact (show False from o).elim
    rename_i b a
    exact op_isBl pins s σ H _ _ v u Q I rx ry ⟨a, b, rfl, rfl, by rw [← Bool.beq_eq_decide_eq]; exact (show Out w EX M rho H (.ok (.bl (a == b)) h) (KV w Q) from o).now hr _ (.bl _)⟩
theorem o_isnot (hg : ∀ i v, w.gv i = some v → v ≠ .non) : OpR X (compareOp .IsNot) (r2 w EX (opIs true)) := by
  intro pins s σ H x y v u Q I rx ry ⟨M, rho, h, px, py, hr, vx, vy, o⟩
  cases vy <;> try exact (show False from o).elim
  · have q := (show Out w EX M rho H (.ok (.bl (!isNon px)) h) (KV w Q) from o).now hr _ (.bl _)
    exact op_notN pins s σ H _ _ v u Q I rx ry ⟨rfl, by rw [VR.non_iff hg vx]; exact q⟩
  · cases vx <;> try exact (show False from o).elim
    rename_i b a
    exact op_notBl pins s σ H _ _ v u Q I rx ry ⟨a, b, rfl, rfl, by rw [← Bool.beq_eq_decide_eq]; exact (show Out w EX M rho H (.ok (.bl (!(a == b))) h) (KV w Q) from o).now hr _ (.bl _)⟩
end

/-- the items of a list or tuple -/
def items (h : PH) : PV → Option (List PV)
  | .tup xs => some xs
  | .scr xs => some xs
  | .ref n => match h[n]? with
    | some (.lst xs) => some xs
    | _ => none
  | _ => none
/-- a key is that key -/
def keyQ : PV → PV → Bool
  | .int i, .int j => i == j
  | .str a, .str b => a == b
  | _, _ => false
def lookP (x : PV) : List (PV × PV) → Option PV
  | [] => none
  | (k, v) :: r => bif keyQ k x then some v else lookP x r
def isKey : PV → Bool
  | .int _ => true
  | .str _ => true
  | _ => false
def negB (neg : Bool) (b : Bool) : Bool := bif neg then !b else b
def inItems (neg : Bool) (h : PH) (x : PV) (ys : List PV) : R PV := match toD h DEP x, mapO (toD h DEP) ys with
  | some d, some ds => bif SeqAt.shaped d && PyData.canLayAll0 ds then .ok (.bl (negB neg (ds.any fun z => PyData.eqv z d))) h else .stuck
  | _, _ => .stuck
def opIn (neg : Bool) : O2 := fun h x y => match y with
  | .str t => match x with
    | .str [c] => .ok (.bl (negB neg (decide (c ∈ t)))) h
    | _ => .stuck
  | .rdic kvs => bif isKey x then .ok (.bl (negB neg (lookP x kvs).isSome)) h else .stuck
  | .ref n => match h[n]? with
    | some (.dic _ kvs) => bif isKey x then .ok (.bl (negB neg (lookP x kvs).isSome)) h else .stuck
    | some (.lst ys) => inItems neg h x ys
    | _ => .stuck
  | .tup ys => inItems neg h x ys
  | .scr ys => inItems neg h x ys
  | _ => .stuck
section
variable {w : Wo} {EX : XC} {X : Cx} {k : Nat} {M : Addr → Prop} {rho : List Addr} {H : Hp} {h : PH}
theorem keyQ_iff {k x : PV} {j : Key} {v : V} (hk : keyP k = some j) (hx : isKey x = true) (rx : VR w M rho H x v) : ∃ i, keyP x = some i ∧ v = kV i ∧ (keyQ k x = decide (j = i)) := by
  cases rx <;> try (exact (Bool.false_ne_true hx).elim)
  · rename_i i
    refine ⟨.inl i, rfl, rfl, ?_⟩
    cases k <;> try (cases hk)
    · exact (key_ll _ _).symm
    · exact (key_rl _ _).symm
  · rename_i b
    refine ⟨.inr ⟨b.toArray⟩, rfl, rfl, ?_⟩
    cases k <;> try (cases hk)
    · exact (key_lr _ _).symm
    · rename_i a
      rw [key_rr]
      show (a == b) = _
      by_cases e : a = b
      · subst e; simp
      · rw [beq_eq_false_iff_ne.mpr e, decide_eq_false]
        intro z
        exact e (S_inj z)
theorem lookP_ok {x : PV} {v : V} (hx : isKey x = true) (rx : VR w M rho H x v) : ∃ i, keyP x = some i ∧ v = kV i ∧ ∀ {kvs : List (PV × PV)} {ks : List (Key × V)}, KRs w M rho H kvs ks →
    (lookP x kvs = none ∧ valV ks i = none) ∨ ∃ y u, lookP x kvs = some y ∧ valV ks i = some u ∧ VR w M rho H y u := by
  obtain ⟨i, h1, h2, _⟩ := keyQ_iff (k := .int 0) (j := .inl 0) rfl hx rx
  refine ⟨i, h1, h2, fun {kvs ks} r => ?_⟩
  induction kvs generalizing ks with
  | nil => cases r; exact .inl ⟨rfl, rfl⟩
  | cons p kvs ih =>
    cases r with
    | @cons k y j u _ gs hk hv ht =>
      obtain ⟨i', h1', _, q⟩ := keyQ_iff hk hx rx
      rw [h1] at h1'
      cases h1'
      unfold lookP
      by_cases e : j = i
      · rw [q, decide_eq_true e, cond_true]
        exact .inr ⟨y, u, rfl, valV_pos e, hv⟩
      · rw [q, decide_eq_false e, cond_false, valV_neg (by exact e)]
        exact ih ht
theorem inItems_out {neg : Bool} {x : PV} {ys : List PV} {kk : KC PV} (o : Out w EX M rho H (inItems neg h x ys) kk) :
    ∃ d ds, toD h DEP x = some d ∧ mapO (toD h DEP) ys = some ds ∧ SeqAt.shaped d = true ∧ PyData.canLayAll0 ds = true ∧ Out w EX M rho H (.ok (.bl (negB neg (ds.any fun z => PyData.eqv z d))) h) kk := by
  unfold inItems at o
  split at o
  · rename_i d ds e1 e2
    obtain ⟨hc, o2⟩ := Out.bif o
    rw [Bool.and_eq_true] at hc
    exact ⟨d, ds, e1, e2, hc.1, hc.2, o2⟩
  · exact (show False from o).elim
theorem o_in (C : Cxt w k X) : OpR X (compareOp .In) (r2 w EX (opIn false)) := by
  intro pins s σ H x y v u Q I rx ry ⟨M, rho, h, px, py, hr, vx, vy, o⟩
  have hu := C.units
  have seqL : ∀ {ys : List PV} {us : List V} {A : Addr}, u = .ref A → SqL w.K H A us → VRs w M rho H ys us → Out w EX M rho H (inItems false h px ys) (KV w Q) → wpAny (model X.prog X.w) X.A (compareOp .In v u) (EP X pins σ Q) X.xe s := by
    intro ys us A eu hs rs o
    obtain ⟨d, ds, e1, e2, s1, s2, o2⟩ := inItems_out o
    have D1 : Dp X.K H x d := by rw [C.hK]; exact toD_dp hr _ _ _ _ e1 vx
    have D2 : Dp X.K H (.ref A) (.list ds) := by rw [C.hK]; exact .lst hs (mapO_dp hr (toD_dp hr _) e2 rs)
    obtain ⟨as, r1⟩ := Dp.reads I d _ _ D1 rx
    obtain ⟨bs, r2⟩ := Dp.reads I (.list ds) _ u D2 eu
    have h64 := SeqAt.depth_of_shaped s1
    exact SeqAt.in_list_reads r2 r1 s2 (SeqAt.canLay_of_shaped s1) (by omega) ⟨.bl _, H, I, rfl, o2.now hr _ (.bl _)⟩
  cases vy <;> try exact (show False from o).elim
  · rename_i t
    obtain ⟨c, rfl, o2⟩ : ∃ c, px = .str [c] ∧ Out w EX M rho H (.ok (.bl (decide (c ∈ t))) h) (KV w Q) := by
      have o' : Out w EX M rho H (match px with
        | .str [c] => .ok (.bl (negB false (decide (c ∈ t)))) h
        | _ => .stuck) (KV w Q) := o
      split at o'
      · exact ⟨_, rfl, o'⟩
      · exact (show False from o').elim
    cases vx
    refine op_in_sign pins s σ H _ _ v u Q I rx ry ⟨c, _, rfl, rfl, ?_⟩
    rw [show (⟨t.toArray⟩ : Str).cps.toList = t by simp]
    exact o2.now hr _ (.bl _)
  · rename_i ys us A ha sa
    obtain ⟨d, ds, e1, e2, s1, s2, o2⟩ := inItems_out o
    have D1 : Dp X.K H x d := by rw [C.hK]; exact toD_dp hr _ _ _ _ e1 vx
    have D2 : Dp X.K H (.ref A) (.tuple ds) := by rw [C.hK]; exact .tup ha (mapO_dp hr (toD_dp hr _) e2 sa)
    obtain ⟨as, r1⟩ := Dp.reads I d _ _ D1 rx
    obtain ⟨bs, r2⟩ := Dp.reads I (.tuple ds) _ u D2 ry
    have h64 := SeqAt.depth_of_shaped s1
    exact SeqAt.in_tuple_reads r2 r1 s2 (SeqAt.canLay_of_shaped s1) (by omega) ⟨.bl _, H, I, rfl, o2.now hr _ (.bl _)⟩
  · rename_i ys us A ha sa
    exact seqL ry ha.sq sa o
  · rename_i kvs ks A ob ha hn sa
    obtain ⟨hx, o2⟩ := Out.bif o
    obtain ⟨i, e1, e2, e3⟩ := lookP_ok hx vx
    subst e2
    cases ry
    refine d_in (o := valV ks i) (by omega) I (.inl ⟨ks, i, .inr ⟨ob, ha⟩, rfl, rfl⟩) rx fun s3 I3 => ⟨.bl _, H, I3, rfl, ?_⟩
    rcases e3 sa with ⟨z1, z2⟩ | ⟨y', u', z1, z2, _⟩
    · rw [z1] at o2; rw [z2]; exact o2.now hr _ (.bl _)
    · rw [z1] at o2; rw [z2]; exact o2.now hr _ (.bl _)
  · rename_i n A ha
    have o' : Out w EX M rho H (match h[n]? with
      | some (.dic _ kvs) => bif isKey px then .ok (.bl (negB false (lookP px kvs).isSome)) h else .stuck
      | some (.lst ys) => inItems false h px ys
      | _ => .stuck) (KV w Q) := o
    split at o'
    · rename_i lk kvs e0
      obtain ⟨hx, o2⟩ := Out.bif o'
      obtain ⟨b, hb, ks, h1, sa⟩ := hr.ob n _ e0
      rw [ha] at hb; cases hb
      obtain ⟨i, e1, e2, e3⟩ := lookP_ok hx vx
      subst e2
      cases ry
      have rd : Rd H A (.dK ks) := by
        cases lk with
        | false => exact .inl h1
        | true => exact .inr h1
      refine d_in (o := valV ks i) (by omega) I (.inl ⟨ks, i, rd, rfl, rfl⟩) rx fun s3 I3 => ⟨.bl _, H, I3, rfl, ?_⟩
      rcases e3 sa with ⟨z1, z2⟩ | ⟨y', u', z1, z2, _⟩
      · rw [z1] at o2; rw [z2]; exact o2.now hr _ (.bl _)
      · rw [z1] at o2; rw [z2]; exact o2.now hr _ (.bl _)
    · rename_i ys e0
      obtain ⟨us, h1, sa⟩ := hr.lst e0 ha
      exact seqL ry (SqL.of h1) sa o'
    · exact (show False from o').elim
theorem o_notin (C : Cxt w k X) : OpR X (compareOp .NotIn) (r2 w EX (opIn true)) := by
  intro pins s σ H x y v u Q I rx ry ⟨M, rho, h, px, py, hr, vx, vy, o⟩
  have hu := C.units
  have seqL : ∀ {ys : List PV} {us : List V} {A : Addr}, u = .ref A → SqL w.K H A us → VRs w M rho H ys us → Out w EX M rho H (inItems true h px ys) (KV w Q) → wpAny (model X.prog X.w) X.A (compareOp .NotIn v u) (EP X pins σ Q) X.xe s := by
    intro ys us A eu hs rs o
    obtain ⟨d, ds, e1, e2, s1, s2, o2⟩ := inItems_out o
    have D1 : Dp X.K H x d := by rw [C.hK]; exact toD_dp hr _ _ _ _ e1 vx
    have D2 : Dp X.K H (.ref A) (.list ds) := by rw [C.hK]; exact .lst hs (mapO_dp hr (toD_dp hr _) e2 rs)
    obtain ⟨as, r1⟩ := Dp.reads I d _ _ D1 rx
    obtain ⟨bs, r2⟩ := Dp.reads I (.list ds) _ u D2 eu
    have h64 := SeqAt.depth_of_shaped s1
    exact SeqAt.notIn_list_reads r2 r1 s2 (SeqAt.canLay_of_shaped s1) (by omega) ⟨.bl _, H, I, rfl, o2.now hr _ (.bl _)⟩
  cases vy <;> try exact (show False from o).elim
  · rename_i t
    obtain ⟨c, rfl, o2⟩ : ∃ c, px = .str [c] ∧ Out w EX M rho H (.ok (.bl (!decide (c ∈ t))) h) (KV w Q) := by
      have o' : Out w EX M rho H (match px with
        | .str [c] => .ok (.bl (negB true (decide (c ∈ t)))) h
        | _ => .stuck) (KV w Q) := o
      split at o'
      · exact ⟨_, rfl, o'⟩
      · exact (show False from o').elim
    cases vx
    refine op_notIn_sign pins s σ H _ _ v u Q I rx ry ⟨c, _, rfl, rfl, ?_⟩
    rw [show (⟨t.toArray⟩ : Str).cps.toList = t by simp]
    exact o2.now hr _ (.bl _)
  · rename_i ys us A ha sa
    obtain ⟨d, ds, e1, e2, s1, s2, o2⟩ := inItems_out o
    have D1 : Dp X.K H x d := by rw [C.hK]; exact toD_dp hr _ _ _ _ e1 vx
    have D2 : Dp X.K H (.ref A) (.tuple ds) := by rw [C.hK]; exact .tup ha (mapO_dp hr (toD_dp hr _) e2 sa)
    obtain ⟨as, r1⟩ := Dp.reads I d _ _ D1 rx
    obtain ⟨bs, r2⟩ := Dp.reads I (.tuple ds) _ u D2 ry
    have h64 := SeqAt.depth_of_shaped s1
    exact SeqAt.notIn_tuple_reads r2 r1 s2 (SeqAt.canLay_of_shaped s1) (by omega) ⟨.bl _, H, I, rfl, o2.now hr _ (.bl _)⟩
  · rename_i ys us A ha sa
    exact seqL ry ha.sq sa o
  · rename_i kvs ks A ob ha hn sa
    obtain ⟨hx, o2⟩ := Out.bif o
    obtain ⟨i, e1, e2, e3⟩ := lookP_ok hx vx
    subst e2
    cases ry
    refine d_notIn (o := valV ks i) (by omega) I (.inl ⟨ks, i, .inr ⟨ob, ha⟩, rfl, rfl⟩) rx fun s3 I3 => ⟨.bl _, H, I3, rfl, ?_⟩
    rcases e3 sa with ⟨z1, z2⟩ | ⟨y', u', z1, z2, _⟩
    · rw [z1] at o2; rw [z2]; exact o2.now hr _ (.bl _)
    · rw [z1] at o2; rw [z2]; exact o2.now hr _ (.bl _)
  · rename_i n A ha
    have o' : Out w EX M rho H (match h[n]? with
      | some (.dic _ kvs) => bif isKey px then .ok (.bl (negB true (lookP px kvs).isSome)) h else .stuck
      | some (.lst ys) => inItems true h px ys
      | _ => .stuck) (KV w Q) := o
    split at o'
    · rename_i lk kvs e0
      obtain ⟨hx, o2⟩ := Out.bif o'
      obtain ⟨b, hb, ks, h1, sa⟩ := hr.ob n _ e0
      rw [ha] at hb; cases hb
      obtain ⟨i, e1, e2, e3⟩ := lookP_ok hx vx
      subst e2
      cases ry
      have rd : Rd H A (.dK ks) := by
        cases lk with
        | false => exact .inl h1
        | true => exact .inr h1
      refine d_notIn (o := valV ks i) (by omega) I (.inl ⟨ks, i, rd, rfl, rfl⟩) rx fun s3 I3 => ⟨.bl _, H, I3, rfl, ?_⟩
      rcases e3 sa with ⟨z1, z2⟩ | ⟨y', u', z1, z2, _⟩
      · rw [z1] at o2; rw [z2]; exact o2.now hr _ (.bl _)
      · rw [z1] at o2; rw [z2]; exact o2.now hr _ (.bl _)
    · rename_i ys e0
      obtain ⟨us, h1, sa⟩ := hr.lst e0 ha
      exact seqL ry (SqL.of h1) sa o'
    · exact (show False from o').elim
end
end MC

end
section
set_option maxRecDepth 100000
set_option maxHeartbeats 4000000
namespace MC
open PySem PySem.Spec PyProof.Rows L2

def ixL (h : PH) (xs : List PV) (y : PV) : R PV := match y with
  | .int i => match atI xs i with
    | some v => .ok v h
    | none => .stuck
  | _ => .stuck
def ixD (h : PH) (kvs : List (PV × PV)) (y : PV) : R PV := bif isKey y then (match lookP y kvs with
  | some v => .ok v h
  | none => .stuck) else .stuck
def ixS (h : PH) (s : List Nat) (y : PV) : R PV := match y with
  | .int i => match atI s i with
    | some c => bif decide (s.length ≤ LIM) then .ok (.str [c]) h else .stuck
    | none => .stuck
  | _ => .stuck
def opIx : O2 := fun h x y => match x with
  | .str s => ixS h s y
  | .rdic kvs => ixD h kvs y
  | .ref n => match h[n]? with
    | some (.dic _ kvs) => ixD h kvs y
    | some (.lst xs) => ixL h xs y
    | _ => .stuck
  | .tup xs => ixL h xs y
  | .scr xs => ixL h xs y
  | _ => .stuck
section
variable {w : Wo} {EX : XC} {X : Cx} {k : Nat} {M : Addr → Prop} {rho : List Addr} {H : Hp} {h : PH}
theorem VRs.atI {xs : List PV} {vs : List V} {i : Int} {x : PV} (r : VRs w M rho H xs vs) (e : L2.atI xs i = some x) : ∃ v, L2.atI vs i = some v ∧ VR w M rho H x v := by
  unfold L2.atI at e ⊢
  rw [r.length]
  cases q : ixN xs.length i with
  | none => rw [q] at e; cases e
  | some j =>
    rw [q] at e
    exact r.get e
theorem ixL_out {xs : List PV} {py : PV} {kk : KC PV} (o : Out w EX M rho H (ixL h xs py) kk) : ∃ i z, py = .int i ∧ L2.atI xs i = some z ∧ Out w EX M rho H (.ok z h) kk := by
  unfold ixL at o
  split at o
  · split at o
    · rename_i e
      exact ⟨_, _, rfl, e, o⟩
    · exact (show False from o).elim
  · exact (show False from o).elim
theorem o_ix (C : Cxt w k X) : IxR X (r2 w EX opIx) := by
  intro value slice pins s σ H x y v u Q I rx ry ⟨M, rho, h, px, py, hr, vx, vy, o⟩ hs
  have hu := C.units
  have dic : ∀ {A : Addr} {ks : List (Key × V)} {kvs : List (PV × PV)}, v = .ref A → Rd H A (.dK ks) → KRs w M rho H kvs ks → Out w EX M rho H (ixD h kvs py) (KV w Q) → wpAny (model X.prog X.w) X.A (subscriptTail value slice v u) (EP X pins σ Q) X.xe s := by
    intro A ks kvs ev rd sa o
    obtain ⟨hx, o2⟩ := Out.bif o
    obtain ⟨i, e1, e2, e3⟩ := lookP_ok hx vy
    subst ev e2
    rcases e3 sa with ⟨z1, z2⟩ | ⟨y', u', z1, z2, r'⟩
    · rw [z1] at o2; exact (show False from o2).elim
    · rw [z1] at o2
      have g : DGet H A (kV i) (some u') := .inl ⟨ks, i, rd, rfl, z2.symm⟩
      exact tail_any (T := "dict") (dict_typeIs I g) PySem.F.slot_dict_getitem.lookup (d_getItem (by omega) I g ry fun w' s3 I3 rw' => ⟨u', H, I3, rw', (show Out w EX M rho H (.ok y' h) (KV w Q) from o2).now hr _ r'⟩) hs
  have lst : ∀ {A : Addr} {us : List V} {xs : List PV}, x = .ref A → SqL w.K H A us → VRs w M rho H xs us → Out w EX M rho H (ixL h xs py) (KV w Q) → wpAny (model X.prog X.w) X.A (subscriptTail value slice v u) (EP X pins σ Q) X.xe s := by
    intro A us xs ex hq sa o
    obtain ⟨i, z, rfl, e, o⟩ := ixL_out o
    cases vy
    obtain ⟨z', e', r'⟩ := sa.atI e
    exact ix_list value slice pins s σ H _ _ v u Q I rx ry ⟨A, us, i, z', ex, rfl, by rw [C.hK]; exact hq, e', o.now hr _ r'⟩ hs
  cases vx <;> try exact (show False from o).elim
  · rename_i t
    have o' : Out w EX M rho H (ixS h t py) (KV w Q) := o
    unfold ixS at o'
    split at o'
    · split at o'
      · rename_i e
        cases vy
        obtain ⟨hl, o2⟩ := Out.lim o'
        refine ix_str value slice pins s σ H _ _ v u Q I rx ry ⟨_, _, _, rfl, rfl, ?_, ?_, o2.now hr (.str ⟨#[_]⟩) (.str [_])⟩ hs
        · show (S t).length ≤ _
          rw [S_len, lim_eq]; exact hl
        · show L2.atI (S t).cps.toList _ = some _
          rw [S_list]; exact e
      · exact (show False from o').elim
    · exact (show False from o').elim
  · rename_i xs us A ha sa
    obtain ⟨i, z, rfl, e, o2⟩ := ixL_out o
    cases vy
    obtain ⟨z', e', r'⟩ := sa.atI e
    exact ix_tup value slice pins s σ H _ _ v u Q I rx ry ⟨A, us, i, z', rfl, rfl, by rw [C.hK]; exact ha, e', o2.now hr _ r'⟩ hs
  · rename_i xs us A ha sa
    exact lst rfl ha.sq sa o
  · rename_i kvs ks A ob ha hn sa
    exact dic (by cases rx; rfl) (.inr ⟨ob, ha⟩) sa o
  · rename_i n A ha
    have o' : Out w EX M rho H (match h[n]? with
      | some (.dic _ kvs) => ixD h kvs py
      | some (.lst xs) => ixL h xs py
      | _ => .stuck) (KV w Q) := o
    split at o'
    · rename_i lk kvs e0
      obtain ⟨b, hb, ks, h1, sa⟩ := hr.ob n _ e0
      rw [ha] at hb; cases hb
      exact dic (by cases rx; rfl) (by
        cases lk with
        | false => exact .inl h1
        | true => exact .inr h1) sa o'
    · rename_i xs e0
      obtain ⟨us, h1, sa⟩ := hr.lst e0 ha
      exact lst rfl (SqL.of h1) sa o'
    · exact (show False from o').elim
theorem me_ix (C : Cxt w k X) {a b : Expr} {ma mb : ME} {pos : Pos} (ha : PE X a (tM w EX ma)) (hb : PE X b (tM w EX mb)) (hs : PlainIx b := by exact fun _ _ => rfl) : PE X (.Subscript a b pos) (tM w EX (mOp opIx ma mb)) :=
  PE.imp (pe_ix (o_ix C) ha hb hs) fun _ _ _ h => tM_op h
end

def cutG {α : Type} (xs : List α) (lo hi : Option Int) : List α := (xs.drop (HT.sIx xs.length 0 lo)).take (HT.sIx xs.length xs.length hi - HT.sIx xs.length 0 lo)
abbrev MO := List (Option PV) → PH → R (Option Int)
def tO (w : Wo) (EX : XC) (m : MO) : TO := fun σ H Q => ∃ M rho env h, ER w M rho H env σ ∧ HR w M rho H h ∧ Out w EX M rho H (m env h) (fun i _ _ _ H' => Q i H')
def moNone : MO := fun _ h => .ok none h
def moSome (m : ME) : MO := fun env h => (m env h).bind fun x h1 => match x with
  | .int i => .ok (some i) h1
  | _ => .stuck
def opSl (h : PH) (x : PV) (lo hi : Option Int) : R PV := match x with
  | .str s => bif decide (s.length ≤ LIM) then .ok (.str (cutG s lo hi)) h else .stuck
  | .tup xs => .ok (.tup (cutG xs lo hi)) h
  | .scr xs => .ok (.ref h.length) (h ++ [.lst (cutG xs lo hi)])
  | .ref n => match h[n]? with
    | some (.lst xs) => .ok (.ref h.length) (h ++ [.lst (cutG xs lo hi)])
    | _ => .stuck
  | _ => .stuck
def mSl (m : ME) (l u : MO) : ME := fun env h => (m env h).bind fun x h1 => (l env h1).bind fun lo h2 => (u env h2).bind fun hi h3 => opSl h3 x lo hi
section
variable {w : Wo} {EX : XC} {X : Cx} {k : Nat} {M : Addr → Prop} {rho : List Addr} {H : Hp} {h : PH}
theorem PO_imp {X : Cx} {e : Option Expr} {t t2 : TO} (p : L2.PO X e t) (i : ∀ σ H Q, t2 σ H Q → t σ H Q) : L2.PO X e t2 := ⟨fun pins s σ H Q I h => p.run pins s σ H Q I (i σ H Q h)⟩
theorem mo_none : L2.PO X none (tO w EX moNone) := by
  refine PO_imp po_none fun σ H Q hh => ?_
  obtain ⟨M, rho, env, h, er, hr, o⟩ := hh
  exact o.now hr
theorem mo_some {e : Expr} {m : ME} (ha : PE X e (tM w EX m)) : L2.PO X (some e) (tO w EX (moSome m)) := by
  refine PO_imp (po_some ha) fun σ H Q hh => ?_
  obtain ⟨M, rho, env, h, er, hr, o⟩ := hh
  refine tM.of er hr (Out.bind o) fun x h1 M1 rho1 H1 v st1 er1 hr1 o1 rv => ?_
  cases rv <;> try exact (show False from o1).elim
  rename_i i
  exact ⟨i, rfl, (show Out w EX M1 rho1 H1 (.ok (some i) h1) _ from o1).now hr1⟩
theorem VRs.cut {xs : List PV} {vs : List V} (r : VRs w M rho H xs vs) (lo hi : Option Int) : VRs w M rho H (cutG xs lo hi) (cutV vs lo hi) := by
  unfold cutG cutV
  rw [r.length]
  exact (r.drop _).take _
theorem cut_all {α : Type} (xs : List α) {lo hi : Option Int} (e : HT.sIx xs.length 0 lo = 0 ∧ HT.sIx xs.length xs.length hi = xs.length) : cutG xs lo hi = xs := by
  unfold cutG
  rw [e.1, e.2]
  simp
theorem o_sl (C : Cxt w k X) : SlR X (fun x lo hi H Q => ∃ M rho h px, HR w M rho H h ∧ VR w M rho H px x ∧ Out w EX M rho H (opSl h px lo hi) (KV w Q)) := by
  intro pins s σ H x v vl vu lo hi sl Q I rx hs pl pu ⟨M, rho, h, px, hr, vx, o⟩
  cases vx <;> try exact (show False from o).elim
  · rename_i t
    obtain ⟨hl, o2⟩ := Out.lim o
    refine sl_str pins s σ H _ v vl vu lo hi sl Q I rx hs pl pu ⟨_, rfl, ?_, ?_⟩
    · show (S t).length ≤ _
      rw [S_len, lim_eq]; exact hl
    · have e : cutS (⟨t.toArray⟩ : Str) lo hi = S (cutG t lo hi) := by
        unfold cutS cutG S
        simp [Str.length]
      rw [e]
      exact o2.now hr _ (.str _)
  · rename_i xs us A ha sa
    refine sl_tupA pins s σ H _ v vl vu lo hi sl Q I rx hs pl pu ⟨A, us, rfl, by rw [C.hK]; exact ha, fun e => ?_, fun _ => ?_⟩
    · have o2 : Out w EX M rho H (.ok (.tup (cutG xs lo hi)) h) (KV w Q) := o
      rw [sa.length] at e
      rw [cut_all xs e] at o2
      exact o2.now hr _ (.tup ha sa)
    · exact KV.tup hr o (sa.cut lo hi)
  · rename_i xs us A ha sa
    exact sl_list pins s σ H _ v vl vu lo hi sl Q I rx hs pl pu ⟨A, us, rfl, by rw [C.hK]; exact ha.sq, KV.lst hr o (sa.cut lo hi)⟩
  · rename_i n A ha
    have o' : Out w EX M rho H (match h[n]? with
      | some (.lst xs) => .ok (.ref h.length) (h ++ [.lst (cutG xs lo hi)])
      | _ => .stuck) (KV w Q) := o
    split at o'
    · rename_i xs e0
      obtain ⟨us, h1, sa⟩ := hr.lst e0 ha
      exact sl_list pins s σ H _ v vl vu lo hi sl Q I rx hs pl pu ⟨A, us, rfl, by rw [C.hK]; exact SqL.of h1, KV.lst hr o' (sa.cut lo hi)⟩
    · exact (show False from o').elim
theorem me_sl (C : Cxt w k X) {e : Expr} {lo hi : Option Expr} {m : ME} {l u : MO} {p2 pos : Pos} (ha : PE X e (tM w EX m)) (hl : L2.PO X lo (tO w EX l)) (hu : L2.PO X hi (tO w EX u)) : PE X (.Subscript e (.Slice lo hi none p2) pos) (tM w EX (mSl m l u)) := by
  refine PE.imp (pe_slice (o_sl (EX := EX) C) ha hl hu) fun σ H Q hh => ?_
  obtain ⟨M, rho, env, h, er, hr, o⟩ := hh
  refine tM.of er hr (Out.bind o) fun x h1 M1 rho1 H1 v st1 er1 hr1 o1 rv => ?_
  refine ⟨M1, rho1, env, h1, er1, hr1, (Out.bind o1).imp fun lo h2 M2 rho2 H2 st2 hr2 o2 => ?_⟩
  refine ⟨M2, rho2, env, h2, er1.step st2 hr1, hr2, (Out.bind o2).imp fun hi h3 M3 rho3 H3 st3 hr3 o3 => ?_⟩
  exact ⟨M3, rho3, h3, x, hr3, (rv.step st2 hr1).step st3 hr2, o3⟩
end

def lookF (f : Nm) : List (Nm × PV) → Option PV
  | [] => none
  | (k, v) :: r => bif k == f then some v else lookF f r
/-- the class and the attributes of an instance -/
def fldsOf (h : PH) : PV → Option (Nat × List (Nm × PV))
  | .ins c fs => some (c, fs)
  | .ref n => match h[n]? with
    | some (.ins c fs) => some (c, fs)
    | _ => none
  | _ => none
/-- o.f; cs: the classes of which the rule knows that field -/
def mFld (cs : List Nat) (f : Nm) (m : ME) : ME := fun env h => (m env h).bind fun x h1 => match fldsOf h1 x with
  | some (c, fs) => bif cs.contains c then (match lookF f fs with
    | some v => .ok v h1
    | none => .stuck) else .stuck
  | none => .stuck
/-- what the text says of a field of some classes -/
def Fld (w : Wo) (cs : List Nat) (f : Nm) : Prop := ∀ c C, c ∈ cs → w.cl c = some C → Cls w.K C ∧ NoAttr w.K C (nmS f)
section
variable {w : Wo} {EX : XC} {X : Cx} {k : Nat} {M : Addr → Prop} {rho : List Addr} {H : Hp} {h : PH}
theorem nmS_inj {a b : Nm} (e : nmS a = nmS b) : a = b := S_inj e
theorem FRs.look {f : Nm} : ∀ {fs : List (Nm × PV)} {gs : List (Str × V)} {x : PV}, FRs w M rho H fs gs → lookF f fs = some x → ∃ v, gs.lookup (nmS f) = some v ∧ VR w M rho H x v
  | _, _, _, .nil, e => nomatch e
  | _, _, x, .cons (k := kk) r s, e => by
    unfold lookF at e
    by_cases q : kk = f
    · subst q
      rw [beq_self_eq_true, cond_true] at e
      cases e
      exact ⟨_, by rw [List.lookup_cons, beq_self_eq_true], r⟩
    · rw [beq_eq_false_iff_ne.mpr q, cond_false] at e
      obtain ⟨v, h1, h2⟩ := FRs.look s e
      refine ⟨v, ?_, h2⟩
      rw [List.lookup_cons, beq_eq_false_iff_ne.mpr (fun z => q (nmS_inj z).symm)]
      exact h1
theorem flds_ok (hr : HR w M rho H h) {x : PV} {v : V} {c : Nat} {fs : List (Nm × PV)} (r : VR w M rho H x v) (e : fldsOf h x = some (c, fs)) : ∃ a C dx gs, v = .ref a ∧ w.cl c = some C ∧ H a = some (.ins C dx gs) ∧ FRs w M rho H fs gs := by
  cases r with
  | ins h1 h2 h3 h4 =>
    cases e
    exact ⟨_, _, _, _, rfl, h1, h2, h4⟩
  | @ref n a ha =>
    have e' : (match h[n]? with
      | some (.ins c fs) => some (c, fs)
      | _ => none) = some (c, fs) := e
    split at e'
    · rename_i c' fs' e0
      cases e'
      obtain ⟨b, hb, C, dx, gs, h1, h2, h3⟩ := hr.ob n _ e0
      rw [ha] at hb; cases hb
      exact ⟨a, C, dx, gs, rfl, h1, h2, h3⟩
    · cases e'
  | _ => cases e
theorem me_fld {cs : List Nat} {e : Expr} {z : Str} {m : ME} {pos : Pos} (C : Cxt w k X) (f : Nm) (hf : z = nmS f) (hA : Fld w cs f) (he : PE X e (tM w EX m)) (hb : attributeBase e z X.env (eval e X.env) = eval e X.env := by rfl) :
    PE X (.Attribute e z pos) (tM w EX (mFld cs f m)) := by
  subst hf
  refine PE.imp (pe_fld he hb) fun σ H Q hh => ?_
  obtain ⟨M, rho, env, h, er, hr, o⟩ := hh
  refine tM.of er hr (Out.bind o) fun x h1 M1 rho1 H1 v st1 er1 hr1 o1 rv => ?_
  split at o1
  · rename_i c fs e0
    obtain ⟨hc, o2⟩ := Out.bif o1
    split at o2
    · rename_i y e1
      obtain ⟨a, C', dx, gs, ev, h1, h2, h3⟩ := flds_ok hr1 rv e0
      obtain ⟨u, h4, h5⟩ := h3.look e1
      obtain ⟨g1, g2⟩ := hA c C' (List.contains_iff_mem.mp hc) h1
      exact ⟨a, C', dx, gs, u, ev, h2, by rw [C.hK]; exact g1, by rw [C.hK]; exact g2, h4, o2.now hr1 _ h5⟩
    · exact (show False from o2).elim
  · exact (show False from o1).elim
end
end MC

end
section
set_option maxRecDepth 100000
set_option maxHeartbeats 4000000
namespace MC
open PySem PySem.Spec PyProof.Rows L2

mutual
def noRef : PV → Bool
  | .ref _ => false
  | .tup xs => noRefs xs
  | .scr xs => noRefs xs
  | .rdic kvs => noRefK kvs
  | .ins _ fs => noRefF fs
  | .non => true
  | .bl _ => true
  | .int _ => true
  | .str _ => true
  | .gl _ => true
def noRefs : List PV → Bool
  | [] => true
  | x :: xs => noRef x && noRefs xs
def noRefK : List (PV × PV) → Bool
  | [] => true
  | (k, x) :: xs => noRef k && (noRef x && noRefK xs)
def noRefF : List (Nm × PV) → Bool
  | [] => true
  | (_, x) :: xs => noRef x && noRefF xs
end
mutual
def renV (f : Nat → Option Nat) : PV → Option PV
  | .ref n => match f n with
    | some m => some (.ref m)
    | none => none
  | .tup xs => match renVs f xs with
    | some ys => some (.tup ys)
    | none => none
  | .scr xs => match renVs f xs with
    | some ys => some (.scr ys)
    | none => none
  | .rdic kvs => match renK f kvs with
    | some ys => some (.rdic ys)
    | none => none
  | .ins c fs => match renF f fs with
    | some ys => some (.ins c ys)
    | none => none
  | .non => some .non
  | .bl b => some (.bl b)
  | .int i => some (.int i)
  | .str s => some (.str s)
  | .gl i => some (.gl i)
def renVs (f : Nat → Option Nat) : List PV → Option (List PV)
  | [] => some []
  | x :: xs => match renV f x, renVs f xs with
    | some y, some ys => some (y :: ys)
    | _, _ => none
def renK (f : Nat → Option Nat) : List (PV × PV) → Option (List (PV × PV))
  | [] => some []
  | (k, x) :: xs => match renV f x, renK f xs with
    | some y, some ys => some ((k, y) :: ys)
    | _, _ => none
def renF (f : Nat → Option Nat) : List (Nm × PV) → Option (List (Nm × PV))
  | [] => some []
  | (k, x) :: xs => match renV f x, renF f xs with
    | some y, some ys => some ((k, y) :: ys)
    | _, _ => none
end
def renO (f : Nat → Option Nat) : PO → Option PO
  | .lst xs => match renVs f xs with
    | some ys => some (.lst ys)
    | none => none
  | .ins c fs => match renF f fs with
    | some gs => some (.ins c gs)
    | none => none
  | .dic lk kvs => match renK f kvs with
    | some ls => some (.dic lk ls)
    | none => none
  | .dit lk kvs => match renK f kvs with
    | some ls => some (.dit lk ls)
    | none => none
mutual
def refsV : PV → List Nat
  | .ref n => [n]
  | .tup xs => refsVs xs
  | .scr xs => refsVs xs
  | .rdic kvs => refsK kvs
  | .ins _ fs => refsF fs
  | .non => []
  | .bl _ => []
  | .int _ => []
  | .str _ => []
  | .gl _ => []
def refsVs : List PV → List Nat
  | [] => []
  | x :: xs => refsV x ++ refsVs xs
def refsK : List (PV × PV) → List Nat
  | [] => []
  | (_, x) :: xs => refsV x ++ refsK xs
def refsF : List (Nm × PV) → List Nat
  | [] => []
  | (_, x) :: xs => refsV x ++ refsF xs
end
def refsO : PO → List Nat
  | .lst xs => refsVs xs
  | .ins _ fs => refsF fs
  | .dic _ kvs => refsK kvs
  | .dit _ kvs => refsK kvs
/-- the objects that are reached, each once -/
def reach (h : PH) : Nat → List Nat → List Nat → Option (List Nat)
  | _, [], seen => some seen
  | 0, _ :: _, _ => none
  | f + 1, n :: todo, seen => bif seen.contains n then reach h f todo seen else match h[n]? with
    | some o => reach h f (refsO o ++ todo) (seen ++ [n])
    | none => none
def idx (l : List Nat) (n : Nat) : Option Nat := match l with
  | [] => none
  | m :: r => bif m == n then some 0 else match idx r n with
    | some i => some (i + 1)
    | none => none

section
variable {w : Wo} {M M1 : Addr → Prop} {rho rho1 : List Addr} {H H1 : Hp} {h : PH}
/-- what stands for ever -/
def fixO : HO → Bool
  | .tup _ => true
  | .frz _ _ => true
  | .ins _ _ _ => true
  | _ => false
structure Tr (w : Wo) (M : Addr → Prop) (rho : List Addr) (H : Hp) (M1 : Addr → Prop) (rho1 : List Addr) (H1 : Hp) (f : Nat → Option Nat) : Prop where
  hp : ∀ b o, fixO o = true → H b = some o → H1 b = some o
  mo : ∀ b, M1 b → M b
  rf : ∀ (n m : Nat) a, f n = some m → rho[n]? = some a → rho1[m]? = some a
theorem Tr.sqT {f : Nat → Option Nat} (t : Tr w M rho H M1 rho1 H1 f) {K : PySem.W.Frag} {a : Addr} {vs : List V} (q : SqT K H a vs) : SqT K H1 a vs := by
  rcases q with (q | ⟨o, q⟩) | q
  · exact .inl (.inl (t.hp _ _ rfl q))
  · exact .inl (.inr ⟨o, t.hp _ _ rfl q⟩)
  · exact .inr q
theorem Tr.scr {f : Nat → Option Nat} (t : Tr w M rho H M1 rho1 H1 f) {a : Addr} {vs : List V} (q : ScrL w M H a vs) : ScrL w M1 H1 a vs := by
  rcases q with q | ⟨o, q, n⟩
  · exact .inl q
  · exact .inr ⟨o, t.hp _ _ rfl q, fun z => n (t.mo _ z)⟩
mutual
theorem VR.tr {f : Nat → Option Nat} (t : Tr w M rho H M1 rho1 H1 f) : ∀ {x y : PV} {v : V}, VR w M rho H x v → renV f x = some y → VR w M1 rho1 H1 y v
  | _, _, _, .non, e => by cases e; exact .non
  | _, _, _, .bl b, e => by cases e; exact .bl b
  | _, _, _, .int i, e => by cases e; exact .int i
  | _, _, _, .str s, e => by cases e; exact .str s
  | _, _, _, .tup (xs := xs) q s, e => by
    unfold renV at e
    cases e1 : renVs f xs with
    | none => rw [e1] at e; cases e
    | some ys => rw [e1] at e; cases e; exact .tup (t.sqT q) (VRs.tr t s e1)
  | _, _, _, .scr (xs := xs) q s, e => by
    unfold renV at e
    cases e1 : renVs f xs with
    | none => rw [e1] at e; cases e
    | some ys => rw [e1] at e; cases e; exact .scr (t.scr q) (VRs.tr t s e1)
  | _, _, _, .rdic (kvs := kvs) q n s, e => by
    unfold renV at e
    cases e1 : renK f kvs with
    | none => rw [e1] at e; cases e
    | some ys => rw [e1] at e; cases e; exact .rdic (t.hp _ _ rfl q) (fun z => n (t.mo _ z)) (KRs.tr t s e1)
  | _, _, _, .ins (fs := fs) c q n s, e => by
    unfold renV at e
    cases e1 : renF f fs with
    | none => rw [e1] at e; cases e
    | some ys => rw [e1] at e; cases e; exact .ins c (t.hp _ _ rfl q) (fun z => n (t.mo _ z)) (FRs.tr t s e1)
  | _, _, _, .ref (n := n) q, e => by
    unfold renV at e
    cases e1 : f n with
    | none => rw [e1] at e; cases e
    | some m => rw [e1] at e; cases e; exact .ref (t.rf n m _ e1 q)
  | _, _, _, .gl q, e => by cases e; exact .gl q
theorem VRs.tr {f : Nat → Option Nat} (t : Tr w M rho H M1 rho1 H1 f) : ∀ {xs ys : List PV} {vs : List V}, VRs w M rho H xs vs → renVs f xs = some ys → VRs w M1 rho1 H1 ys vs
  | _, _, _, .nil, e => by cases e; exact .nil
  | _, _, _, .cons (x := x) (xs := xs) a b, e => by
    unfold renVs at e
    cases e1 : renV f x with
    | none => rw [e1] at e; cases e
    | some y =>
      cases e2 : renVs f xs with
      | none => rw [e1, e2] at e; cases e
      | some ys => rw [e1, e2] at e; cases e; exact .cons (VR.tr t a e1) (VRs.tr t b e2)
theorem FRs.tr {f : Nat → Option Nat} (t : Tr w M rho H M1 rho1 H1 f) : ∀ {xs ys : List (Nm × PV)} {vs : List (Str × V)}, FRs w M rho H xs vs → renF f xs = some ys → FRs w M1 rho1 H1 ys vs
  | _, _, _, .nil, e => by cases e; exact .nil
  | _, _, _, .cons (x := x) (fs := xs) a b, e => by
    unfold renF at e
    cases e1 : renV f x with
    | none => rw [e1] at e; cases e
    | some y =>
      cases e2 : renF f xs with
      | none => rw [e1, e2] at e; cases e
      | some ys => rw [e1, e2] at e; cases e; exact .cons (VR.tr t a e1) (FRs.tr t b e2)
theorem KRs.tr {f : Nat → Option Nat} (t : Tr w M rho H M1 rho1 H1 f) : ∀ {xs ys : List (PV × PV)} {vs : List (Key × V)}, KRs w M rho H xs vs → renK f xs = some ys → KRs w M1 rho1 H1 ys vs
  | _, _, _, .nil, e => by cases e; exact .nil
  | _, _, _, .cons (x := x) (fs := xs) q a b, e => by
    unfold renK at e
    cases e1 : renV f x with
    | none => rw [e1] at e; cases e
    | some y =>
      cases e2 : renK f xs with
      | none => rw [e1, e2] at e; cases e
      | some ys => rw [e1, e2] at e; cases e; exact .cons q (VR.tr t a e1) (KRs.tr t b e2)
end
mutual
theorem nk_ren (f : Nat → Option Nat) : ∀ (x : PV) (k : NestedKey), nkP x = some k → renV f x = some x
  | .non, _, _ | .bl _, _, _ | .int _, _, _ | .str _, _, _ => by unfold renV; rfl
  | .tup xs, k, e => by
    unfold nkP at e
    cases q : nkPs xs with
    | none => rw [q] at e; cases e
    | some ks => unfold renV; rw [nks_ren f xs ks q]
  | .scr _, _, e | .rdic _, _, e | .ins _ _, _, e | .ref _, _, e | .gl _, _, e => by unfold nkP at e; cases e
theorem nks_ren (f : Nat → Option Nat) : ∀ (x : List PV) (k : List NestedKey), nkPs x = some k → renVs f x = some x
  | [], _, _ => by unfold renVs; rfl
  | x :: xs, k, e => by
    unfold nkPs at e
    cases q : nkP x with
    | none => rw [q] at e; cases e
    | some y =>
      cases q2 : nkPs xs with
      | none => rw [q, q2] at e; cases e
      | some ys => unfold renVs; rw [nk_ren f x y q, nks_ren f xs ys q2]
end
theorem TRs.tr {f : Nat → Option Nat} (t : Tr w M rho H M1 rho1 H1 f) : ∀ {xs ys : List (PV × PV)} {vs : List (NestedKey × Addr × Value)}, TRs w M rho H xs vs → renK f xs = some ys → TRs w M1 rho1 H1 ys vs
  | _, _, _, .nil, e => by cases e; exact .nil
  | _, _, _, .cons (k := k) (x := x) (fs := xs) q1 q2 r0 a r b, e => by
    unfold renK at e
    cases e1 : renV f x with
    | none => rw [e1] at e; cases e
    | some y =>
      cases e2 : renK f xs with
      | none => rw [e1, e2] at e; cases e
      | some ys => rw [e1, e2] at e; cases e; exact .cons q1 q2 (r0.tr t (nk_ren f k _ q1)) (a.tr t e1) r (TRs.tr t b e2)
theorem OR.tr {f : Nat → Option Nat} (t : Tr w M rho H M1 rho1 H1 f) {a : Addr} {o p : PO} (q : OR w M rho H a o) (he : H1 a = H a) (e : renO f o = Option.some p) : OR w M1 rho1 H1 a p := by
  cases o with
  | lst xs =>
    obtain ⟨vs, h1, h2⟩ := q
    cases e1 : renVs f xs with
    | none => simp only [renO, e1] at e; cases e
    | some ys => simp only [renO, e1] at e; cases e; exact ⟨vs, he.trans h1, h2.tr t e1⟩
  | ins c fs =>
    obtain ⟨C, dx, gs, h0, h1, h2⟩ := q
    cases e1 : renF f fs with
    | none => simp only [renO, e1] at e; cases e
    | some ys => simp only [renO, e1] at e; cases e; exact ⟨C, dx, gs, h0, he.trans h1, h2.tr t e1⟩
  | dic lk kvs =>
    obtain ⟨ks, h1, h2⟩ := q
    cases e1 : renK f kvs with
    | none => simp only [renO, e1] at e; cases e
    | some ys =>
      simp only [renO, e1] at e; cases e
      refine ⟨ks, ?_, h2.tr t e1⟩
      cases lk with
      | false => exact he.trans h1
      | true => obtain ⟨o, h1⟩ := h1; exact ⟨o, he.trans h1⟩
  | dit lk kvs =>
    obtain ⟨ks, h1, z1, z2, z3, h2⟩ := q
    cases e1 : renK f kvs with
    | none => simp only [renO, e1] at e; cases e
    | some ys =>
      simp only [renO, e1] at e; cases e
      refine ⟨ks, ?_, z1, z2, z3, h2.tr t e1⟩
      cases lk with
      | false => exact he.trans h1
      | true => obtain ⟨o, h1⟩ := h1; exact ⟨o, he.trans h1⟩
end

abbrev MF := List PV → PH → R PV
def FUEL : Nat := 400
def pick (h : PH) (f : Nat → Option Nat) (n : Nat) : Option PO := match h[n]? with
  | some o => renO f o
  | none => none
def setAll : PH → List Nat → List PO → PH
  | h, n :: ns, o :: os => setAll (h.set n o) ns os
  | h, _, _ => h
def newsOf (fp live : List Nat) : List Nat := live.filter fun n => decide (fp.length ≤ n)
def backF (fp news : List Nat) (n0 : Nat) : Nat → Option Nat := fun n => bif decide (n < fp.length) then fp[n]? else match idx news n with
  | some i => some (n0 + i)
  | none => none
/-- behind the call: fp the objects that were handed over, h the caller's heap, vs and g what came back -/
def takeL (h : PH) (fp : List Nat) (vs : List PV) (g : PH) : Option (List Nat × List PV × PH) := match reach g FUEL (refsVs vs ++ List.range fp.length) [] with
  | some live => match renVs (backF fp (newsOf fp live) h.length) vs, mapO (pick g (backF fp (newsOf fp live) h.length)) (List.range fp.length), mapO (pick g (backF fp (newsOf fp live) h.length)) (newsOf fp live) with
    | some us, some os, some ns => some (newsOf fp live, us, setAll h fp os ++ ns)
    | _, _, _ => none
  | none => none
def takeBack (h : PH) (fp : List Nat) (v : PV) (g : PH) : R PV := match takeL h fp [v] g with
  | some (_, [u], h2) => .ok u h2
  | _ => .stuck
/-- a new instance that nobody else holds is taken over as a value -/
def takeFrz (h : PH) (fp : List Nat) (v : PV) (g : PH) : R PV := match v with
  | .ref i => match g[i]? with
    | some (.ins c fs) => match takeL h fp (fs.map (·.2)) g with
      | some (news, us, h2) => bif news.contains i || decide (i < fp.length) then .stuck else .ok (.ins c ((fs.map (·.1)).zip us)) h2
      | none => .stuck
    | _ => .stuck
  | _ => .stuck
def callG (tb : PH → List Nat → PV → PH → R PV) (m : MF) (args : List PV) (h : PH) : R PV := match reach h FUEL (refsVs args) [] with
  | some fp => match renVs (idx fp) args, mapO (pick h (idx fp)) fp with
    | some as, some hc => match m as hc with
      | .ok v g => tb h fp v g
      | .exc _ _ _ => .stuck
      | .stuck => .stuck
    | _, _ => .stuck
  | none => .stuck
abbrev callM (m : MF) (args : List PV) (h : PH) : R PV := callG takeBack m args h
abbrev callF (m : MF) (args : List PV) (h : PH) : R PV := callG takeFrz m args h

section
theorem idx_get : ∀ {l : List Nat} {n i : Nat}, idx l n = some i → l[i]? = some n
  | [], _, _, e => nomatch e
  | m :: r, n, i, e => by
    unfold idx at e
    by_cases q : m = n
    · rw [beq_iff_eq.mpr q, cond_true] at e
      cases e
      rw [q]; rfl
    · rw [beq_eq_false_iff_ne.mpr q, cond_false] at e
      split at e
      · rename_i j ej
        cases e
        have := idx_get ej
        simpa using this
      · cases e
theorem mapO_len {α β : Type} {f : α → Option β} : ∀ {xs : List α} {ys : List β}, mapO f xs = some ys → ys.length = xs.length
  | [], _, e => by cases e; rfl
  | x :: xs, ys, e => by
    unfold mapO at e
    split at e
    · cases e
    · split at e
      · cases e
      · rename_i e2
        cases e
        rw [List.length_cons, List.length_cons, mapO_len e2]
theorem mapO_get {α β : Type} {f : α → Option β} : ∀ {xs : List α} {ys : List β}, mapO f xs = some ys → ∀ {i : Nat} {x : α}, xs[i]? = some x → ∃ y, ys[i]? = some y ∧ f x = some y
  | [], _, _, i, _, h => by simp at h
  | x :: xs, ys, e, i, z, h => by
    unfold mapO at e
    split at e
    · cases e
    · rename_i y ey
      split at e
      · cases e
      · rename_i e2
        cases e
        cases i with
        | zero =>
          have h1 : x = z := by simpa using h
          subst h1
          exact ⟨y, rfl, ey⟩
        | succ i =>
          obtain ⟨y2, h1, h2⟩ := mapO_get e2 (i := i) (x := z) (by simpa using h)
          exact ⟨y2, by simpa using h1, h2⟩
theorem reach_nd {h : PH} : ∀ {f : Nat} {todo seen fp : List Nat}, seen.Nodup → reach h f todo seen = some fp → fp.Nodup
  | f, [], seen, fp, n, e => by
    cases f <;> (unfold reach at e; cases e; exact n)
  | 0, _ :: _, _, _, _, e => by unfold reach at e; cases e
  | f + 1, m :: todo, seen, fp, n, e => by
    unfold reach at e
    by_cases q : seen.contains m = true
    · rw [q, cond_true] at e
      exact reach_nd n e
    · have q' : seen.contains m = false := by simpa using q
      rw [q', cond_false] at e
      split at e
      · refine reach_nd (List.nodup_append.mpr ⟨n, (by simp), fun a ha b hb z => ?_⟩) e
        rw [List.mem_singleton] at hb
        subst z; subst hb
        exact q (List.contains_iff_mem.mpr ha)
      · cases e
theorem setAll_len : ∀ (h : PH) (ns : List Nat) (os : List PO), (setAll h ns os).length = h.length
  | h, [], os => by cases os <;> rfl
  | h, n :: ns, [] => rfl
  | h, n :: ns, o :: os => by
    show (setAll (h.set n o) ns os).length = _
    rw [setAll_len, List.length_set]
theorem setAll_out : ∀ (h : PH) (ns : List Nat) (os : List PO) {i : Nat}, i ∉ ns → (setAll h ns os)[i]? = h[i]?
  | h, [], os, i, _ => by cases os <;> rfl
  | h, n :: ns, [], i, _ => rfl
  | h, n :: ns, o :: os, i, hn => by
    show (setAll (h.set n o) ns os)[i]? = _
    have h1 : n ≠ i := fun e => hn (by rw [e]; exact List.mem_cons_self)
    rw [setAll_out (h.set n o) ns os fun z => hn (List.mem_cons_of_mem _ z), List.getElem?_set_ne h1]
theorem setAll_in : ∀ (h : PH) (ns : List Nat) (os : List PO), ns.Nodup → os.length = ns.length → ∀ {i j : Nat}, ns[j]? = some i → i < h.length → (setAll h ns os)[i]? = os[j]?
  | h, [], os, _, _, i, j, e, _ => by simp at e
  | h, n :: ns, [], _, l, i, j, e, _ => by simp at l
  | h, n :: ns, o :: os, nd, l, i, j, e, hi => by
    show (setAll (h.set n o) ns os)[i]? = _
    have nd2 := List.nodup_cons.mp nd
    cases j with
    | zero =>
      have e1 : n = i := by simpa using e
      subst e1
      rw [setAll_out _ _ _ nd2.1, List.getElem?_set_self hi]
      rfl
    | succ j =>
      have e1 : ns[j]? = some i := by simpa using e
      have := setAll_in (h.set n o) ns os nd2.2 (by simpa using l) e1 (by rw [List.length_set]; exact hi)
      rw [this]
      simp
end
section
variable {w : Wo} {EX EX2 : XC} {M : Addr → Prop} {rho : List Addr} {H : Hp} {h : PH}
/-- the addresses that are handed over -/
def some_of (rho : List Addr) (fp : List Nat) : List Addr := fp.map fun n => rho.getD n 0
theorem some_get {rho : List Addr} {fp : List Nat} {i n : Nat} {a : Addr} (e : fp[i]? = some n) (r : rho[n]? = some a) : (some_of rho fp)[i]? = some a := by
  unfold some_of
  rw [List.getElem?_map, e]
  simp [List.getD, r]
theorem some_inv {rho : List Addr} {fp : List Nat} {i : Nat} {a : Addr} (hf : ∀ n ∈ fp, n < rho.length) (e : (some_of rho fp)[i]? = some a) : ∃ n, fp[i]? = some n ∧ rho[n]? = some a := by
  unfold some_of at e
  rw [List.getElem?_map] at e
  cases q : fp[i]? with
  | none => rw [q] at e; cases e
  | some n =>
    rw [q] at e
    have hn := hf n (List.mem_of_getElem? q)
    refine ⟨n, rfl, ?_⟩
    rw [← e]
    simp [List.getD, hn]
theorem some_nd {rho : List Addr} {fp : List Nat} (h1 : rho.Nodup) (h2 : fp.Nodup) (hf : ∀ n ∈ fp, n < rho.length) : (some_of rho fp).Nodup := by
  unfold some_of
  induction fp with
  | nil => exact List.nodup_nil
  | cons n r ih =>
    have h3 := List.nodup_cons.mp h2
    rw [List.map_cons]
    refine List.nodup_cons.mpr ⟨fun z => ?_, ih h3.2 fun m hm => hf m (List.mem_cons_of_mem _ hm)⟩
    obtain ⟨m, hm, e⟩ := List.mem_map.mp z
    have l1 := hf n List.mem_cons_self
    have l2 := hf m (List.mem_cons_of_mem _ hm)
    simp only [List.getD, List.getElem?_eq_getElem l1, List.getElem?_eq_getElem l2, Option.getD_some] at e
    have := (List.getElem_inj h1).mp e
    subst this
    exact h3.1 hm
theorem pick_some {h : PH} {f : Nat → Option Nat} {n : Nat} {p : PO} (e : pick h f n = some p) : ∃ o, h[n]? = some o ∧ renO f o = some p := by
  unfold pick at e
  split at e
  · rename_i o e0
    exact ⟨o, e0, e⟩
  · cases e
theorem pick_all {h : PH} {f : Nat → Option Nat} {ns : List Nat} {os : List PO} (e : mapO (pick h f) ns = some os) : ∀ n ∈ ns, n < h.length := fun n hn => by
  obtain ⟨i, hi, ei⟩ := List.mem_iff_getElem.mp hn
  obtain ⟨y, _, ey⟩ := mapO_get e (i := i) (x := n) (by rw [List.getElem?_eq_getElem hi, ei])
  obtain ⟨o, h1, _⟩ := pick_some ey
  exact (List.getElem?_eq_some_iff.mp h1).1
/-- entering -/
theorem enter_ok (hr : HR w M rho H h) {args as : List PV} {hc : PH} {fp : List Nat} {vs : List V} (nd : fp.Nodup) (e1 : renVs (idx fp) args = some as) (e2 : mapO (pick h (idx fp)) fp = some hc) (r : VRs w M rho H args vs) :
    VRs w M (some_of rho fp) H as vs ∧ HR w M (some_of rho fp) H hc := by
  have hf : ∀ n ∈ fp, n < rho.length := fun n hn => by rw [← hr.len]; exact pick_all e2 n hn
  have t : Tr w M rho H M (some_of rho fp) H (idx fp) := ⟨fun _ _ _ e => e, fun _ e => e, fun n m a q ha => some_get (idx_get q) ha⟩
  refine ⟨r.tr t e1, ⟨?_, some_nd hr.nd nd hf, fun b hb => ?_, hr.live, fun n o q => ?_⟩⟩
  · rw [mapO_len e2]
    unfold some_of
    rw [List.length_map]
  · obtain ⟨i, hi, ei⟩ := List.mem_iff_getElem.mp hb
    obtain ⟨n, _, hn⟩ := some_inv hf (i := i) (a := b) (by rw [List.getElem?_eq_getElem hi, ei])
    exact hr.mem b (List.mem_of_getElem? hn)
  · have hn : n < fp.length := by
      have := (List.getElem?_eq_some_iff.mp q).1
      rwa [mapO_len e2] at this
    obtain ⟨y, hy, ey⟩ := mapO_get e2 (i := n) (x := fp[n]) (List.getElem?_eq_getElem hn)
    rw [q] at hy
    cases hy
    obtain ⟨o', h1, h2⟩ := pick_some ey
    obtain ⟨a, ha, s⟩ := hr.ob _ _ h1
    exact ⟨a, some_get (List.getElem?_eq_getElem hn) ha, s.tr t rfl h2⟩
theorem Out.bifN {α : Type} {c : Bool} {r : R α} {kk : KC α} (o : Out w EX M rho H (bif c then .stuck else r) kk) : c = false ∧ Out w EX M rho H r kk := by
  cases c with
  | true => exact (show False from o).elim
  | false => exact ⟨rfl, o⟩
/-- coming back -/
theorem back_core {M1 : Addr → Prop} {rho1 : List Addr} {H1 : Hp} (hr : HR w M rho H h) {fp : List Nat} {g h2 : PH} {v us : List PV} {V : List L2.V} {nw : List Nat} (nd : fp.Nodup) (hf : ∀ n ∈ fp, n < rho.length) (st : Step M (some_of rho fp) H M1 rho1 H1) (hr1 : HR w M1 rho1 H1 g) (r : VRs w M1 rho1 H1 v V)
    (o : takeL h fp v g = some (nw, us, h2)) : ∃ M2 rho2, Step M rho H M2 rho2 H1 ∧ HR w M2 rho2 H1 h2 ∧ VRs w M2 rho2 H1 us V ∧ (∀ b, M2 b → M b ∨ ∃ n ∈ nw, rho1[n]? = some b) := by
  unfold takeL at o
  split at o
  · rename_i live el
    have ndl := reach_nd List.nodup_nil el
    generalize hnews : newsOf fp live = news at o
    have ndn : news.Nodup := by rw [← hnews]; exact ndl.filter _
    have nge : ∀ n ∈ news, fp.length ≤ n := fun n hn => by
      rw [← hnews] at hn
      exact of_decide_eq_true (List.mem_filter.mp hn).2
    generalize hfd : backF fp news h.length = f at o
    split at o
    · rename_i us' os ns e1 e2 e3
      have lo : os.length = fp.length := by rw [mapO_len e2, List.length_range]
      have ln : ns.length = news.length := mapO_len e3
      have nlt : ∀ n ∈ news, n < rho1.length := fun n hn => by rw [← hr1.len]; exact pick_all e3 n hn
      have lc : (some_of rho fp).length = fp.length := by unfold some_of; rw [List.length_map]
      -- a new address
      have newA : ∀ b ∈ some_of rho1 news, b ∈ rho1 ∧ H b = none := fun b hb => by
        obtain ⟨i, hi, ei⟩ := List.mem_iff_getElem.mp hb
        obtain ⟨n, h1, h2⟩ := some_inv nlt (i := i) (a := b) (by rw [List.getElem?_eq_getElem hi, ei])
        have hm := List.mem_of_getElem? h2
        refine ⟨hm, ?_⟩
        rcases st.new b hm with z | z
        · obtain ⟨j, hj, ej⟩ := List.mem_iff_getElem.mp z
          have q := st.ext j b (by rw [List.getElem?_eq_getElem hj, ej])
          obtain ⟨l1, z1⟩ := List.getElem?_eq_some_iff.mp q
          obtain ⟨l2, z2⟩ := List.getElem?_eq_some_iff.mp h2
          have := (List.getElem_inj hr1.nd).mp (z1.trans z2.symm)
          have g1 := nge n (List.mem_of_getElem? h1)
          rw [lc] at hj
          omega
        · exact z
      have subR : ∀ b ∈ some_of rho fp, b ∈ rho := fun b hb => by
        obtain ⟨i, hi, ei⟩ := List.mem_iff_getElem.mp hb
        obtain ⟨n, _, hn⟩ := some_inv hf (i := i) (a := b) (by rw [List.getElem?_eq_getElem hi, ei])
        exact List.mem_of_getElem? hn
      let M2 : Addr → Prop := fun b => M b ∨ b ∈ some_of rho1 news
      let rho2 := rho ++ some_of rho1 news
      have st2 : Step M rho H M2 rho2 H1 := by
        refine ⟨fun n a e => ?_, fun b e => .inl e, fun b e => e.elim .inl fun z => .inr (newA b z).2, fun b e => ?_, fun b o' nb e => st.frame b o' (fun z => nb (subR b z)) e, st.there, st.frz⟩
        · show (rho ++ some_of rho1 news)[n]? = some a
          rw [List.getElem?_append_left (List.getElem?_eq_some_iff.mp e).1]; exact e
        · rcases List.mem_append.mp e with z | z
          · exact .inl z
          · exact .inr (newA b z).2
      have t : Tr w M1 rho1 H1 M2 rho2 H1 f := by
        refine ⟨fun _ _ _ e => e, fun b e => e.elim (st.mono b) fun z => hr1.mem b (newA b z).1, fun n m a q ha => ?_⟩
        rw [← hfd] at q
        unfold backF at q
        by_cases hn : n < fp.length
        · simp only [hn, decide_true, cond_true] at q
          have hm := hf m (List.mem_of_getElem? q)
          have z := st.ext n _ (some_get q (List.getElem?_eq_getElem hm))
          rw [ha] at z
          cases z
          show (rho ++ some_of rho1 news)[m]? = _
          rw [List.getElem?_append_left hm]
          exact List.getElem?_eq_getElem hm
        · simp only [hn, decide_false, cond_false] at q
          split at q
          · rename_i i ei
            cases q
            show (rho ++ some_of rho1 news)[h.length + i]? = _
            rw [hr.len, List.getElem?_append_right (Nat.le_add_right _ _), Nat.add_sub_cancel_left]
            exact some_get (idx_get ei) ha
          · cases q
      have hr2 : HR w M2 rho2 H1 (setAll h fp os ++ ns) := by
        refine ⟨?_, ?_, fun b hb => ?_, fun b hb => ?_, fun n o' q => ?_⟩
        · show _ = (rho ++ some_of rho1 news).length
          rw [List.length_append, List.length_append, setAll_len, hr.len, ln]
          unfold some_of
          rw [List.length_map]
        · refine List.nodup_append.mpr ⟨hr.nd, some_nd hr1.nd ndn nlt, fun a ha b hb e => ?_⟩
          subst e
          exact hr.live _ (hr.mem _ ha) (newA _ hb).2
        · rcases List.mem_append.mp hb with z | z
          · exact .inl (hr.mem b z)
          · exact .inr z
        · rcases hb with z | z
          · exact st.there b (hr.live b z)
          · exact hr1.live b (hr1.mem b (newA b z).1)
        · by_cases hn : n < h.length
          · rw [List.getElem?_append_left (by rw [setAll_len]; exact hn)] at q
            by_cases hm : n ∈ fp
            · obtain ⟨j, hj, ej⟩ := List.mem_iff_getElem.mp hm
              have e4 : fp[j]? = some n := by rw [List.getElem?_eq_getElem hj, ej]
              rw [setAll_in h fp os nd lo e4 hn] at q
              obtain ⟨y, hy, ey⟩ := mapO_get e2 (i := j) (x := j) (by simp [hj])
              rw [q] at hy
              cases hy
              obtain ⟨o2, h1, h2⟩ := pick_some ey
              obtain ⟨a, ha, s⟩ := hr1.ob _ _ h1
              refine ⟨a, ?_, s.tr t rfl h2⟩
              have hn2 : n < rho.length := by rw [← hr.len]; exact hn
              have z := st.ext j _ (some_get e4 (List.getElem?_eq_getElem hn2))
              rw [ha] at z
              cases z
              show (rho ++ some_of rho1 news)[n]? = _
              rw [List.getElem?_append_left hn2]
              exact List.getElem?_eq_getElem hn2
            · rw [setAll_out h fp os hm] at q
              obtain ⟨a, ha, s⟩ := hr.ob _ _ q
              refine ⟨a, st2.ext n a ha, s.step st2 hr ?_⟩
              obtain ⟨x, hx, _⟩ := s.some
              rw [hx]
              refine st.frame a x (fun z => ?_) hx
              obtain ⟨i, hi, ei⟩ := List.mem_iff_getElem.mp z
              obtain ⟨n', h5, h6⟩ := some_inv hf (i := i) (a := a) (by rw [List.getElem?_eq_getElem hi, ei])
              obtain ⟨l1, z1⟩ := List.getElem?_eq_some_iff.mp ha
              obtain ⟨l2, z2⟩ := List.getElem?_eq_some_iff.mp h6
              have := (List.getElem_inj hr.nd).mp (z1.trans z2.symm)
              subst this
              exact hm (List.mem_of_getElem? h5)
          · rw [List.getElem?_append_right (by rw [setAll_len]; omega), setAll_len] at q
            have hl : n - h.length < news.length := by
              have := (List.getElem?_eq_some_iff.mp q).1
              omega
            obtain ⟨y, hy, ey⟩ := mapO_get e3 (i := n - h.length) (x := news[n - h.length]) (List.getElem?_eq_getElem hl)
            rw [q] at hy
            cases hy
            obtain ⟨o2, h1, h2⟩ := pick_some ey
            obtain ⟨a, ha, s⟩ := hr1.ob _ _ h1
            refine ⟨a, ?_, s.tr t rfl h2⟩
            show (rho ++ some_of rho1 news)[n]? = _
            rw [List.getElem?_append_right (by rw [← hr.len]; omega), ← hr.len]
            exact some_get (List.getElem?_eq_getElem hl) ha
      have o2 := Option.some.inj o
      have p1 := congrArg Prod.fst o2
      have p2 := congrArg (fun z => z.2.1) o2
      have p3 := congrArg (fun z => z.2.2) o2
      simp only at p1 p2 p3
      subst p1; subst p2; subst p3
      refine ⟨M2, rho2, st2, hr2, r.tr t e1, fun b hb => hb.elim .inl fun z => .inr ?_⟩
      obtain ⟨i, hi, ei⟩ := List.mem_iff_getElem.mp z
      obtain ⟨n, h1, h2⟩ := some_inv nlt (i := i) (a := b) (by rw [List.getElem?_eq_getElem hi, ei])
      exact ⟨n, List.mem_of_getElem? h1, h2⟩
    · cases o
  · cases o
theorem back_ok {M1 : Addr → Prop} {rho1 : List Addr} {H1 : Hp} (hr : HR w M rho H h) {fp : List Nat} {g : PH} {v : PV} {V : L2.V} (nd : fp.Nodup) (hf : ∀ n ∈ fp, n < rho.length) (st : Step M (some_of rho fp) H M1 rho1 H1) (hr1 : HR w M1 rho1 H1 g) (r : VR w M1 rho1 H1 v V)
    {k : KC PV} (o : Out w EX M rho H (takeBack h fp v g) k) : ∃ M2 rho2 u h2, Step M rho H M2 rho2 H1 ∧ HR w M2 rho2 H1 h2 ∧ VR w M2 rho2 H1 u V ∧ k u h2 M2 rho2 H1 := by
  unfold takeBack at o
  split at o
  · rename_i nw u h2 e
    obtain ⟨M2, rho2, st2, hr2, r2, _⟩ := back_core hr nd hf st hr1 (.cons r .nil) e
    cases r2 with
    | cons r2 _ => exact ⟨M2, rho2, u, h2, st2, hr2, r2, o M2 rho2 H1 st2 hr2⟩
  · exact (show False from o).elim
theorem FRs.vals {M1 : Addr → Prop} {rho1 : List Addr} {H1 : Hp} : ∀ {fs : List (Nm × PV)} {gs : List (Str × L2.V)}, FRs w M1 rho1 H1 fs gs → VRs w M1 rho1 H1 (fs.map (·.2)) (gs.map (·.2))
  | _, _, .nil => .nil
  | _, _, .cons a b => .cons a b.vals
theorem FRs.back {M1 M2 : Addr → Prop} {rho1 rho2 : List Addr} {H1 H2 : Hp} : ∀ {fs : List (Nm × PV)} {gs : List (Str × L2.V)} {us : List PV}, FRs w M1 rho1 H1 fs gs → VRs w M2 rho2 H2 us (gs.map (·.2)) → FRs w M2 rho2 H2 ((fs.map (·.1)).zip us) gs
  | _, _, _, .nil, .nil => .nil
  | _, _, _, .cons a b, .cons c d => .cons c (b.back d)
theorem frz_ok {M1 : Addr → Prop} {rho1 : List Addr} {H1 : Hp} (hr : HR w M rho H h) {fp : List Nat} {g : PH} {v : PV} {V : L2.V} (nd : fp.Nodup) (hf : ∀ n ∈ fp, n < rho.length) (st : Step M (some_of rho fp) H M1 rho1 H1) (hr1 : HR w M1 rho1 H1 g) (r : VR w M1 rho1 H1 v V)
    {k : KC PV} (o : Out w EX M rho H (takeFrz h fp v g) k) : ∃ M2 rho2 u h2, Step M rho H M2 rho2 H1 ∧ HR w M2 rho2 H1 h2 ∧ VR w M2 rho2 H1 u V ∧ k u h2 M2 rho2 H1 := by
  unfold takeFrz at o
  cases r <;> try exact (show False from o).elim
  rename_i i a ha
  dsimp only at o
  split at o
  · rename_i c fs e0
    split at o
    · rename_i nw us h2 e
      obtain ⟨hc, o⟩ := Out.bifN o
      simp only [Bool.or_eq_false_iff, decide_eq_false_iff_not] at hc
      obtain ⟨a', ha', C, dx, gs, q1, q2, q3⟩ := hr1.ob _ _ e0
      rw [ha] at ha'
      cases ha'
      obtain ⟨M2, rho2, st2, hr2, r2, mm⟩ := back_core hr nd hf st hr1 q3.vals e
      refine ⟨M2, rho2, _, h2, st2, hr2, .ins q1 q2 (fun z => ?_) (q3.back r2), o M2 rho2 H1 st2 hr2⟩
      have uniq : ∀ n, rho1[n]? = some a → n = i := fun n hn => by
        obtain ⟨l1, z1⟩ := List.getElem?_eq_some_iff.mp hn
        obtain ⟨l2, z2⟩ := List.getElem?_eq_some_iff.mp ha
        exact (List.getElem_inj hr1.nd).mp (z1.trans z2.symm)
      rcases mm a z with y | ⟨n, hn, en⟩
      · rcases st.new a (List.mem_of_getElem? ha) with x | x
        · obtain ⟨j, hj, ej⟩ := List.mem_iff_getElem.mp x
          have q := st.ext j a (by rw [List.getElem?_eq_getElem hj, ej])
          have := uniq j q
          subst this
          have lc : (some_of rho fp).length = fp.length := by unfold some_of; rw [List.length_map]
          exact hc.2 (by omega)
        · exact hr.live a y x
      · have := uniq n en
        subst this
        have := hc.1
        rw [List.contains_iff_mem.mpr hn] at this
        cases this
    · exact (show False from o).elim
  · exact (show False from o).elim
/-- the callee's outcome from the call's -/
def TbOk (w : Wo) (EX : XC) (tb : PH → List Nat → PV → PH → R PV) : Prop := ∀ {M M1 : Addr → Prop} {rho rho1 : List Addr} {H H1 : Hp} {h : PH}, HR w M rho H h → ∀ {fp : List Nat} {g : PH} {v : PV} {V : L2.V}, fp.Nodup → (∀ n ∈ fp, n < rho.length) → Step M (some_of rho fp) H M1 rho1 H1 → HR w M1 rho1 H1 g → VR w M1 rho1 H1 v V →
    ∀ {k : KC PV}, Out w EX M rho H (tb h fp v g) k → ∃ M2 rho2 u h2, Step M rho H M2 rho2 H1 ∧ HR w M2 rho2 H1 h2 ∧ VR w M2 rho2 H1 u V ∧ k u h2 M2 rho2 H1
theorem tb_ok : TbOk w EX takeBack := back_ok
theorem tf_ok : TbOk w EX takeFrz := frz_ok
theorem callG_ok {tb : PH → List Nat → PV → PH → R PV} (T : TbOk w EX tb) {m : MF} {args : List PV} {vs : List V} {k : KC PV} (hr : HR w M rho H h) (r : VRs w M rho H args vs) (o : Out w EX M rho H (callG tb m args h) k) :
    ∃ rho' as hc, VRs w M rho' H as vs ∧ HR w M rho' H hc ∧ Out w EX2 M rho' H (m as hc) (fun v _ M1 rho1 H1 => ∀ V, VR w M1 rho1 H1 v V → ∃ M2 rho2 u h2, Step M rho H M2 rho2 H1 ∧ HR w M2 rho2 H1 h2 ∧ VR w M2 rho2 H1 u V ∧ k u h2 M2 rho2 H1) := by
  unfold callG at o
  split at o
  · rename_i fp ef
    have nd := reach_nd List.nodup_nil ef
    split at o
    · rename_i as hc e1 e2
      have hf : ∀ n ∈ fp, n < rho.length := fun n hn => by rw [← hr.len]; exact pick_all e2 n hn
      obtain ⟨r', hr'⟩ := enter_ok hr nd e1 e2 r
      refine ⟨_, as, hc, r', hr', ?_⟩
      split at o
      · rename_i v g em
        rw [em]
        exact fun M1 rho1 H1 st hr1 V rv => T hr nd hf st hr1 rv o
      · exact (show False from o).elim
      · exact (show False from o).elim
    · exact (show False from o).elim
  · exact (show False from o).elim
end
end MC

end
section
set_option maxRecDepth 100000
set_option maxHeartbeats 4000000
namespace MC
open PySem PySem.Spec PyProof.Rows L2

abbrev En := List (Option PV)
/-- how a statement ends -/
inductive Fl where
  | nx (e : En)
  | rt (v : PV)
  | bk (e : En)
  | ct (e : En)
abbrev MS := En → PH → R Fl
def KS (w : Wo) (D : Ends) : KC Fl := fun f _ M rho H => match f with
  | .nx e => ∀ s, ER w M rho H e s → D.nx s H
  | .rt x => ∀ v, VR w M rho H x v → D.rt v H
  | .bk e => ∀ s, ER w M rho H e s → D.bk s H
  | .ct e => ∀ s, ER w M rho H e s → D.ct s H
def tS (w : Wo) (EX : XC) (m : MS) : TS := fun D s H => ∃ M rho env h, ER w M rho H env s ∧ HR w M rho H h ∧ Out w EX M rho H (m env h) (KS w D)
theorem PS_imp {X : Cx} {e : Stmt} {t t2 : TS} (p : PS X e t) (i : ∀ D s H, t2 D s H → t D s H) : PS X e t2 := ⟨fun pins s σ H D I h => p.run pins s σ H D I (i D σ H h)⟩
theorem PSs_imp {X : Cx} {e : List Stmt} {t t2 : TS} (p : PSs X e t) (i : ∀ D s H, t2 D s H → t D s H) : PSs X e t2 := ⟨fun pins s σ H D I h => p.run pins s σ H D I (i D σ H h)⟩

def mNil : MS := fun env h => .ok (.nx env) h
def mSeq (a b : MS) : MS := fun env h => (a env h).bind fun f h1 => match f with
  | .nx e => b e h1
  | .rt v => .ok (.rt v) h1
  | .bk e => .ok (.bk e) h1
  | .ct e => .ok (.ct e) h1
def mSet (i : Nat) (m : ME) : MS := fun env h => (m env h).bind fun x h1 => .ok (.nx (env.set i (some x))) h1
def mDrop (m : ME) : MS := fun env h => (m env h).bind fun _ h1 => .ok (.nx env) h1
def mRet (m : ME) : MS := fun env h => (m env h).bind fun x h1 => .ok (.rt x) h1
def mRetN : MS := fun _ h => .ok (.rt .non) h
def mIfS (t : MT) (a b : MS) : MS := fun env h => (t env h).bind fun c h1 => bif c then a env h1 else b env h1
def mBreak : MS := fun env h => .ok (.bk env) h
def mCont : MS := fun env h => .ok (.ct env) h
def mNever : MS := fun _ _ => .stuck
section
variable {w : Wo} {EX : XC} {X : Cx} {k : Nat} {st : Stmt} {rest : List Stmt} {a b : MS} {m : ME} {e : Expr} {pos : Pos}
theorem mss_nil : PSs X [] (tS w EX mNil) := by
  refine PSs_imp pss_nil fun D s H hh => ?_
  obtain ⟨M, rho, env, h, er, hr, o⟩ := hh
  exact o.now hr s er
theorem mss_cons (h1 : PS X st (tS w EX a)) (h2 : PSs X rest (tS w EX b)) : PSs X (st :: rest) (tS w EX (mSeq a b)) := by
  refine PSs_imp (pss_cons h1 h2) fun D s H hh => ?_
  obtain ⟨M, rho, env, h, er, hr, o⟩ := hh
  refine ⟨M, rho, env, h, er, hr, (Out.bind o).imp fun f h1 M1 rho1 H1 st1 hr1 o1 => ?_⟩
  cases f with
  | nx e => exact fun s1 er1 => ⟨M1, rho1, e, h1, er1, hr1, o1⟩
  | rt v => exact (show Out w EX M1 rho1 H1 (.ok (.rt v) h1) (KS w D) from o1).now hr1
  | bk e => exact (show Out w EX M1 rho1 H1 (.ok (.bk e) h1) (KS w D) from o1).now hr1
  | ct e => exact (show Out w EX M1 rho1 H1 (.ok (.ct e) h1) (KS w D) from o1).now hr1
theorem ms_pass : PS X (.Pass pos) (tS w EX mNil) := by
  refine PS_imp ps_pass fun D s H hh => ?_
  obtain ⟨M, rho, env, h, er, hr, o⟩ := hh
  exact o.now hr s er
theorem ms_doc {x j pos pos'} : PS X (.Expr (.Constant (.str x) j pos) pos') (tS w EX mNil) := by
  refine PS_imp ps_doc fun D s H hh => ?_
  obtain ⟨M, rho, env, h, er, hr, o⟩ := hh
  exact o.now hr s er
theorem ms_break : PS X (.Break pos) (tS w EX mBreak) := by
  refine PS_imp ps_break fun D s H hh => ?_
  obtain ⟨M, rho, env, h, er, hr, o⟩ := hh
  exact o.now hr s er
theorem ms_cont : PS X (.Continue pos) (tS w EX mCont) := by
  refine PS_imp ps_continue fun D s H hh => ?_
  obtain ⟨M, rho, env, h, er, hr, o⟩ := hh
  exact o.now hr s er
theorem ms_never : PS X st (tS w EX mNever) := ⟨fun _ _ _ _ _ _ ⟨_, _, _, _, _, _, o⟩ => (show False from o).elim⟩
theorem mss_never {sts : List Stmt} : PSs X sts (tS w EX mNever) := ⟨fun _ _ _ _ _ _ ⟨_, _, _, _, _, _, o⟩ => (show False from o).elim⟩
theorem ms_set (i : Nat) {x : Str} {pos' : Pos} (hN : X.N.Nodup) (he : PE X e (tM w EX m)) (hi : X.N[i]? = some x := by rfl) (hx : Loc X.env.scope x := by first | exact Or.inl rfl | exact Or.inr rfl)
    (hs : swapsWith e (some (.Name x pos')) pos.line X.env = pure false := by rfl) (hf : X.fn x = true ∨ X.env.scope.names.lookup x = some .local := by first | exact .inl rfl | exact .inr rfl | assumption) :
    PS X (.Assign [.Name x pos'] e pos) (tS w EX (mSet i m)) := by
  refine PS_imp (ps_set hN hi hx he hs hf) fun D s H hh => ?_
  obtain ⟨M, rho, env, h, er, hr, o⟩ := hh
  exact tM.of er hr (Out.bind o) fun y h1 M1 rho1 H1 v st1 er1 hr1 o1 rv => o1.now hr1 _ (er1.set rv i)
theorem ms_expr (he : PE X e (tM w EX m)) (hs : swapsWith e none pos.line X.env = pure false := by rfl) : PS X (.Expr e pos) (tS w EX (mDrop m)) := by
  refine PS_imp (ps_expr he hs) fun D s H hh => ?_
  obtain ⟨M, rho, env, h, er, hr, o⟩ := hh
  exact tM.of er hr (Out.bind o) fun y h1 M1 rho1 H1 v st1 er1 hr1 o1 rv => o1.now hr1 _ er1
theorem ms_ret (he : PE X e (tM w EX m)) : PS X (.Return (some e) pos) (tS w EX (mRet m)) := by
  refine PS_imp (ps_ret he) fun D s H hh => ?_
  obtain ⟨M, rho, env, h, er, hr, o⟩ := hh
  exact tM.of er hr (Out.bind o) fun y h1 M1 rho1 H1 v st1 er1 hr1 o1 rv => o1.now hr1 _ rv
theorem ms_retN : PS X (.Return none pos) (tS w EX mRetN) := by
  refine PS_imp ps_retN fun D s H hh => ?_
  obtain ⟨M, rho, env, h, er, hr, o⟩ := hh
  exact o.now hr _ .non
theorem ms_if {c : Expr} {as bs : List Stmt} {t : MT} (hc : PT X c (tT w EX t)) (ha : PSs X as (tS w EX a)) (hb : PSs X bs (tS w EX b)) : PS X (.If c as bs pos) (tS w EX (mIfS t a b)) := by
  refine PS_imp (ps_if hc ha hb) fun D s H hh => ?_
  obtain ⟨M, rho, env, h, er, hr, o⟩ := hh
  refine tT.of er hr (Out.bind o) fun x h1 M1 rho1 H1 st1 er1 hr1 o1 => ?_
  cases x with
  | true => exact iteT ⟨M1, rho1, env, h1, er1, hr1, o1⟩
  | false => exact iteF ⟨M1, rho1, env, h1, er1, hr1, o1⟩
end

abbrev MG := PV → En → PH → R En
abbrev MGs := List PV → En → PH → R En
def KG (w : Wo) (Q : L2.St → Hp → Prop) : KC En := fun e _ M rho H => ∀ s, ER w M rho H e s → Q s H
def tG (w : Wo) (EX : XC) (m : MG) : TG := fun v s H Q => ∃ M rho env h x, ER w M rho H env s ∧ HR w M rho H h ∧ VR w M rho H x v ∧ Out w EX M rho H (m x env h) (KG w Q)
def tGs (w : Wo) (EX : XC) (m : MGs) : TGs := fun vs s H Q => ∃ M rho env h xs, ER w M rho H env s ∧ HR w M rho H h ∧ VRs w M rho H xs vs ∧ Out w EX M rho H (m xs env h) (KG w Q)
def gName' (i : Nat) : MG := fun x env h => .ok (env.set i (some x)) h
def gsNil : MGs := fun xs env h => match xs with
  | [] => .ok env h
  | _ => .stuck
def gsCons (g : MG) (gs : MGs) : MGs := fun xs env h => match xs with
  | x :: r => (g x env h).bind fun e h1 => gs r e h1
  | [] => .stuck
def gTup' (n : Nat) (gs : MGs) : MG := fun x env h => match x with
  | .tup xs => bif xs.length == n then gs xs env h else .stuck
  | _ => .stuck
/-- target = value -/
def mAsg (m : ME) (g : MG) : MS := fun env h => (m env h).bind fun x h1 => (g x env h1).bind fun e h2 => .ok (.nx e) h2
section
variable {w : Wo} {EX : XC} {X : Cx} {k : Nat} {pos : Pos}
theorem PG_imp {tg : Expr} {t t2 : TG} (p : PG X tg t) (i : ∀ v s H Q, t2 v s H Q → t v s H Q) : PG X tg t2 := ⟨fun pins s σ H v u Q I r h => p.run pins s σ H v u Q I r (i v σ H Q h)⟩
theorem PGs_imp {tg : List Expr} {t t2 : TGs} (p : PGs X tg t) (i : ∀ v s H Q, t2 v s H Q → t v s H Q) : PGs X tg t2 := ⟨fun pins s σ H v u Q I r h => p.run pins s σ H v u Q I r (i v σ H Q h)⟩
theorem mg_name (i : Nat) {x : Str} (hN : X.N.Nodup) (hi : X.N[i]? = some x := by rfl) (hx : Loc X.env.scope x := by first | exact Or.inl rfl | exact Or.inr rfl) (hf : X.fn x = true ∨ X.env.scope.names.lookup x = some .local := by first | exact .inl rfl | exact .inr rfl | assumption) :
    PG X (.Name x pos) (tG w EX (gName' i)) := by
  refine PG_imp (pg_name hN hi hx hf) fun v s H Q hh => ?_
  obtain ⟨M, rho, env, h, x, er, hr, rv, o⟩ := hh
  exact o.now hr _ (er.set rv i)
theorem mgs_nil : PGs X [] (tGs w EX gsNil) := by
  refine PGs_imp pgs_nil fun vs s H Q hh => ?_
  obtain ⟨M, rho, env, h, xs, er, hr, rv, o⟩ := hh
  cases rv with
  | nil => exact ⟨rfl, (show Out w EX M rho H (.ok env h) (KG w Q) from o).now hr _ er⟩
  | cons _ _ => exact (show False from o).elim
theorem mgs_cons {e : Expr} {es : List Expr} {g : MG} {gs : MGs} (h1 : PG X e (tG w EX g)) (h2 : PGs X es (tGs w EX gs)) (hs : (assignEach (e :: es) X.env).map (·.2) = assign e X.env :: (assignEach es X.env).map (·.2) := by rfl) : PGs X (e :: es) (tGs w EX (gsCons g gs)) := by
  refine PGs_imp (pgs_cons h1 h2 hs) fun vs s H Q hh => ?_
  obtain ⟨M, rho, env, h, xs, er, hr, rv, o⟩ := hh
  cases rv with
  | nil => exact (show False from o).elim
  | @cons x v xs vs r1 r2 =>
    refine ⟨v, vs, rfl, M, rho, env, h, x, er, hr, r1, ?_⟩
    exact (Out.bind (show Out w EX M rho H ((g x env h).bind fun e h1 => gs xs e h1) (KG w Q) from o)).imp fun e h1 M1 rho1 H1 st1 hr1 o1 s1 er1 => ⟨M1, rho1, e, h1, xs, er1, hr1, r2.step st1 hr, o1⟩
theorem mg_tup (C : Cxt w k X) {es : List Expr} {j : Nat} {gs : MGs} (n : Nat) (h : PGs X es (tGs w EX gs)) (hn : (assignEach es X.env).length = n := by rfl) (hst : (assignEach es X.env).findIdx? (·.1) = none := by rfl) : PG X (.Tuple es j pos) (tG w EX (gTup' n gs)) := by
  refine PG_imp (pg_tup C.calm h hn hst) fun v s H Q hh => ?_
  obtain ⟨M, rho, env, hp, x, er, hr, rv, o⟩ := hh
  cases rv <;> try exact (show False from o).elim
  rename_i xs vs A ha sa
  obtain ⟨hl, o2⟩ := Out.bif o
  exact ⟨A, vs, rfl, by rw [C.hK]; exact ha, by rw [sa.length]; exact beq_iff_eq.mp hl, M, rho, env, hp, xs, er, hr, sa, o2⟩
theorem ms_asg {tg e : Expr} {m : ME} {g : MG} (he : PE X e (tM w EX m)) (hg : PG X tg (tG w EX g)) (hs : swapsWithSole [tg] e pos.line X.env = pure false := by rfl) (hw : swappedStores [tg] e X.env = pure none := by rfl)
    (h1 : (assignEach [tg] X.env).map (·.2) = [assign tg X.env] := by rfl) : PS X (.Assign [tg] e pos) (tS w EX (mAsg m g)) := by
  refine PS_imp (ps_asg he hg hs hw h1) fun D s H hh => ?_
  obtain ⟨M, rho, env, h, er, hr, o⟩ := hh
  refine tM.of er hr (Out.bind o) fun x h1 M1 rho1 H1 v st1 er1 hr1 o1 rv => ?_
  exact ⟨M1, rho1, env, h1, x, er1, hr1, rv, (Out.bind o1).imp fun e h2 M2 rho2 H2 st2 hr2 o2 s2 er2 => o2.now hr2 _ er2⟩
/-- a, b = x, y: plain local names -/
def mPar (i j : Nat) (ma mb : ME) : MS := fun env h => (ma env h).bind fun x h1 => (mb env h1).bind fun y h2 => .ok (.nx ((env.set i (some x)).set j (some y))) h2
theorem ms_par (C : Cxt w k X) (i j : Nat) {x y : Str} {a b : Expr} {ma mb : ME} {px py pt : Pos} {kt k2 pt2} (hN : X.N.Nodup) (ha : PE X a (tM w EX ma)) (hb : PE X b (tM w EX mb)) (hi : X.N[i]? = some x := by rfl) (hj : X.N[j]? = some y := by rfl) (hij : i ≠ j := by decide)
    (hx : X.env.scope.names.lookup x = some .local := by rfl) (hy : X.env.scope.names.lookup y = some .local := by rfl) (hw : swappedStores [.Tuple [.Name x px, .Name y py] kt pt] (.Tuple [a, b] k2 pt2) X.env = pure (some [x, y]) := by rfl)
    (hs : swapsWithSole [.Tuple [.Name x px, .Name y py] kt pt] (.Tuple [a, b] k2 pt2) pos.line X.env = pure false := by rfl)
    (s1 : starEach [a, b] X.env = (false, eval a X.env) :: starEach [b] X.env := by rfl) (s2 : starEach [b] X.env = (false, eval b X.env) :: starEach [] X.env := by rfl) :
    PS X (.Assign [.Tuple [.Name x px, .Name y py] kt pt] (.Tuple [a, b] k2 pt2) pos) (tS w EX (mPar i j ma mb)) := by
  refine PS_imp (ps_par C.calm hN hi hj hij hx hy (pa_cons ha (pa_cons hb pa_nil s2) s1) hw hs) fun D s H hh => ?_
  obtain ⟨M, rho, env, h, er, hr, o⟩ := hh
  refine tM.of er hr (Out.bind o) fun x h1 M1 rho1 H1 v st1 er1 hr1 o1 rv => ?_
  refine tM.of er1 hr1 (Out.bind o1) fun y h2 M2 rho2 H2 u st2 er2 hr2 o2 ru => ?_
  exact ⟨v, u, rfl, o2.now hr2 _ ((er2.set (rv.step st2 hr1) i).set ru j)⟩
end

/-- a body as a function of its arguments; n names -/
def mFun (n : Nat) (b : MS) : MF := fun args h => (b (args.map some ++ List.replicate (n - args.length) none) h).bind fun f h1 => match f with
  | .nx _ => .ok .non h1
  | .rt v => .ok v h1
  | _ => .stuck
def spM (w : Wo) (EX : XC) (m : MF) (vs : List V) (H : Hp) (Q : VK) : Prop := ∃ M rho args h, VRs w M rho H args vs ∧ HR w M rho H h ∧ Out w EX M rho H (m args h) (KV w Q)
structure FnM (P : Program) (W : World) (w : Wo) (mg : Str → Option Value) (base : Heap) (CX : CXT) (ex : XK → XC) (k : Nat) (f : Addr) (fd : FuncData) (ps : List Str) (m : MF) : Prop where
  run : ∀ (A : Around) (outer : List Env) (s : Shared) (H : Hp) (args : Args) (us : List Value) (vs : List V) (Q : VK) (E : XK), Room k A → A.guards = some [] → Env0 P W w.K mg base A outer s H → BindsTo s fd args (ps.zip us) → Vals vs us → vs.length = ps.length →
    spM w (ex E) m vs H Q → codeAny (model P W) A (.call (.ref f) args) (CR CX outer P W H s Q E) s
section
variable {P : Program} {W : World} {w : Wo} {mg : Str → Option Value} {base : Heap} {CX : CXT} {ex : XK → XC} {k : Nat}
theorem start_er {M : Addr → Prop} {rho : List Addr} {H : Hp} {args : List PV} {vs : List V} (n : Nat) (r : VRs w M rho H args vs) : ER w M rho H (args.map some ++ List.replicate (n - args.length) none) (vs.map some ++ List.replicate (n - vs.length) none) := by
  rw [r.length]
  generalize n - args.length = j
  have tl : ∀ j : Nat, ER w M rho H (List.replicate j none) (List.replicate j (none : Option V)) := fun j => by
    induction j with
    | zero => exact .nil
    | succ j ih => rw [List.replicate_succ, List.replicate_succ]; exact .no ih
  have all : ∀ {args : List PV} {vs : List V}, VRs w M rho H args vs → ER w M rho H (args.map some ++ List.replicate j none) (vs.map some ++ List.replicate j none) := by
    intro args
    induction args with
    | nil => intro vs r; cases r; exact tl j
    | cons x xs ih => intro vs r; cases r with | cons a b => exact .has a (ih b)
  exact all r
/-- a def of the text, by its body's mirror -/
theorem fnm_of (hW : W = w.W) {x qual : Str} {st : Stmt} {f : Addr} {fd : FuncData} {N ps : List Str} {b : MS} (F : Fun w.K x qual st f fd) (sc : FnScope N ps (defScope st))
    (hb : ∀ (cdv : Value) (A : Around) (outer : List Env) (s : Shared) (H : Hp) (E : XK), Cxt w k (cxOf CX P W w.K mg base N qual (defScope st) f cdv A outer s H E).nox →
      PSs (cxOf CX P W w.K mg base N qual (defScope st) f cdv A outer s H E).nox (defBody st) (tS w (ex E) b)) : FnM P W w mg base CX ex (k + 1) f fd ps (mFun N.length b) := by
  obtain ⟨oc, od, kV, doc, pm, an, cdv, ct, osl, rfl, lk, hcd⟩ := F.ex
  constructor
  intro A outer s H args us vs Q E room grd e0 bt rv len sp
  have inK : w.K.In s.heap := e0.mod.kin.keeps fun b o z => (e0.bs b o z).1
  have noLim : s.heap.NoLimit := e0.mod.nolimit.keeps fun b o z => (e0.bs b o z).1
  refine codeAny_call_function (fd := PySem.W.fnOf x qual (defArgs st) (defBody st) (defScope st) .none kV doc pm an cdv ct) room.depth (inK _ _ lk) rfl sc.co sc.gen rfl (PySem.W.codeRec_of inK hcd) (bt _ _ _ _ ?_)
  refine wpAny_newFunctionEnv_cells sc.kind (fun y hy => ?_) fun env henv s1 x1 => ?_
  · rcases sc.par y.1 (List.of_mem_zip (a := y.1) (b := y.2) hy).1 with q | q
    · exact Or.inl q
    · exact Or.inr ⟨q, PySem.W.cellsFrom_some _ _ _ (Or.inl q)⟩
  subst henv
  refine ⟨noLim.keeps x1.toInCall.keep, codeAny_func ?_⟩
  have C : Cxt w k (cxOf CX P W w.K mg base N qual (defScope st) f cdv A outer s H E).nox := ⟨rfl, hW, rfl, room.deeper _, grd, PassesOwn.never⟩
  have I : Inv (cxOf CX P W w.K mg base N qual (defScope st) f cdv A outer s H E) [] (start N vs) H s1 := inv_start sc room.hd e0 len rv x1
  obtain ⟨M, rho, as, h, ra, hr, o⟩ := sp
  have er : ER w M rho H (as.map some ++ List.replicate (N.length - as.length) none) (start N vs) := start_er N.length ra
  have red : tS w (ex E) b { nx := fun _ H' => Q .non H', rt := Q } (start N vs) H := by
    refine ⟨M, rho, _, h, er, hr, (Out.bind o).imp fun fl h1 M1 rho1 H1 st1 hr1 o1 => ?_⟩
    cases fl with
    | nx e => exact fun s1 _ => (show Out w (ex E) M1 rho1 H1 (.ok .non h1) (KV w Q) from o1).now hr1 _ .non
    | rt v => exact (show Out w (ex E) M1 rho1 H1 (.ok v h1) (KV w Q) from o1).now hr1
    | bk e => exact (show False from o1).elim
    | ct e => exact (show False from o1).elim
  refine wpAny_mono ((hb cdv A outer s H E C).nox.run [] s1 (start N vs) H _ I red) (fun fl s' q => ?_) fun e s' q => q
  cases fl with
  | ret u => obtain ⟨v, σ', H', J, r, q⟩ := q; exact ⟨v, H', J.os, J.bare, J.base, J.hok, r, q⟩
  | next => obtain ⟨σ', H', J, q⟩ := q; exact ⟨.non, H', J.os, J.bare, J.base, J.hok, rfl, q⟩
  | brk => obtain ⟨_, _, _, q⟩ := q; exact (show False from q).elim
  | cont => obtain ⟨_, _, _, q⟩ := q; exact (show False from q).elim
end

end MC

end
section
set_option maxRecDepth 100000
set_option maxHeartbeats 4000000
namespace MC
open PySem PySem.Spec PyProof.Rows L2

/-- arguments by place: the positional ones, then the keywords' values, then the defaults -/
def gI {α : Type} (ix : List Nat) (l : List α) : List α := ix.filterMap fun i => l[i]?
/-- how a call binds -/
structure Bd (K : PySem.W.Frag) (fd : FuncData) (ps ks : List Str) (n : Nat) (ds : List Value) (ix : List Nat) : Prop where
  to : ∀ (s : Shared) (us ws : List Value), K.In s.heap → us.length = n → ws.length = ks.length → BindsTo s fd ⟨us, ks.zip ws⟩ (ps.zip (gI ix (us ++ ws ++ ds)))
  len : ix.length = ps.length
  lo : ∀ i ∈ ix, i < n + ks.length + ds.length
theorem gI_len {α : Type} : ∀ {ix : List Nat} {l : List α}, (∀ i ∈ ix, i < l.length) → (gI ix l).length = ix.length
  | [], _, _ => rfl
  | i :: r, l, h => by
    have h1 := h i List.mem_cons_self
    unfold gI
    rw [List.filterMap_cons, List.getElem?_eq_getElem h1]
    have := gI_len (ix := r) (l := l) fun j hj => h j (List.mem_cons_of_mem _ hj)
    unfold gI at this
    simp only [List.length_cons, this]
theorem gI_vals {xs : List V} {us : List Value} (r : Vals xs us) : ∀ ix : List Nat, Vals (gI ix xs) (gI ix us)
  | [] => .nil
  | i :: ix => by
    have ih := gI_vals r ix
    unfold gI at ih ⊢
    rw [List.filterMap_cons, List.filterMap_cons]
    cases e : xs[i]? with
    | none => rw [r.none_of e]; exact ih
    | some x =>
      obtain ⟨u, e2, q⟩ := r.get e
      rw [e2]
      exact .cons q ih
section
variable {w : Wo} {EX : XC} {M : Addr → Prop} {rho : List Addr} {H : Hp} {h : PH}
theorem VRs.noneOf {xs : List PV} {vs : List V} (r : VRs w M rho H xs vs) {i : Nat} (e : xs[i]? = none) : vs[i]? = none := by
  have := r.length
  rw [List.getElem?_eq_none_iff] at e ⊢
  omega
theorem VRs.gI {xs : List PV} {vs : List V} (r : VRs w M rho H xs vs) : ∀ ix : List Nat, VRs w M rho H (gI ix xs) (gI ix vs)
  | [] => .nil
  | i :: ix => by
    have ih := VRs.gI r ix
    unfold MC.gI at ih ⊢
    rw [List.filterMap_cons, List.filterMap_cons]
    cases e : xs[i]? with
    | none => rw [r.noneOf e]; exact ih
    | some x =>
      obtain ⟨u, e2, q⟩ := r.get e
      rw [e2]
      exact .cons q ih
end

/-- a value that can be called: n values by place, ks by name -/
structure Clb (X : Cx) (w : Wo) (EX : XC) (u : Value) (n : Nat) (ks : List Str) (op : PH → List PV → R PV) : Prop where
  kp : PySem.W.keepIn X.K u = true
  run : ∀ {pins : List (Addr × Obj)} {σ : L2.St} {H : Hp} {s : Shared} {Q : VK} {us ws : List Value} {vs zs : List V} {M : Addr → Prop} {rho : List Addr} {h : PH} {xs ys : List PV}, Inv X pins σ H s → Vals vs us → Vals zs ws → us.length = n → ws.length = ks.length →
    HR w M rho H h → VRs w M rho H xs vs → VRs w M rho H ys zs → Out w EX M rho H (op h (xs ++ ys)) (KV w Q) → wpAny (model X.prog X.w) X.A (call u us (ks.zip ws)) (EP X pins σ Q) X.xe s

section
variable {w : Wo} {EX : XC} {X : Cx} {k j : Nat} {CX : CXT} {ex : XK → XC} {f : Addr} {fd : FuncData} {ps ks : List Str} {m : MF} {E : XK} {p pos apos : Pos} {z : Str}
  {ds : List Value} {dv : List V} {dp : List PV} {n : Nat} {ix : List Nat}
/-- a def -/
theorem clb_fn (C : Cxt w k X) (F : FnM X.prog X.w w X.mg X.base CX ex k f fd ps m) (hx : Passes CX X E) (hk : PySem.W.keepIn w.K (.ref f) = true) (B : Bd w.K fd ps ks n ds ix) (hd : Vals dv ds) (hp : ∀ M rho H, VRs w M rho H dp dv) {tb : PH → List Nat → PV → PH → R PV} (T : TbOk w EX tb) :
    Clb X w EX (.ref f) n ks fun h xs => callG tb m (gI ix (xs ++ dp)) h := by
  refine ⟨by rw [C.hK]; exact hk, ?_⟩
  intro pins σ H s Q us ws vs zs M rho h xs ys I r rz lu lw hr rx ry o
  have rA : Vals (vs ++ zs ++ dv) (us ++ ws ++ ds) := (r.append rz).append hd
  have rP : VRs w M rho H (xs ++ ys ++ dp) (vs ++ zs ++ dv) := (rx.append ry).append (hp M rho H)
  have hlen : (gI ix (us ++ ws ++ ds)).length = ps.length := by
    rw [gI_len, B.len]
    intro i hi
    have := B.lo i hi
    simp only [List.length_append]; omega
  have r2 := gI_vals rA ix
  have e0 : Env0 X.prog X.w w.K X.mg X.base X.A X.stack s H := by rw [← C.hK]; exact I.env0
  obtain ⟨rho', as, hc, r3, hr3, o3⟩ := callG_ok (EX2 := ex E) T hr (rP.gI ix) o
  refine wpAny_call (codeAny_mono (F.run X.A X.stack s H ⟨us, ks.zip ws⟩ (gI ix (us ++ ws ++ ds)) (gI ix (vs ++ zs ++ dv)) Q E C.room C.grd e0 (B.to s us ws (by rw [← C.hK]; exact I.kIn) lu lw) r2 (by rw [r2.length]; exact hlen)
    ⟨M, rho', as, hc, r3, hr3, o3.imp fun v g M1 rho1 H1 st1 hr1 q V rv => ?_⟩) fun rs s' q => ?_)
  · obtain ⟨M2, rho2, u, h2, _, _, ru, kq⟩ := q V rv
    exact kq V ru
  · cases rs with
    | error e => exact hx pins σ H s e s' I q
    | ok fl =>
      cases fl with
      | ret u => exact I.after q
      | next => exact (show False from q).elim
      | brk => exact (show False from q).elim
      | cont => exact (show False from q).elim

/-- what the maker's outcome is: __init__ gives None back, the instance is the answer -/
def initM (c : Nat) (m : MF) (ix : List Nat) (dp : List PV) : MF := fun xs h => (m (gI ix (.ref h.length :: xs ++ dp)) (h ++ [.ins c []])).bind fun v g => match v with
  | .non => .ok (.ref h.length) g
  | _ => .stuck
/-- a class -/
theorem FnM.mono {P : Program} {W : World} {mg : Str → Option Value} {base : Heap} {i j : Nat} (F : FnM P W w mg base CX ex i f fd ps m) (h : i ≤ j) : FnM P W w mg base CX ex j f fd ps m :=
  ⟨fun A outer s H args us vs Q E r => F.run A outer s H args us vs Q E (r.mono h)⟩
theorem clb_cls (c : Nat) {A : Addr} (hA : w.cl c = some A) (C : Cxt w (k + 1) X) (mk : Mk w.K A f) (F : FnM X.prog X.w w X.mg X.base CX ex k f fd ps m) (hx : Passes CX X E) (B : Bd w.K fd ps ks (n + 1) ds ix) (hd : Vals dv ds) (hp : ∀ M rho H, VRs w M rho H dp dv)
    {tb : PH → List Nat → PV → PH → R PV} (T : TbOk w EX tb) : Clb X w EX (.ref A) n ks fun h xs => callG tb (initM c m ix dp) xs h := by
  refine ⟨by rw [C.hK]; exact mk.kp, ?_⟩
  intro pins σ H s Q us ws vs zs M rho h xs ys I r rz lu lw hr rx ry o
  obtain ⟨rho', as, hc, r3, hr3, o3⟩ := callG_ok (EX2 := ex E) T hr (rx.append ry) o
  have I2 := Inv.made (C := A) I
  have hx0 : H (s.heap.objs.size + 1) = none := I.hok.fresh (Nat.le_succ _)
  have hd0 : H s.heap.objs.size = none := I.hok.fresh (Nat.le_refl _)
  have hne : s.heap.objs.size ≠ s.heap.objs.size + 1 := Nat.ne_of_lt (Nat.lt_succ_self _)
  have hx1 : upd H s.heap.objs.size (.own (s.heap.objs.size + 1)) (s.heap.objs.size + 1) = none := by rw [upd_ne (Ne.symm hne)]; exact hx0
  have stA : Step M rho' H M rho' (upd H s.heap.objs.size (.own (s.heap.objs.size + 1))) := Step.grow (same_upd hd0)
  have hrA := hr3.grow (same_upd (o := .own (s.heap.objs.size + 1)) hd0)
  have stB : Step M rho' (upd H s.heap.objs.size (.own (s.heap.objs.size + 1))) (fun b => M b ∨ b = (s.heap.objs.size + 1)) (rho' ++ [(s.heap.objs.size + 1)]) (upd (upd H s.heap.objs.size (.own (s.heap.objs.size + 1))) (s.heap.objs.size + 1) (.ins A s.heap.objs.size [])) := Step.alloc hx1
  have hrB := hrA.alloc (o := .ins A s.heap.objs.size []) hx1 (po := .ins c []) ⟨A, s.heap.objs.size, [], hA, upd_same, .nil⟩
  have st2 := stA.trans stB
  have r4 := r3.step st2 hr3
  have hself : VR w (fun b => M b ∨ b = (s.heap.objs.size + 1)) (rho' ++ [(s.heap.objs.size + 1)]) (upd (upd H s.heap.objs.size (.own (s.heap.objs.size + 1))) (s.heap.objs.size + 1) (.ins A s.heap.objs.size [])) (.ref hc.length) (.ref (s.heap.objs.size + 1)) := by
    refine .ref ?_
    rw [List.getElem?_append_right (by rw [hr3.len]; exact Nat.le_refl _), hr3.len, Nat.sub_self]
    rfl
  have rP : VRs w _ _ _ (PV.ref hc.length :: as ++ dp) (V.ref (s.heap.objs.size + 1) :: (vs ++ zs) ++ dv) := (VRs.cons hself r4).append (hp _ _ _)
  have rA : Vals (V.ref (s.heap.objs.size + 1) :: (vs ++ zs) ++ dv) (Value.ref (s.heap.objs.size + 1) :: (us ++ ws) ++ ds) := (show Vals (V.ref (s.heap.objs.size + 1) :: (vs ++ zs)) (Value.ref (s.heap.objs.size + 1) :: (us ++ ws)) from .cons (show RelV (V.ref (s.heap.objs.size + 1)) (Value.ref (s.heap.objs.size + 1)) from rfl) (r.append rz)).append hd
  have eq1 : (Value.ref (s.heap.objs.size + 1) :: us) ++ ws ++ ds = Value.ref (s.heap.objs.size + 1) :: (us ++ ws) ++ ds := rfl
  have hlen : (gI ix (Value.ref (s.heap.objs.size + 1) :: (us ++ ws) ++ ds)).length = ps.length := by
    rw [gI_len, B.len]
    intro i hi
    have := B.lo i hi
    simp only [List.length_append, List.length_cons]; omega
  have rG := gI_vals rA ix
  have eE := I2.env0.make A us (ks.zip ws)
  rw [C.hK] at eE
  refine wpAny_call (make_map (f := f) (vs := us) (kw := ks.zip ws) I.kIn (by rw [C.hK]; exact mk.makes) (by rw [C.hK]; exact mk.init) (by rw [C.hK]; exact beq_iff_eq.mp mk.fn) (codeAny_mono (F.run _ X.stack _ _ ⟨Value.ref (s.heap.objs.size + 1) :: us, ks.zip ws⟩
    (gI ix (Value.ref (s.heap.objs.size + 1) :: (us ++ ws) ++ ds)) (gI ix (V.ref (s.heap.objs.size + 1) :: (vs ++ zs) ++ dv)) (fun v H2 => v = .non ∧ Q (.ref (s.heap.objs.size + 1)) H2) E (C.room.make A us (ks.zip ws)) C.grd
    eE (by rw [← eq1]; exact B.to _ _ _ (by rw [← C.hK]; exact I2.kIn) (by rw [List.length_cons, lu]) lw) rG (by rw [rG.length]; exact hlen)
    ⟨_, _, _, _, rP.gI ix, hrB, ?_⟩) fun rs s' q => ?_))
  · refine ((Out.bind o3).step st2).imp fun v g M1 rho1 H1 st1 hr1 q V rv => ?_
    cases rv <;> try exact (show False from q).elim
    refine ⟨rfl, ?_⟩
    have q2 := (show Out w (ex E) M1 rho1 H1 (.ok (PV.ref hc.length) g) _ from q).now hr1
    obtain ⟨M2, rho2, u, h2, _, _, ru, kq⟩ := q2 (V.ref (s.heap.objs.size + 1)) (hself.step st1 hrB)
    exact kq _ ru
  · cases rs with
    | error e => exact hx pins σ _ _ e s' I2 q
    | ok fl =>
      cases fl with
      | ret u =>
        obtain ⟨v, H', I3, rv, ev, q3⟩ := I2.after q
        subst ev
        exact ⟨rv, ⟨V.ref (s.heap.objs.size + 1), H', I3, rfl, q3⟩⟩
      | next => exact (show False from q).elim
      | brk => exact (show False from q).elim
      | cont => exact (show False from q).elim
end
end MC

end
section
set_option maxRecDepth 100000
set_option maxHeartbeats 4000000
namespace MC
open PySem PySem.Spec PyProof.Rows L2

abbrev OC := PH → List PV → R PV
def mCl (op : OC) (n j : Nat) (ma mk : MA) : ME := fun env h => (ma env h).bind fun xs h1 => (mk env h1).bind fun ys h2 => bif xs.length == n && ys.length == j then op h2 (xs ++ ys) else .stuck
def mCl0 (op : OC) (n : Nat) (ma : MA) : ME := fun env h => (ma env h).bind fun xs h1 => bif xs.length == n then op h1 xs else .stuck
def mBt (op : OC) (ma : MA) : ME := fun env h => (ma env h).bind fun xs h1 => op h1 xs
section
variable {w : Wo} {EX : XC} {X : Cx} {k n : Nat} {u : Value} {ks : List Str} {op : OC} {x m : Str} {p pos apos kpos : Pos} {e o : Expr} {es : List Expr} {kws : List Keyword} {ma mk : MA} {me : ME} {nm : Option Str}
theorem PK.imp {t t' : TA} (p : PK X kws t) (i : ∀ σ H Q, t' σ H Q → t σ H Q) : PK X kws t' := ⟨fun ps pins s σ H Q I h => p.run ps pins s σ H Q I (i σ H Q h)⟩
theorem mk_nil : PK X [] (tA w EX maNil) := by
  refine PK.imp pk_nil fun σ H Q h => ?_
  obtain ⟨M, rho, env, hh, er, hr, o⟩ := h
  exact o.now hr [] .nil
theorem mk_cons (ha : PE X e (tM w EX me)) (hb : PK X kws (tA w EX mk)) : PK X (⟨nm, e, kpos⟩ :: kws) (tA w EX (maCons me mk)) := by
  refine PK.imp (pk_cons ha hb) fun σ H Q h => ?_
  obtain ⟨M, rho, env, hh, er, hr, o⟩ := h
  refine tM.of er hr o.bind fun x h1 M1 rho1 H1 v st1 er1 hr1 o1 rv => ?_
  refine ⟨M1, rho1, env, h1, er1, hr1, (Out.bind o1).imp fun ys h2 M2 rho2 H2 st2 hr2 o2 us rs => ?_⟩
  exact o2.now hr2 (v :: us) (.cons (rv.step st2 hr1) rs)

/-- the callee's reading behind the arguments -/
theorem clb_at (B : Clb X w EX u n ks op) {pins : List (Addr × Obj)} {σ : L2.St} {H : Hp} {s : Shared} {Q : VK} {us : List Value} {vs : List V} {M : Addr → Prop} {rho : List Addr} {h : PH} {xs : List PV} (hks : ks = []) (I : Inv X pins σ H s) (r : Vals vs us)
    (hr : HR w M rho H h) (rx : VRs w M rho H xs vs) (o : Out w EX M rho H (bif xs.length == n then op h xs else .stuck) (KV w Q)) : wpAny (model X.prog X.w) X.A (call u us) (EP X pins σ Q) X.xe s := by
  subst hks
  obtain ⟨hl, o⟩ := Out.bif o
  have hl := beq_iff_eq.mp hl
  have := B.run (ws := []) (zs := []) (ys := []) I r .nil (by rw [← r.length, rx.length]; exact hl) rfl hr rx .nil (by rw [List.append_nil]; exact o)
  exact this
/-- f(e, ..) -/
theorem me_call (B : Clb X w EX u n [] op) (hg : Gl X x) (hm : X.mg x = some u) (ha : PA X (e :: es) (tA w EX ma)) (hdb : (x == ("__debug__" : Str)) = false := by decide)
    (he : starEach (e :: es) X.env = (false, eval e X.env) :: starEach es X.env := by rfl) (hpl : (backTo pos (starEach es X.env)).any (·.1) = false := by rfl) : PE X (.Call (.Name x p) (e :: es) [] pos) (tM w EX (mCl0 op n ma)) := by
  refine ⟨fun pins s σ H Q I h => ?_⟩
  refine wpAny_Call_Name_kw (ld_glob I hg hm ?_ hdb)
  obtain ⟨M, rho, env, hh, er, hr, o⟩ := h
  refine PySem.W.callWith_K (h₀ := X.base) I.ok.mod.kin B.kp (thn (ha.run pos pins s σ H _ I (tA.of er hr (Out.bind o) fun xs h1 M1 rho1 H1 vs st1 er1 hr1 o1 rs => (⟨M1, rho1, h1, xs, hr1, rs, o1⟩ : ∃ M1 rho1 h1 xs, HR w M1 rho1 H1 h1 ∧ VRs w M1 rho1 H1 xs vs ∧ Out w EX M1 rho1 H1 (bif xs.length == n then op h1 xs else .stuck) (KV w Q)))) fun us s1 ⟨vs, H1, I1, r, q⟩ => ⟨I1.kIn, ?_⟩) he hpl
  obtain ⟨M1, rho1, h1, xs, hr1, rs, o1⟩ := q
  exact clb_at B rfl I1 r hr1 rs o1
/-- f() -/
theorem me_call0 (B : Clb X w EX u 0 [] op) (hg : Gl X x) (hm : X.mg x = some u) (hdb : (x == ("__debug__" : Str)) = false := by decide) : PE X (.Call (.Name x p) [] [] pos) (tM w EX (mCl0 op 0 maNil)) := by
  refine ⟨fun pins s σ H Q I h => ?_⟩
  refine wpAny_Call_Name_kw (ld_glob I hg hm ?_ hdb)
  obtain ⟨M, rho, env, hh, er, hr, o⟩ := h
  exact PySem.W.callWith_K0 I.kIn B.kp (clb_at (us := []) B rfl I .nil hr .nil o)
theorem clb_kw (B : Clb X w EX u n ks op) {pins : List (Addr × Obj)} {σ : L2.St} {H : Hp} {s : Shared} {Q : VK} {us ws : List Value} {vs zs : List V} {M : Addr → Prop} {rho : List Addr} {h : PH} {xs ys : List PV} (I : Inv X pins σ H s) (r : Vals vs us) (rz : Vals zs ws)
    (hr : HR w M rho H h) (rx : VRs w M rho H xs vs) (ry : VRs w M rho H ys zs) (o : Out w EX M rho H (bif xs.length == n && ys.length == ks.length then op h (xs ++ ys) else .stuck) (KV w Q)) : wpAny (model X.prog X.w) X.A (call u us (ks.zip ws)) (EP X pins σ Q) X.xe s := by
  obtain ⟨hl, o⟩ := Out.bif o
  rw [Bool.and_eq_true] at hl
  exact B.run I r rz (by rw [← r.length, rx.length]; exact beq_iff_eq.mp hl.1) (by rw [← rz.length, ry.length]; exact beq_iff_eq.mp hl.2) hr rx ry o
/-- f(e, .., k = v, ..) -/
theorem me_callK (B : Clb X w EX u n ks op) (hg : Gl X x) (hm : X.mg x = some u) (ha : PA X (e :: es) (tA w EX ma)) (hkw : PK X kws (tA w EX mk)) (j : Nat) (hj : ks.length = j := by rfl) (hall : (backToKw pos (keywordEach kws X.env)).all (·.1.isSome) = true := by rfl) (hks : (backToKw pos (keywordEach kws X.env)).filterMap (·.1) = ks := by rfl)
    (hdb : (x == ("__debug__" : Str)) = false := by decide) (he : starEach (e :: es) X.env = (false, eval e X.env) :: starEach es X.env := by rfl)
    (hpl : ((backTo pos (starEach (e :: es) X.env)).any (·.1) || (backToKw pos (keywordEach kws X.env)).any (·.1.isNone)) = false := by rfl) : PE X (.Call (.Name x p) (e :: es) kws pos) (tM w EX (mCl op n j ma mk)) := by
  subst hj
  refine ⟨fun pins s σ H Q I h => ?_⟩
  refine wpAny_Call_Name_kw (ld_glob I hg hm ?_ hdb)
  obtain ⟨M, rho, env, hh, er, hr, o⟩ := h
  refine PySem.W.callWith_KW (h₀ := X.base) I.ok.mod.kin B.kp hall (thn (ha.run pos pins s σ H _ I (tA.of er hr (Out.bind o) fun xs h1 M1 rho1 H1 vs st1 er1 hr1 o1 rs =>
    (⟨M1, rho1, env, h1, xs, er1, hr1, rs, o1⟩ : ∃ M1 rho1 env h1 xs, ER w M1 rho1 H1 env σ ∧ HR w M1 rho1 H1 h1 ∧ VRs w M1 rho1 H1 xs vs ∧ Out w EX M1 rho1 H1 ((mk env h1).bind fun ys h2 => bif xs.length == n && ys.length == ks.length then op h2 (xs ++ ys) else .stuck) (KV w Q)))) fun us s1 ⟨vs, H1, I1, r, q⟩ => ?_) hpl he
  obtain ⟨M1, rho1, env, h1, xs, er1, hr1, rs, o1⟩ := q
  refine thn (hkw.run pos pins s1 σ H1 _ I1 (tA.of er1 hr1 (Out.bind o1) fun ys h2 M2 rho2 H2 zs st2 er2 hr2 o2 ry =>
    (⟨M2, rho2, h2, ys, hr2, rs.step st2 hr1, ry, o2⟩ : ∃ M2 rho2 h2 ys, HR w M2 rho2 H2 h2 ∧ VRs w M2 rho2 H2 xs vs ∧ VRs w M2 rho2 H2 ys zs ∧ Out w EX M2 rho2 H2 (bif xs.length == n && ys.length == ks.length then op h2 (xs ++ ys) else .stuck) (KV w Q)))) fun ws s2 ⟨zs, H2, I2, rz, q2⟩ => ⟨I2.kIn, ?_⟩
  rw [hks]
  obtain ⟨M2, rho2, h2, ys, hr2, rx2, ry2, o2⟩ := q2
  exact clb_kw B I2 r rz hr2 rx2 ry2 o2
/-- f(k = v, ..) -/
theorem me_callK0 (B : Clb X w EX u 0 ks op) (hg : Gl X x) (hm : X.mg x = some u) (hkw : PK X kws (tA w EX mk)) (j : Nat) (hj : ks.length = j := by rfl) (hall : (backToKw pos (keywordEach kws X.env)).all (·.1.isSome) = true := by rfl) (hks : (backToKw pos (keywordEach kws X.env)).filterMap (·.1) = ks := by rfl)
    (hdb : (x == ("__debug__" : Str)) = false := by decide)
    (hpl : ((backTo pos (starEach [] X.env)).any (·.1) || (backToKw pos (keywordEach kws X.env)).any (·.1.isNone)) = false := by rfl) : PE X (.Call (.Name x p) [] kws pos) (tM w EX (mCl op 0 j maNil mk)) := by
  subst hj
  refine ⟨fun pins s σ H Q I h => ?_⟩
  refine wpAny_Call_Name_kw (ld_glob I hg hm ?_ hdb)
  obtain ⟨M, rho, env, hh, er, hr, o⟩ := h
  have o1 : Out w EX M rho H ((mk env hh).bind fun ys h2 => bif ([] : List PV).length == 0 && ys.length == ks.length then op h2 ([] ++ ys) else .stuck) (KV w Q) := o
  refine PySem.W.callWith_KW0 (h₀ := X.base) (first := []) I.ok.mod.kin B.kp hall (thn (hkw.run pos pins s σ H _ I (tA.of er hr (Out.bind o1) fun ys h2 M2 rho2 H2 zs st2 er2 hr2 o2 ry =>
    (⟨M2, rho2, h2, ys, hr2, ry, o2⟩ : ∃ M2 rho2 h2 ys, HR w M2 rho2 H2 h2 ∧ VRs w M2 rho2 H2 ys zs ∧ Out w EX M2 rho2 H2 (bif ([] : List PV).length == 0 && ys.length == ks.length then op h2 ([] ++ ys) else .stuck) (KV w Q)))) fun ws s2 ⟨zs, H2, I2, rz, q2⟩ => ⟨I2.kIn, ?_⟩) hpl
  rw [hks]
  obtain ⟨M2, rho2, h2, ys, hr2, ry2, o2⟩ := q2
  exact clb_kw (us := []) (vs := []) B I2 .nil rz hr2 .nil ry2 o2
/-- b(e, ..), b a builtin -/
theorem me_blt {id : String} (hc : CallR X (.builtin id) (rA w EX op)) (hg : Gl X x) (hm : X.mg x = none) (hv : bootBuiltins x = some (.builtin id)) (ha : PA X (e :: es) (tA w EX ma)) (hn : x ≠ "__name__" := by decide) (hdb : (x == ("__debug__" : Str)) = false := by decide)
    (he : starEach (e :: es) X.env = (false, eval e X.env) :: starEach es X.env := by rfl) (hpl : (backTo pos (starEach es X.env)).any (·.1) = false := by rfl) : PE X (.Call (.Name x p) (e :: es) [] pos) (tM w EX (mBt op ma)) := by
  refine PE.imp (pe_callB hc hg hm hv ha hn hdb he hpl) fun σ H Q h => ?_
  obtain ⟨M, rho, env, hh, er, hr, o⟩ := h
  exact tA.of er hr (Out.bind o) fun xs h1 M1 rho1 H1 vs st1 er1 hr1 o1 rs => ⟨M1, rho1, h1, xs, hr1, rs, o1⟩
/-- T(e, ..), T a builtin type -/
theorem me_ty {T : String} (hc : CallR X (.type T) (rA w EX op)) (hg : Gl X x) (hm : X.mg x = none) (hv : bootBuiltins x = some (.type T)) (ha : PA X (e :: es) (tA w EX ma)) (hn : x ≠ "__name__" := by decide) (hdb : (x == ("__debug__" : Str)) = false := by decide)
    (he : starEach (e :: es) X.env = (false, eval e X.env) :: starEach es X.env := by rfl) (hpl : (backTo pos (starEach es X.env)).any (·.1) = false := by rfl) : PE X (.Call (.Name x p) (e :: es) [] pos) (tM w EX (mBt op ma)) := by
  refine PE.imp (pe_callTy hc hg hm hv ha hn hdb he hpl) fun σ H Q h => ?_
  obtain ⟨M, rho, env, hh, er, hr, o⟩ := h
  exact tA.of er hr (Out.bind o) fun xs h1 M1 rho1 H1 vs st1 er1 hr1 o1 rs => ⟨M1, rho1, h1, xs, hr1, rs, o1⟩
end

/-- o.m(..), o of the class number c, m no field of it -/
def mMe (c : Nat) (m : Nm) (op : OC) (n : Nat) (mo : ME) (ma : MA) : ME := fun env h => (mo env h).bind fun x h1 => match fldsOf h1 x with
  | some (d, fs) => bif d == c && (lookF m fs).isNone then (ma env h1).bind fun xs h2 => bif (x :: xs).length == n then op h2 (x :: xs) else .stuck else .stuck
  | none => .stuck
theorem lookF_none {w : Wo} {M : Addr → Prop} {rho : List Addr} {H : Hp} {m : Nm} : ∀ {fs : List (Nm × PV)} {gs : List (Str × V)}, FRs w M rho H fs gs → lookF m fs = none → gs.lookup (nmS m) = none
  | _, _, .nil, _ => rfl
  | _, _, .cons (k := j) a b, e => by
    unfold lookF at e
    cases q : j == m with
    | true => rw [q, cond_true] at e; cases e
    | false =>
      rw [q, cond_false] at e
      have ne : (nmS m == nmS j) = false := beq_eq_false_iff_ne.mpr fun z => beq_eq_false_iff_ne.mp q (S_inj z).symm
      rw [List.lookup_cons, ne]
      exact lookF_none b e
section
variable {w : Wo} {EX : XC} {X : Cx} {k n c : Nat} {f A : Addr} {op : OC} {m : Nm} {pos apos : Pos} {e o : Expr} {es : List Expr} {ma : MA} {mo : ME} {pl : Sem Bool}
theorem me_meth (C : Cxt w k X) (c : Nat) (hA : w.cl c = some A) (hc : Cls w.K A) (hm : Meth w.K A (nmS m) f) (B : Clb X w EX (.ref f) n [] op) (ho : PE X o (tM w EX mo)) (ha : PA X (e :: es) (tA w EX ma))
    (hst : starEach (e :: es) X.env = (false, eval e X.env) :: starEach es X.env := by rfl) (hpl : (backTo pos (starEach es X.env)).any (·.1) = false := by rfl)
    (ht : eval (.Call (.Attribute o (nmS m) apos) (e :: es) [] pos) X.env = (do
      let ov ← eval o X.env
      standAt apos.atName
      let (f, first) ← holding [ov] (getMethod ov (nmS m) pl)
      callWith pos f first (backTo pos (starEach (e :: es) X.env)) (backToKw pos (keywordEach [] X.env))) := by rfl) :
    PE X (.Call (.Attribute o (nmS m) apos) (e :: es) [] pos) (tM w EX (mMe c m op n mo ma)) := by
  refine ⟨fun pins s σ H Q I h => ?_⟩
  obtain ⟨M, rho, env, hh, er, hr, oo⟩ := h
  refine PySem.W.methodCall_KW (pl := pl) (thn (ho.run pins s σ H (fun v H1 => ∃ M1 rho1 h1 x, ER w M1 rho1 H1 env σ ∧ HR w M1 rho1 H1 h1 ∧ VR w M1 rho1 H1 x v ∧ Out w EX M1 rho1 H1 (match fldsOf h1 x with
    | some (d, fs) => bif d == c && (lookF m fs).isNone then (ma env h1).bind fun xs h2 => bif (x :: xs).length == n then op h2 (x :: xs) else .stuck else .stuck
    | none => .stuck) (KV w Q)) I (tM.of er hr (Out.bind oo) fun x h1 M1 rho1 H1 v st1 er1 hr1 o1 rv => ⟨M1, rho1, h1, x, er1, hr1, rv, o1⟩)) fun u s1 hh1 => ?_) ht
  obtain ⟨v, H1, I1, rx, M1, rho1, h1, x, er1, hr1, rv, o1⟩ := hh1
  split at o1
  · rename_i d fs ef
    obtain ⟨hq, oB⟩ := Out.bif o1
    rw [Bool.and_eq_true] at hq
    obtain ⟨a, D, dx, gs, rfl, q1, q2, q3⟩ := flds_ok hr1 rv ef
    have hd := beq_iff_eq.mp hq.1
    subst hd
    rw [hA] at q1
    cases q1
    obtain rfl : u = Value.ref a := rx
    refine getmeth_ok I1 q2 (by rw [C.hK]; exact hc) (by rw [C.hK]; exact hm) (lookF_none q3 (Option.isNone_iff_eq_none.mp hq.2)) ?_
    refine PySem.W.callWith_K (first := [.ref a]) (h₀ := X.base) I.ok.mod.kin B.kp (thn (ha.run pos pins s1 σ H1 _ I1 (tA.of er1 hr1 (Out.bind oB) fun xs h2 M2 rho2 H2 vs st2 er2 hr2 o2 rs =>
      (⟨M2, rho2, h2, xs, hr2, rv.step st2 hr1, rs, o2⟩ : ∃ M2 rho2 h2 xs, HR w M2 rho2 H2 h2 ∧ VR w M2 rho2 H2 x (.ref a) ∧ VRs w M2 rho2 H2 xs vs ∧ Out w EX M2 rho2 H2 (bif (x :: xs).length == n then op h2 (x :: xs) else .stuck) (KV w Q)))) fun us s2 ⟨vs, H2, I2, r, q⟩ => ⟨I2.kIn, ?_⟩) hst hpl
    obtain ⟨M2, rho2, h2, xs, hr2, rx2, rs, o2⟩ := q
    exact clb_at (us := .ref a :: us) (vs := .ref a :: vs) B rfl I2 (.cons (show RelV (V.ref a) (Value.ref a) from rfl) r) hr2 (.cons rx2 rs) o2
  · exact (show False from o1).elim
theorem me_meth0 (C : Cxt w k X) (c : Nat) (hA : w.cl c = some A) (hc : Cls w.K A) (hm : Meth w.K A (nmS m) f) (B : Clb X w EX (.ref f) 1 [] op) (ho : PE X o (tM w EX mo))
    (ht : eval (.Call (.Attribute o (nmS m) apos) [] [] pos) X.env = (do
      let ov ← eval o X.env
      standAt apos.atName
      let (f, first) ← holding [ov] (getMethod ov (nmS m) pl)
      callWith pos f first (backTo pos (starEach [] X.env)) (backToKw pos (keywordEach [] X.env))) := by rfl) :
    PE X (.Call (.Attribute o (nmS m) apos) [] [] pos) (tM w EX (mMe c m op 1 mo maNil)) := by
  refine ⟨fun pins s σ H Q I h => ?_⟩
  obtain ⟨M, rho, env, hh, er, hr, oo⟩ := h
  refine PySem.W.methodCall_KW (pl := pl) (thn (ho.run pins s σ H (fun v H1 => ∃ M1 rho1 h1 x, ER w M1 rho1 H1 env σ ∧ HR w M1 rho1 H1 h1 ∧ VR w M1 rho1 H1 x v ∧ Out w EX M1 rho1 H1 (match fldsOf h1 x with
    | some (d, fs) => bif d == c && (lookF m fs).isNone then (maNil env h1).bind fun xs h2 => bif (x :: xs).length == 1 then op h2 (x :: xs) else .stuck else .stuck
    | none => .stuck) (KV w Q)) I (tM.of er hr (Out.bind oo) fun x h1 M1 rho1 H1 v st1 er1 hr1 o1 rv => ⟨M1, rho1, h1, x, er1, hr1, rv, o1⟩)) fun u s1 hh1 => ?_) ht
  obtain ⟨v, H1, I1, rx, M1, rho1, h1, x, er1, hr1, rv, o1⟩ := hh1
  split at o1
  · rename_i d fs ef
    obtain ⟨hq, oB⟩ := Out.bif o1
    rw [Bool.and_eq_true] at hq
    obtain ⟨a, D, dx, gs, rfl, q1, q2, q3⟩ := flds_ok hr1 rv ef
    have hd := beq_iff_eq.mp hq.1
    subst hd
    rw [hA] at q1
    cases q1
    obtain rfl : u = Value.ref a := rx
    refine getmeth_ok I1 q2 (by rw [C.hK]; exact hc) (by rw [C.hK]; exact hm) (lookF_none q3 (Option.isNone_iff_eq_none.mp hq.2)) ?_
    exact PySem.W.callWith_K0 (first := [.ref a]) I1.kIn B.kp (clb_at (us := [.ref a]) (vs := [.ref a]) (xs := [x]) B rfl I1 (.cons (show RelV (V.ref a) (Value.ref a) from rfl) .nil) hr1 (.cons rv .nil) oB)
  · exact (show False from o1).elim
end
end MC

end
section
set_option maxRecDepth 100000
set_option maxHeartbeats 4000000
namespace MC
open PySem PySem.Spec PyProof.Rows L2

mutual
def beqV : PV → PV → Bool
  | .non, .non => true
  | .bl a, .bl b => a == b
  | .int a, .int b => a == b
  | .str a, .str b => a == b
  | .tup a, .tup b => beqVs a b
  | .scr a, .scr b => beqVs a b
  | .rdic a, .rdic b => beqK a b
  | .ins c a, .ins d b => c == d && beqF a b
  | .ref a, .ref b => a == b
  | .gl a, .gl b => a == b
  | _, _ => false
def beqVs : List PV → List PV → Bool
  | [], [] => true
  | x :: xs, y :: ys => beqV x y && beqVs xs ys
  | _, _ => false
def beqK : List (PV × PV) → List (PV × PV) → Bool
  | [], [] => true
  | (a, x) :: xs, (b, y) :: ys => beqV a b && (beqV x y && beqK xs ys)
  | _, _ => false
def beqF : List (Nm × PV) → List (Nm × PV) → Bool
  | [], [] => true
  | (a, x) :: xs, (b, y) :: ys => a == b && (beqV x y && beqF xs ys)
  | _, _ => false
end
mutual
theorem beqV_rf : ∀ x : PV, beqV x x = true
  | .non => by unfold beqV; rfl
  | .bl b => by unfold beqV; simp
  | .int i => by unfold beqV; simp
  | .str s => by unfold beqV; simp
  | .tup xs => by unfold beqV; exact beqVs_rf xs
  | .scr xs => by unfold beqV; exact beqVs_rf xs
  | .rdic xs => by unfold beqV; exact beqK_rf xs
  | .ins c fs => by unfold beqV; simp [beqF_rf fs]
  | .ref n => by unfold beqV; simp
  | .gl n => by unfold beqV; simp
theorem beqVs_rf : ∀ x : List PV, beqVs x x = true
  | [] => by unfold beqVs; rfl
  | x :: xs => by unfold beqVs; simp [beqV_rf x, beqVs_rf xs]
theorem beqK_rf : ∀ x : List (PV × PV), beqK x x = true
  | [] => by unfold beqK; rfl
  | (a, x) :: xs => by unfold beqK; simp [beqV_rf a, beqV_rf x, beqK_rf xs]
theorem beqF_rf : ∀ x : List (Nm × PV), beqF x x = true
  | [] => by unfold beqF; rfl
  | (a, x) :: xs => by unfold beqF; simp [beqV_rf x, beqF_rf xs]
end
mutual
theorem beqV_ok : ∀ {x y : PV}, beqV x y = true → x = y
  | .non, .non, _ => rfl
  | .bl a, .bl b, h => by unfold beqV at h; rw [beq_iff_eq.mp h]
  | .int a, .int b, h => by unfold beqV at h; rw [beq_iff_eq.mp h]
  | .str a, .str b, h => by unfold beqV at h; rw [beq_iff_eq.mp h]
  | .tup a, .tup b, h => by unfold beqV at h; rw [beqVs_ok h]
  | .scr a, .scr b, h => by unfold beqV at h; rw [beqVs_ok h]
  | .rdic a, .rdic b, h => by unfold beqV at h; rw [beqK_ok h]
  | .ins c a, .ins d b, h => by unfold beqV at h; rw [Bool.and_eq_true] at h; rw [beq_iff_eq.mp h.1, beqF_ok h.2]
  | .ref a, .ref b, h => by unfold beqV at h; rw [beq_iff_eq.mp h]
  | .gl a, .gl b, h => by unfold beqV at h; rw [beq_iff_eq.mp h]
  | .non, .bl _, h | .non, .int _, h | .non, .str _, h | .non, .tup _, h | .non, .scr _, h | .non, .rdic _, h | .non, .ins _ _, h | .non, .ref _, h | .non, .gl _, h => by unfold beqV at h; cases h
  | .bl _, .non, h | .bl _, .int _, h | .bl _, .str _, h | .bl _, .tup _, h | .bl _, .scr _, h | .bl _, .rdic _, h | .bl _, .ins _ _, h | .bl _, .ref _, h | .bl _, .gl _, h => by unfold beqV at h; cases h
  | .int _, .non, h | .int _, .bl _, h | .int _, .str _, h | .int _, .tup _, h | .int _, .scr _, h | .int _, .rdic _, h | .int _, .ins _ _, h | .int _, .ref _, h | .int _, .gl _, h => by unfold beqV at h; cases h
  | .str _, .non, h | .str _, .bl _, h | .str _, .int _, h | .str _, .tup _, h | .str _, .scr _, h | .str _, .rdic _, h | .str _, .ins _ _, h | .str _, .ref _, h | .str _, .gl _, h => by unfold beqV at h; cases h
  | .tup _, .non, h | .tup _, .bl _, h | .tup _, .int _, h | .tup _, .str _, h | .tup _, .scr _, h | .tup _, .rdic _, h | .tup _, .ins _ _, h | .tup _, .ref _, h | .tup _, .gl _, h => by unfold beqV at h; cases h
  | .scr _, .non, h | .scr _, .bl _, h | .scr _, .int _, h | .scr _, .str _, h | .scr _, .tup _, h | .scr _, .rdic _, h | .scr _, .ins _ _, h | .scr _, .ref _, h | .scr _, .gl _, h => by unfold beqV at h; cases h
  | .rdic _, .non, h | .rdic _, .bl _, h | .rdic _, .int _, h | .rdic _, .str _, h | .rdic _, .tup _, h | .rdic _, .scr _, h | .rdic _, .ins _ _, h | .rdic _, .ref _, h | .rdic _, .gl _, h => by unfold beqV at h; cases h
  | .ins _ _, .non, h | .ins _ _, .bl _, h | .ins _ _, .int _, h | .ins _ _, .str _, h | .ins _ _, .tup _, h | .ins _ _, .scr _, h | .ins _ _, .rdic _, h | .ins _ _, .ref _, h | .ins _ _, .gl _, h => by unfold beqV at h; cases h
  | .ref _, .non, h | .ref _, .bl _, h | .ref _, .int _, h | .ref _, .str _, h | .ref _, .tup _, h | .ref _, .scr _, h | .ref _, .rdic _, h | .ref _, .ins _ _, h | .ref _, .gl _, h => by unfold beqV at h; cases h
  | .gl _, .non, h | .gl _, .bl _, h | .gl _, .int _, h | .gl _, .str _, h | .gl _, .tup _, h | .gl _, .scr _, h | .gl _, .rdic _, h | .gl _, .ins _ _, h | .gl _, .ref _, h => by unfold beqV at h; cases h
theorem beqVs_ok : ∀ {x y : List PV}, beqVs x y = true → x = y
  | [], [], _ => rfl
  | x :: xs, y :: ys, h => by unfold beqVs at h; rw [Bool.and_eq_true] at h; rw [beqV_ok h.1, beqVs_ok h.2]
  | [], _ :: _, h | _ :: _, [], h => by unfold beqVs at h; cases h
theorem beqK_ok : ∀ {x y : List (PV × PV)}, beqK x y = true → x = y
  | [], [], _ => rfl
  | (a, x) :: xs, (b, y) :: ys, h => by unfold beqK at h; rw [Bool.and_eq_true, Bool.and_eq_true] at h; rw [beqV_ok h.1, beqV_ok h.2.1, beqK_ok h.2.2]
  | [], _ :: _, h | _ :: _, [], h => by unfold beqK at h; cases h
theorem beqF_ok : ∀ {x y : List (Nm × PV)}, beqF x y = true → x = y
  | [], [], _ => rfl
  | (a, x) :: xs, (b, y) :: ys, h => by unfold beqF at h; rw [Bool.and_eq_true, Bool.and_eq_true] at h; rw [beq_iff_eq.mp h.1, beqV_ok h.2.1, beqF_ok h.2.2]
  | [], _ :: _, h | _ :: _, [], h => by unfold beqF at h; cases h
end

/-- objects that must stand as they stood -/
abbrev Wt := List (Nat × List PV)
def watch : Wt → PH → Bool
  | [], _ => true
  | (n, xs) :: r, h => (match h[n]? with
    | some (.lst ys) => beqVs xs ys
    | _ => false) && watch r h
structure Gives (w : Wo) (M : Addr → Prop) (rho : List Addr) (H : Hp) (xs : List PV) (wt : Wt) (J : It) : Prop where
  to : ∀ {M1 : Addr → Prop} {rho1 : List Addr} {H1 : Hp} {h1 : PH}, Step M rho H M1 rho1 H1 → HR w M1 rho1 H1 h1 → watch wt h1 = true → ∀ i,
    (i < xs.length → J.go i H1) ∧ (i = xs.length → J.stop i H1) ∧ ∀ v H', i < xs.length → J.yld i H1 v H' → (∀ b o, H1 b = some o → H' b = some o) ∧ ∃ x, xs[i]? = some x ∧ VR w M1 rho1 H' x v
abbrev MI := En → PH → R (List PV × Wt)
def KI (w : Wo) (Q : It → Hp → Prop) : KC (List PV × Wt) := fun p _ M rho H => ∀ J, Gives w M rho H p.1 p.2 J → Q J H
def tI (w : Wo) (EX : XC) (m : MI) : TI := fun σ H Q => ∃ M rho env h, ER w M rho H env σ ∧ HR w M rho H h ∧ Out w EX M rho H (m env h) (KI w Q)
theorem PI.imp {X : Cx} {tg e : Expr} {t t' : TI} (p : PI X tg e t) (i : ∀ σ H Q, t' σ H Q → t σ H Q) : PI X tg e t' := ⟨fun pins s σ H Q I h => p.run pins s σ H Q I (i σ H Q h)⟩

section
variable {w : Wo} {M M1 : Addr → Prop} {rho rho1 : List Addr} {H H1 : Hp} {h h1 : PH}
theorem gives_list {xs : List PV} {a : Addr} (hs : ∀ {M1 : Addr → Prop} {rho1 : List Addr} {H1 : Hp} {h1 : PH}, Step M rho H M1 rho1 H1 → HR w M1 rho1 H1 h1 → watch wt h1 = true → ∃ vs, SqL w.K H1 a vs ∧ VRs w M1 rho1 H1 xs vs) : Gives w M rho H xs wt (Itl w.K a) := by
  refine ⟨fun {M1 rho1 H1 h1} st hr hw i => ?_⟩
  obtain ⟨vs, q, rv⟩ := hs st hr hw
  have W := walk_list (K := w.K) (a := a) (xs := vs)
  rw [rv.length] at W
  refine ⟨fun hi => W.goes i H1 hi q, fun hi => by subst hi; exact W.stops H1 q, fun v H' hi y => ?_⟩
  obtain ⟨e, ey⟩ := W.yields i H1 v H' hi q y
  subst e
  obtain ⟨x, hx⟩ : ∃ x, xs[i]? = some x := ⟨_, List.getElem?_eq_getElem hi⟩
  obtain ⟨v', e1, r1⟩ := rv.get hx
  rw [ey] at e1
  cases e1
  exact ⟨fun _ _ e => e, x, hx, r1⟩
theorem gives_tup {xs : List PV} {a : Addr} {vs : List V} (hr0 : HR w M rho H h) (q : SqT w.K H a vs) (rv : VRs w M rho H xs vs) : Gives w M rho H xs [] (Itt w.K a) := by
  refine ⟨fun {M1 rho1 H1 h1} st hr hw i => ?_⟩
  have q := st.sqT hr0 q
  have rv := rv.step st hr0
  have W := walk_tup (K := w.K) (a := a) (xs := vs)
  rw [rv.length] at W
  refine ⟨fun hi => W.goes i H1 hi q, fun hi => by subst hi; exact W.stops H1 q, fun v H' hi y => ?_⟩
  obtain ⟨e, ey⟩ := W.yields i H1 v H' hi q y
  subst e
  obtain ⟨x, hx⟩ : ∃ x, xs[i]? = some x := ⟨_, List.getElem?_eq_getElem hi⟩
  obtain ⟨v', e1, r1⟩ := rv.get hx
  rw [ey] at e1
  cases e1
  exact ⟨fun _ _ e => e, x, hx, r1⟩
def signsOf (s : List Nat) : List PV := s.map fun c => .str [c]
theorem gives_str (s : List Nat) : Gives w M rho H (signsOf s) [] (Its ⟨s.toArray⟩) := by
  refine ⟨fun {M1 rho1 H1 h1} st hr hw i => ?_⟩
  have W := walk_str (z := ⟨s.toArray⟩)
  have e0 : (signsOf s).length = s.length := by unfold signsOf; rw [List.length_map]
  have e1 : (⟨s.toArray⟩ : Str).cps.size = s.length := by simp
  rw [e1] at W
  rw [e0]
  refine ⟨fun hi => W.goes i H1 hi True.intro, fun hi => by subst hi; exact W.stops H1 True.intro, fun v H' hi y => ?_⟩
  obtain ⟨e, c, ey, ev⟩ := W.yields i H1 v H' hi True.intro y
  subst e; subst ev
  have ey : s[i]? = some c := by simpa using ey
  refine ⟨fun _ _ e => e, .str [c], by unfold signsOf; rw [List.getElem?_map, ey]; rfl, .str [c]⟩
def seqI (lo : Int) (n : Nat) : List PV := (List.range n).map fun i => .int (lo + (i : Nat))
theorem gives_rng (lo : Int) (n : Nat) : Gives w M rho H (seqI lo n) [] (Itr lo n) := by
  refine ⟨fun {M1 rho1 H1 h1} st hr hw i => ?_⟩
  have W := walk_range (lo := lo) (n := n)
  have e0 : (seqI lo n).length = n := by unfold seqI; rw [List.length_map, List.length_range]
  rw [e0]
  refine ⟨fun hi => W.goes i H1 hi True.intro, fun hi => by subst hi; exact W.stops H1 True.intro, fun v H' hi y => ?_⟩
  obtain ⟨e, ev⟩ := W.yields i H1 v H' hi True.intro y
  subst e; subst ev
  exact ⟨fun _ _ e => e, _, by unfold seqI; rw [List.getElem?_map, List.getElem?_range hi]; rfl, .int _⟩
def seqC (lo c : Int) (n : Nat) : List PV := (List.range n).map fun i => .int (lo + (i : Nat) * c)
theorem gives_rngC (lo c : Int) (n : Nat) : Gives w M rho H (seqC lo c n) [] (Itc lo c n) := by
  refine ⟨fun {M1 rho1 H1 h1} st hr hw i => ?_⟩
  have W := walk_rangeC (lo := lo) (c := c) (n := n)
  have e0 : (seqC lo c n).length = n := by unfold seqC; rw [List.length_map, List.length_range]
  rw [e0]
  refine ⟨fun hi => W.goes i H1 hi True.intro, fun hi => by subst hi; exact W.stops H1 True.intro, fun v H' hi y => ?_⟩
  obtain ⟨e, ev⟩ := W.yields i H1 v H' hi True.intro y
  subst e; subst ev
  exact ⟨fun _ _ e => e, _, by unfold seqC; rw [List.getElem?_map, List.getElem?_range hi]; rfl, .int _⟩
theorem KRs.at {ks : List (PV × PV)} {gs : List (Key × V)} (r : KRs w M rho H ks gs) : ks.length = gs.length ∧ ∀ {i : Nat} {k : Key} {v : V}, gs[i]? = some (k, v) → ∃ p x, ks[i]? = some (p, x) ∧ VR w M rho H p (kV k) ∧ VR w M rho H x v := by
  match r with
  | .nil => exact ⟨rfl, fun e => by simp at e⟩
  | .cons (k := kp) (j := j) hk hx hr =>
    obtain ⟨h1, h2⟩ := KRs.at hr
    refine ⟨by rw [List.length_cons, List.length_cons, h1], fun {i k v} e => ?_⟩
    cases i with
    | zero =>
      simp at e
      obtain ⟨rfl, rfl⟩ := e
      refine ⟨_, _, rfl, ?_, hx⟩
      cases kp <;> (unfold keyP at hk; cases hk)
      · exact .int _
      · exact .str _
    | succ i => simpa using h2 (i := i) (by simpa using e)
theorem gives_keys {a : Addr} {o : Obj} {ks : List (PV × PV)} {gs : List (Key × V)} (hr0 : HR w M rho H h) (q : H a = some (.frz o (.dK gs))) (rv : KRs w M rho H ks gs) : Gives w M rho H (ks.map (·.1)) [] (Itk a o gs) := by
  refine ⟨fun {M1 rho1 H1 h1} st hr hw i => ?_⟩
  have q := st.frz _ _ _ q
  have rv := rv.step st hr0
  obtain ⟨hl, hg⟩ := rv.at
  have W := walk_keys (d := a) (o := o) (kvs := gs)
  rw [List.length_map, hl]
  refine ⟨fun hi => W.goes i H1 hi q, fun hi => by subst hi; exact W.stops H1 q, fun v H' hi y => ?_⟩
  obtain ⟨e, k, u, ey, ev⟩ := W.yields i H1 v H' hi q y
  subst e; subst ev
  obtain ⟨p, x, e1, e2, _⟩ := hg ey
  exact ⟨fun _ _ e => e, p, by rw [List.getElem?_map, e1]; rfl, e2⟩
theorem watch_one {n : Nat} {xs : List PV} (h : watch [(n, xs)] h1 = true) : h1[n]? = some (.lst xs) := by
  unfold watch at h
  rw [Bool.and_eq_true] at h
  have h := h.1
  split at h
  · rename_i ys e
    rw [e, beqVs_ok h]
  · cases h
end

/-- the items of a value -/
def srcV (h : PH) : PV → Option (List PV × Wt)
  | .tup xs => some (xs, [])
  | .scr xs => some (xs, [])
  | .str s => some (signsOf s, [])
  | .rdic ks => some (ks.map (·.1), [])
  | .ref n => match h[n]? with
    | some (.lst xs) => some (xs, [(n, xs)])
    | _ => none
  | _ => none
/-- the keys of a dict: it is locked, for good -/
def srcD (h : PH) : PV → R (List PV × Wt)
  | .ref n => match h[n]? with
    | some (.dic false kvs) => .ok (kvs.map (·.1), []) (h.set n (.dic true kvs))
    | some (.dic true kvs) => .ok (kvs.map (·.1), []) h
    | _ => .stuck
  | _ => .stuck
def miV (m : ME) : MI := fun env h => (m env h).bind fun x h1 => match srcV h1 x with
  | some p => .ok p h1
  | none => srcD h1 x
section
variable {w : Wo} {EX : XC} {X : Cx} {k : Nat} {tg e : Expr} {m : ME} {p pos : Pos} {ma : MA}
theorem iter_val (C : Cxt w k X) {pins : List (Addr × Obj)} {σ : L2.St} {H : Hp} {s : Shared} {R : It → Hp → Prop} {E : Value → Shared → Prop} {M : Addr → Prop} {rho : List Addr} {h : PH} {x : PV} {v : V} {u : Value} {xs : List PV} {wt : Wt}
    (I : Inv X pins σ H s) (ru : RelV v u) (hr : HR w M rho H h) (rv : VR w M rho H x v) (es : srcV h x = some (xs, wt)) (q : ∀ J, Gives w M rho H xs wt J → R J H) : wpAny (model X.prog X.w) X.A (pyIter u) (PIE X pins σ tg R) E s := by
  have lst : ∀ {a : Addr} {vs : List V}, SqL w.K H a vs → R (Itl w.K a) H → wpAny (model X.prog X.w) X.A (pyIter (.ref a)) (PIE X pins σ tg R) E s := fun {a vs} hq hR => by
    rw [← C.hK] at hq hR
    obtain ⟨its, rv, p, hz⟩ := I.list hq
    exact wpAny_pyIter_list p.isList (pi_one (tk := s.toks) I _ (turn_list a _) ⟨_, Heap.get?_push_size _ rfl, rfl, rfl⟩ hR)
  cases rv with
  | tup sq rs =>
    obtain rfl : u = _ := ru
    cases es
    have hq := sq
    rw [← C.hK] at hq
    obtain ⟨its, rv, p, hz⟩ := I.tuple hq
    refine wpAny_pyIter_tuple (show s.heap.IsTuple _ its.toArray from p) (pi_one (tk := s.toks) I _ (turn_tuple _ _) ⟨_, Heap.get?_push_size _ rfl, rfl, rfl⟩ ?_)
    have := q _ (gives_tup hr sq rs)
    rw [C.hK]; exact this
  | scr sq rs =>
    obtain rfl : u = _ := ru
    cases es
    exact lst sq.sq (q _ (gives_list fun st hr1 _ => ⟨_, (st.scr hr sq).sq, rs.step st hr⟩))
  | str z =>
    obtain ⟨t, rfl⟩ := (show ∃ t, u = Value.str ⟨z.toArray⟩ t from ru)
    cases es
    have hR := q _ (gives_str z)
    cases ha : (⟨z.toArray⟩ : Str).cps.all (· < 128)
    · exact wpAny_pyIter_wide ha (pi_one (tk := s.toks) I _ (turn_str _ ⟨z.toArray⟩ t "str_iterator" (.inr rfl)) ⟨_, Heap.get?_push_size _ rfl, rfl, rfl⟩ hR)
    · exact wpAny_pyIter_ascii ha (pi_one (tk := s.toks) I _ (turn_str _ ⟨z.toArray⟩ t "str_ascii_iterator" (.inl rfl)) ⟨_, Heap.get?_push_size _ rfl, rfl, rfl⟩ hR)
  | @rdic kvs ks a o ha hn rk =>
    obtain rfl : u = Value.ref a := ru
    cases es
    obtain ⟨hs, hgd, hx, es, ep, vs, hdt, hsz, kv, hm⟩ := I.frzK ha
    refine iter_keys hs hgd hx hdt (pi_one (tk := s.toks) I _ (turn_keys _ hdt) ⟨_, Heap.get?_push_size _ rfl, rfl, ?_⟩ (q _ (gives_keys hr ha rk)))
    rw [hsz] <;> rfl
  | @ref n a ha =>
    obtain rfl : u = Value.ref a := ru
    simp only [srcV] at es
    split at es
    · rename_i ys e0
      cases es
      obtain ⟨a', ha', vs, q1, q2⟩ := hr.ob _ _ e0
      rw [ha] at ha'
      cases ha'
      refine lst (.inl (.inl q1)) (q _ (gives_list fun st hr1 hw => ?_))
      obtain ⟨a2, ha2, vs2, z1, z2⟩ := hr1.ob _ _ (watch_one hw)
      rw [st.ext _ _ ha] at ha2
      cases ha2
      exact ⟨vs2, .inl (.inl z1), z2⟩
    · cases es
  | _ => cases es
/-- a dict of the heap is locked -/
theorem lock_dic {pins : List (Addr × Obj)} {σ : L2.St} {H : Hp} {s : Shared} {M : Addr → Prop} {rho : List Addr} {h : PH} {n : Nat} {v : V} {kvs : List (PV × PV)} (I : Inv X pins σ H s) (hr : HR w M rho H h) (rv : VR w M rho H (.ref n) v) (e : h[n]? = some (.dic false kvs)) :
    ∃ a od ks, v = .ref a ∧ Inv X pins σ (upd H a (.frz od (.dK ks))) s ∧ Step M rho H M rho (upd H a (.frz od (.dK ks))) ∧ HR w M rho (upd H a (.frz od (.dK ks))) (h.set n (.dic true kvs)) ∧ KRs w M rho (upd H a (.frz od (.dK ks))) kvs ks := by
  cases rv with
  | @ref n a ha =>
    obtain ⟨a', ha', ks, q1, q2⟩ := hr.ob _ _ e
    rw [ha] at ha'
    cases ha'
    have q1' : H a = some (.dK ks) := q1
    obtain ⟨od, I'⟩ := I.lock q1' True.intro
    have nf : ∀ p u, H a ≠ some (.frz p u) := fun p u z => by rw [q1'] at z; cases z
    have st := Step.write hr (o := .frz od (.dK ks)) ha nf
    have r2 := q2.step st hr
    exact ⟨a, od, ks, rfl, I', st, hr.write ha nf ⟨ks, ⟨od, upd_same⟩, r2⟩, r2⟩
theorem iter_dic {pins : List (Addr × Obj)} {σ : L2.St} {H : Hp} {s : Shared} {R : It → Hp → Prop} {E : Value → Shared → Prop} {M : Addr → Prop} {rho : List Addr} {h : PH} {x : PV} {v : V} {u : Value}
    (I : Inv X pins σ H s) (ru : RelV v u) (hr : HR w M rho H h) (rv : VR w M rho H x v) (o : Out w EX M rho H (srcD h x) (KI w R)) : wpAny (model X.prog X.w) X.A (pyIter u) (PIE X pins σ tg R) E s := by
  cases x <;> try exact (show False from o).elim
  rename_i n
  simp only [srcD] at o
  have go : ∀ {H : Hp} {h : PH} {a : Addr} {od : Obj} {ks : List (Key × V)} {kvs : List (PV × PV)}, Inv X pins σ H s → HR w M rho H h → H a = some (.frz od (.dK ks)) → KRs w M rho H kvs ks → KI w R (kvs.map (·.1), []) h M rho H → wpAny (model X.prog X.w) X.A (pyIter (.ref a)) (PIE X pins σ tg R) E s := by
    intro H h a od ks kvs I hr ha rk q
    obtain ⟨hs, hgd, hx, es, ep, vs, hdt, hsz, kv, hm⟩ := I.frzK ha
    refine iter_keys hs hgd hx hdt (pi_one (tk := s.toks) I _ (turn_keys _ hdt) ⟨_, Heap.get?_push_size _ rfl, rfl, ?_⟩ (q _ (gives_keys hr ha rk)))
    rw [hsz] <;> rfl
  split at o
  · rename_i kvs e0
    obtain ⟨a, od, ks, rfl, I', st, hr', rk⟩ := lock_dic I hr rv e0
    obtain rfl : u = Value.ref a := ru
    exact go I' hr' upd_same rk (o _ _ _ st hr')
  · rename_i kvs e0
    cases rv with
    | @ref n a ha =>
      obtain rfl : u = Value.ref a := ru
      obtain ⟨a', ha', ks, ⟨od, q1⟩, q2⟩ := hr.ob _ _ e0
      rw [ha] at ha'
      cases ha'
      exact go I hr q1 q2 (o.now hr)
  · exact (show False from o).elim
/-- over a value -/
theorem mi_val (C : Cxt w k X) (he : PE X e (tM w EX m)) : PI X tg e (tI w EX (miV m)) := by
  refine ⟨fun pins s σ H R I h => ?_⟩
  obtain ⟨M, rho, env, hh, er, hr, o⟩ := h
  refine thn (he.run pins s σ H (fun v H1 => ∃ M1 rho1 h1 x, HR w M1 rho1 H1 h1 ∧ VR w M1 rho1 H1 x v ∧ Out w EX M1 rho1 H1 (match srcV h1 x with
    | some p => .ok p h1
    | none => srcD h1 x) (KI w R)) I (tM.of er hr (Out.bind o) fun x h1 M1 rho1 H1 v st1 er1 hr1 o1 rv => ⟨M1, rho1, h1, x, hr1, rv, o1⟩)) fun u s1 ⟨v, H1, I1, ru, M1, rho1, h1, x, hr1, rv, o1⟩ => ?_
  split at o1
  · rename_i p ep
    exact iter_val (xs := p.1) (wt := p.2) C I1 ru hr1 rv ep (o1.now hr1)
  · exact iter_dic I1 ru hr1 rv o1
def L62 : Int := 4611686018427387904
theorem l62 : L62 = 2 ^ 62 := by decide
def inR (i : Int) : Bool := decide (-L62 ≤ i) && decide (i < L62)
def miRng1 (ma : MA) : MI := fun env h => (ma env h).bind fun xs h1 => match xs with
  | [.int j] => bif inR j then .ok (seqI 0 j.toNat, []) h1 else .stuck
  | _ => .stuck
def miRng2 (ma : MA) : MI := fun env h => (ma env h).bind fun xs h1 => match xs with
  | [.int i, .int j] => bif inR i && inR j then .ok (seqI i (j - i).toNat, []) h1 else .stuck
  | _ => .stuck
theorem inR_ok {i : Int} (h : inR i = true) : -(2 ^ 62) ≤ i ∧ i < 2 ^ 62 := by
  unfold inR at h
  rw [Bool.and_eq_true, decide_eq_true_eq, decide_eq_true_eq, l62] at h
  exact h
theorem mi_rng1 {a : Expr} (hg : Gl X "range") (hm : X.mg "range" = none) (ha : PA X [a] (tA w EX ma)) (hs : starEach [a] X.env = [(false, eval a X.env)] := by rfl) : PI X tg (.Call (.Name "range" p) [a] [] pos) (tI w EX (miRng1 ma)) := by
  refine PI.imp (pi_range1 hg hm ha hs) fun σ H R hh => ?_
  obtain ⟨M, rho, env, h, er, hr, o⟩ := hh
  refine tA.of er hr (Out.bind o) fun xs h1 M1 rho1 H1 vs st1 er1 hr1 o1 rs => ?_
  split at o1
  · rename_i j
    obtain ⟨hj, o2⟩ := Out.bif o1
    cases rs with
    | cons a b =>
      cases a
      cases b
      obtain ⟨p1, p2⟩ := inR_ok hj
      exact ⟨j, rfl, p1, p2, o2.now hr1 _ (gives_rng 0 _)⟩
  · exact (show False from o1).elim
theorem mi_rng2 {a b : Expr} (hg : Gl X "range") (hm : X.mg "range" = none) (ha : PA X [a, b] (tA w EX ma)) (hs : starEach [a, b] X.env = [(false, eval a X.env), (false, eval b X.env)] := by rfl) (hs2 : starEach [b] X.env = [(false, eval b X.env)] := by rfl) :
    PI X tg (.Call (.Name "range" p) [a, b] [] pos) (tI w EX (miRng2 ma)) := by
  refine PI.imp (pi_range2 hg hm ha hs hs2) fun σ H R hh => ?_
  obtain ⟨M, rho, env, h, er, hr, o⟩ := hh
  refine tA.of er hr (Out.bind o) fun xs h1 M1 rho1 H1 vs st1 er1 hr1 o1 rs => ?_
  split at o1
  · rename_i i j
    obtain ⟨hj, o2⟩ := Out.bif o1
    rw [Bool.and_eq_true] at hj
    cases rs with
    | cons a b =>
      cases b with
      | cons b c =>
        cases a
        cases b
        cases c
        obtain ⟨p1, p2⟩ := inR_ok hj.1
        obtain ⟨p3, p4⟩ := inR_ok hj.2
        exact ⟨i, j, rfl, ⟨p1, p2, p3, p4⟩, o2.now hr1 _ (gives_rng i _)⟩
  · exact (show False from o1).elim
end
end MC

end
section
set_option maxRecDepth 100000
set_option maxHeartbeats 4000000
namespace MC
open PySem PySem.Spec PyProof.Rows L2

theorem Cxt.blk {w : Wo} {k : Nat} {X : Cx} (C : Cxt w k X) (s : Shared) (H : Hp) (scope : Scope) (e : Env) (fp : List Addr) : Cxt w k (X.blk s H scope e fp) := ⟨C.hK, C.hW, C.calm, C.room, C.grd, PassesOwn.never⟩
theorem Out.back {w : Wo} {EX : XC} {M : Addr → Prop} {rho : List Addr} {H : Hp} {α β : Type} {r : R α} {f : α → PH → R β} {k : KC β} (o : Out w EX M rho H (r.bind f) k) : Out w EX M rho H r fun a h _ _ _ => Out w EX M rho H (f a h) k := by
  cases r with
  | ok a h => exact fun M' rho' H' s _ => o
  | exc c fs h => exact o
  | stuck => exact o

def forL (g : MG) (b : MS) (wt : Wt) : List PV → En → PH → R Fl
  | [], env, h => bif watch wt h then .ok (.nx env) h else .stuck
  | x :: xs, env, h => bif watch wt h then (g x env h).bind fun e h1 => (b e h1).bind fun f h2 => match f with
    | .nx e2 => forL g b wt xs e2 h2
    | .ct e2 => forL g b wt xs e2 h2
    | .bk e2 => .ok (.nx e2) h2
    | .rt v => .ok (.rt v) h2 else .stuck
def mFor (mi : MI) (g : MG) (b : MS) : MS := fun env h => (mi env h).bind fun p h1 => forL g b p.2 p.1 env h1
section
variable {w : Wo} {EX : XC} {X : Cx} {k : Nat} {tg iter : Expr} {body : List Stmt} {pos : Pos} {mi : MI} {g : MG} {b : MS}
theorem ms_for (C : Cxt w k X) (hi : PI X tg iter (tI w EX mi)) (hg : PG X tg (tG w EX g)) (hb : PSs X body (tS w EX b)) (hs : ∀ x, foldedSetIterable iter X.env x = pure x := by intro _; rfl) : PS X (.For tg iter body [] pos) (tS w EX (mFor mi g b)) := by
  refine PS_imp (ps_for C.own C.calm hi hg hb hs) fun D s H hh => ?_
  obtain ⟨M, rho, env, h, er, hr, o⟩ := hh
  refine ⟨M, rho, env, h, er, hr, (Out.bind o).imp fun p h1 M1 rho1 H1 st1 hr1 o1 J gv => ?_⟩
  obtain ⟨xs, wt⟩ := p
  -- from here on the world grows from (M1, rho1, H1)
  refine ⟨fun i m σ H' => m = xs.length - i ∧ i ≤ xs.length ∧ ∃ M2 rho2 env2 h2, Step M1 rho1 H1 M2 rho2 H' ∧ ER w M2 rho2 H' env2 σ ∧ HR w M2 rho2 H' h2 ∧ Out w EX M2 rho2 H' (forL g b wt (xs.drop i) env2 h2) (KS w D),
    ⟨xs.length, by simp, Nat.zero_le _, M1, rho1, env, h1, Step.refl, er.step st1 hr, hr1, o1⟩, ?_⟩
  rintro i m σ H' ⟨rfl, hi, M2, rho2, env2, h2, st2, er2, hr2, o2⟩
  by_cases hlt : i < xs.length
  · rw [List.drop_eq_getElem_cons hlt] at o2
    obtain ⟨hw, o3⟩ := Out.bif (show Out w EX M2 rho2 H' (bif watch wt h2 then (g xs[i] env2 h2).bind fun e h1 => (b e h1).bind fun f h2 => match f with
      | .nx e2 => forL g b wt (xs.drop (i + 1)) e2 h2
      | .ct e2 => forL g b wt (xs.drop (i + 1)) e2 h2
      | .bk e2 => .ok (.nx e2) h2
      | .rt v => .ok (.rt v) h2 else .stuck) (KS w D) from o2)
    obtain ⟨g1, _, g3⟩ := gv.to st2 hr2 hw i
    refine .inr ⟨g1 hlt, fun σ' H' => ∃ M2 rho2 env2 h2, Step M1 rho1 H1 M2 rho2 H' ∧ ER w M2 rho2 H' env2 σ' ∧ HR w M2 rho2 H' h2 ∧ Out w EX M2 rho2 H' (forL g b wt (xs.drop (i + 1)) env2 h2) (KS w D), fun σ' H'' q => ⟨xs.length - (i + 1), by omega, rfl, hlt, q⟩, fun x H3 y => ?_⟩
    obtain ⟨k1, z, ez, rz⟩ := g3 x H3 hlt y
    rw [List.getElem?_eq_getElem hlt] at ez
    cases ez
    have stg : Step M2 rho2 H' M2 rho2 H3 := Step.grow k1
    have hr3 := hr2.grow k1
    refine ⟨M2, rho2, env2, h2, xs[i], er2.step stg hr2, hr3, rz, ((Out.bind o3).step stg).imp fun e h4 M4 rho4 H4 st4 hr4 o4 s4 er4 => ?_⟩
    have st5 := st2.trans (stg.trans st4)
    refine ⟨M4, rho4, e, h4, er4, hr4, (Out.bind o4).imp fun f h5 M5 rho5 H5 st6 hr5 o5 => ?_⟩
    have st7 := st5.trans st6
    cases f with
    | nx e2 => exact fun s5 er5 => ⟨M5, rho5, e2, h5, st7, er5, hr5, o5⟩
    | ct e2 => exact fun s5 er5 => ⟨M5, rho5, e2, h5, st7, er5, hr5, o5⟩
    | bk e2 => exact (show Out w EX M5 rho5 H5 (.ok (.nx e2) h5) (KS w D) from o5).now hr5
    | rt v => exact (show Out w EX M5 rho5 H5 (.ok (.rt v) h5) (KS w D) from o5).now hr5
  · have e : i = xs.length := by omega
    subst e
    rw [List.drop_length] at o2
    obtain ⟨hw, o3⟩ := Out.bif (show Out w EX M2 rho2 H' (bif watch wt h2 then .ok (.nx env2) h2 else .stuck) (KS w D) from o2)
    obtain ⟨_, g2, _⟩ := gv.to st2 hr2 hw xs.length
    exact .inl ⟨g2 rfl, o3.now hr2 _ er2⟩
end

def whileL (c : MT) (b : MS) : Nat → En → PH → R Fl
  | 0, _, _ => .stuck
  | n + 1, env, h => (c env h).bind fun t h1 => bif t then (b env h1).bind fun f h2 => match f with
    | .nx e2 => whileL c b n e2 h2
    | .ct e2 => whileL c b n e2 h2
    | .bk e2 => .ok (.nx e2) h2
    | .rt v => .ok (.rt v) h2 else .ok (.nx env) h1
def mWhile (n : Nat) (c : MT) (b : MS) : MS := fun env h => whileL c b n env h
section
variable {w : Wo} {EX : XC} {X : Cx} {k : Nat} {c : Expr} {body : List Stmt} {pos : Pos} {t : MT} {b : MS}
theorem ms_while (C : Cxt w k X) (n : Nat) (hc : PT X c (tT w EX t)) (hb : PSs X body (tS w EX b)) : PS X (.While c body [] pos) (tS w EX (mWhile n t b)) := by
  refine PS_imp (ps_while C.own hc hb) fun D s H hh => ?_
  obtain ⟨M, rho, env, h, er, hr, o⟩ := hh
  refine ⟨fun m σ H' => ∃ M2 rho2 env2 h2, ER w M2 rho2 H' env2 σ ∧ HR w M2 rho2 H' h2 ∧ Out w EX M2 rho2 H' (whileL t b m env2 h2) (KS w D), ⟨n, M, rho, env, h, er, hr, o⟩, ?_⟩
  rintro m σ H' ⟨M2, rho2, env2, h2, er2, hr2, o2⟩
  cases m with
  | zero => exact (show False from o2).elim
  | succ m =>
    refine tT.of er2 hr2 (Out.bind (show Out w EX M2 rho2 H' ((t env2 h2).bind fun t' h1 => bif t' then (b env2 h1).bind fun f h2 => match f with
      | .nx e2 => whileL t b m e2 h2
      | .ct e2 => whileL t b m e2 h2
      | .bk e2 => .ok (.nx e2) h2
      | .rt v => .ok (.rt v) h2 else .ok (.nx env2) h1) (KS w D) from o2)) fun x h3 M3 rho3 H3 st3 er3 hr3 o3 => ?_
    cases x with
    | false => exact iteF ((show Out w EX M3 rho3 H3 (.ok (.nx env2) h3) (KS w D) from o3).now hr3 _ er3)
    | true =>
      refine iteT ⟨fun σ' H'' => ∃ M2 rho2 env2 h2, ER w M2 rho2 H'' env2 σ' ∧ HR w M2 rho2 H'' h2 ∧ Out w EX M2 rho2 H'' (whileL t b m env2 h2) (KS w D), fun σ' H'' q => ⟨m, Nat.lt_succ_self _, q⟩, M3, rho3, env2, h3, er3, hr3, (Out.bind (show Out w EX M3 rho3 H3 ((b env2 h3).bind fun f h2 => match f with
        | .nx e2 => whileL t b m e2 h2
        | .ct e2 => whileL t b m e2 h2
        | .bk e2 => .ok (.nx e2) h2
        | .rt v => .ok (.rt v) h2) (KS w D) from o3)).imp fun f h5 M5 rho5 H5 st6 hr5 o5 => ?_⟩
      cases f with
      | nx e2 => exact fun s5 er5 => ⟨M5, rho5, e2, h5, er5, hr5, o5⟩
      | ct e2 => exact fun s5 er5 => ⟨M5, rho5, e2, h5, er5, hr5, o5⟩
      | bk e2 => exact (show Out w EX M5 rho5 H5 (.ok (.nx e2) h5) (KS w D) from o5).now hr5
      | rt v => exact (show Out w EX M5 rho5 H5 (.ok (.rt v) h5) (KS w D) from o5).now hr5
end

mutual
inductive Tg where
  | nm (i : Nat)
  | tp (ts : Tgs)
inductive Tgs where
  | nil
  | cons (t : Tg) (ts : Tgs)
end
mutual
def tgM : Tg → PV → En → Option En
  | .nm i, x, env => some (env.set i (some x))
  | .tp ts, x, env => match x with
    | .tup xs => tgMs ts xs env
    | _ => none
def tgMs : Tgs → List PV → En → Option En
  | .nil, [], env => some env
  | .cons t ts, x :: xs, env => match tgM t x env with
    | some e => tgMs ts xs e
    | none => none
  | _, _, _ => none
end
def tgN : Tgs → Nat
  | .nil => 0
  | .cons _ ts => tgN ts + 1
mutual
def tgG (K : PySem.W.Frag) : Tg → TG
  | .nm i => gName i
  | .tp ts => gTup K (tgN ts) (tgGs K ts)
def tgGs (K : PySem.W.Frag) : Tgs → TGs
  | .nil => gNil
  | .cons t ts => gCons (tgG K t) (tgGs K ts)
end
mutual
def tgI : Tg → List Nat
  | .nm i => [i]
  | .tp ts => tgIs ts
def tgIs : Tgs → List Nat
  | .nil => []
  | .cons t ts => tgI t ++ tgIs ts
end
theorem wipe_len (σ : L2.St) : ∀ vs : List Nat, (wipe σ vs).length = σ.length := wipe_length σ
theorem wipe_set {v : V} {i : Nat} : ∀ {vs : List Nat} (σ : L2.St), i ∈ vs → wipe (σ.set i (some v)) vs = wipe σ vs := by
  have out : ∀ {vs : List Nat} (σ : L2.St) (o : Option V), i ∉ vs → wipe (σ.set i o) vs = (wipe σ vs).set i o := by
    intro vs
    induction vs with
    | nil => intro σ o _; rfl
    | cons u vs ih =>
      intro σ o hn
      have h1 : i ≠ u := fun e => hn (by rw [e]; exact List.mem_cons_self)
      show (wipe (σ.set i o) vs).set u none = ((wipe σ vs).set u none).set i o
      rw [ih σ o fun z => hn (List.mem_cons_of_mem _ z), List.set_comm _ _ h1]
  intro vs
  induction vs with
  | nil => intro σ h; cases h
  | cons u vs ih =>
    intro σ h
    show (wipe (σ.set i (some v)) vs).set u none = (wipe σ vs).set u none
    by_cases h1 : i ∈ vs
    · rw [ih σ h1]
    · have h2 : i = u := (List.mem_cons.mp h).resolve_right h1
      subst h2
      rw [out σ _ h1, List.set_set]
section
variable {w : Wo} {M : Addr → Prop} {rho : List Addr} {H : Hp} {vs : List Nat}
mutual
theorem tg_ok : ∀ (t : Tg) {x : PV} {v : V} {env e : En} {σ : L2.St} {Q : L2.St → Hp → Prop}, tgM t x env = some e → VR w M rho H x v → ER w M rho H env σ → (∀ i ∈ tgI t, i ∈ vs) →
    (∀ σ', ER w M rho H e σ' → wipe σ' vs = wipe σ vs → Q σ' H) → tgG w.K t v σ H Q
  | .nm i, x, v, env, e, σ, Q, h, rv, er, hi, q => by
    unfold tgM at h
    cases h
    exact q _ (er.set rv i) (wipe_set σ (hi i (by unfold tgI; simp)))
  | .tp ts, x, v, env, e, σ, Q, h, rv, er, hi, q => by
    unfold tgM at h
    cases rv <;> dsimp only at h <;> try cases h
    rename_i xs us a sq rs
    unfold tgG
    obtain ⟨hl, hq⟩ := tgs_ok ts h rs er (fun i hi' => hi i (by unfold tgI; exact hi')) q
    exact ⟨a, us, rfl, sq, hl, hq⟩
theorem tgs_ok : ∀ (ts : Tgs) {xs : List PV} {us : List V} {env e : En} {σ : L2.St} {Q : L2.St → Hp → Prop}, tgMs ts xs env = some e → VRs w M rho H xs us → ER w M rho H env σ → (∀ i ∈ tgIs ts, i ∈ vs) →
    (∀ σ', ER w M rho H e σ' → wipe σ' vs = wipe σ vs → Q σ' H) → us.length = tgN ts ∧ tgGs w.K ts us σ H Q
  | .nil, xs, us, env, e, σ, Q, h, rv, er, hi, q => by
    cases rv with
    | nil =>
      unfold tgMs at h
      cases h
      exact ⟨rfl, rfl, q σ er rfl⟩
    | cons _ _ => unfold tgMs at h; cases h
  | .cons t ts, xs, us, env, e, σ, Q, h, rv, er, hi, q => by
    cases rv with
    | nil => unfold tgMs at h; cases h
    | @cons x v xs us r1 r2 =>
      unfold tgMs at h
      split at h
      · rename_i e1 h1
        have hi1 : ∀ i ∈ tgI t, i ∈ vs := fun i z => hi i (by unfold tgIs; exact List.mem_append_left _ z)
        have hi2 : ∀ i ∈ tgIs ts, i ∈ vs := fun i z => hi i (by unfold tgIs; exact List.mem_append_right _ z)
        -- the length first
        have hl : ∀ {σ' : L2.St}, ER w M rho H e1 σ' → us.length = tgN ts := fun {σ'} er' => (tgs_ok (Q := fun _ _ => True) ts h r2 er' hi2 fun _ _ _ => trivial).1
        have key : tgG w.K t v σ H fun σ' H' => us.length = tgN ts ∧ tgGs w.K ts us σ' H' Q := tg_ok t h1 r1 er hi1 fun σ' er' ew => by
          obtain ⟨a, b⟩ := tgs_ok (Q := Q) ts h r2 er' hi2 fun σ2 er2 ew2 => q σ2 er2 (ew2.trans ew)
          exact ⟨a, b⟩
        refine ⟨?_, v, us, rfl, ?_⟩
        · obtain ⟨σ', er'⟩ := (show ∃ σ', ER w M rho H e1 σ' from er_after t h1 r1 er)
          show us.length + 1 = tgN ts + 1
          rw [hl er']
        · exact tg_ok t h1 r1 er hi1 fun σ' er' ew => (tgs_ok (Q := Q) ts h r2 er' hi2 fun σ2 er2 ew2 => q σ2 er2 (ew2.trans ew)).2
      · cases h
theorem er_after : ∀ (t : Tg) {x : PV} {v : V} {env e : En} {σ : L2.St}, tgM t x env = some e → VR w M rho H x v → ER w M rho H env σ → ∃ σ', ER w M rho H e σ'
  | .nm i, x, v, env, e, σ, h, rv, er => by
    unfold tgM at h
    cases h
    exact ⟨_, er.set rv i⟩
  | .tp ts, x, v, env, e, σ, h, rv, er => by
    unfold tgM at h
    cases rv <;> dsimp only at h <;> try cases h
    rename_i xs us a sq rs
    exact ers_after ts h rs er
theorem ers_after : ∀ (ts : Tgs) {xs : List PV} {us : List V} {env e : En} {σ : L2.St}, tgMs ts xs env = some e → VRs w M rho H xs us → ER w M rho H env σ → ∃ σ', ER w M rho H e σ'
  | .nil, xs, us, env, e, σ, h, rv, er => by
    cases rv with
    | nil => unfold tgMs at h; cases h; exact ⟨_, er⟩
    | cons _ _ => unfold tgMs at h; cases h
  | .cons t ts, xs, us, env, e, σ, h, rv, er => by
    cases rv with
    | nil => unfold tgMs at h; cases h
    | cons r1 r2 =>
      unfold tgMs at h
      split at h
      · rename_i e1 h1
        obtain ⟨σ', er'⟩ := er_after t h1 r1 er
        exact ers_after ts h r2 er'
      · cases h
end
end
end MC

end
section
set_option maxRecDepth 100000
set_option maxHeartbeats 4000000
namespace MC
open PySem PySem.Spec PyProof.Rows L2

def noX {α : Type} (r : R α) : R α := match r with
  | .ok a h => .ok a h
  | _ => .stuck
theorem Out.noX {w : Wo} {EX EX2 : XC} {M : Addr → Prop} {rho : List Addr} {H : Hp} {α : Type} {r : R α} {k : KC α} (o : Out w EX M rho H (MC.noX r) k) : Out w EX2 M rho H r k := by
  cases r with
  | ok a h => exact o
  | exc c fs h => exact (show False from o).elim
  | stuck => exact o
def wipeE : En → List Nat → En
  | e, [] => e
  | e, v :: vs => (wipeE e vs).set v none
theorem wipe_wipe (σ : L2.St) : ∀ vs : List Nat, wipe (wipe σ vs) vs = wipe σ vs := by
  have out : ∀ (vs : List Nat) (σ : L2.St) (i : Nat), (wipe (σ.set i none) vs).set i none = (wipe σ vs).set i none := by
    intro vs
    induction vs with
    | nil => intro σ i; show (σ.set i none).set i none = σ.set i none; rw [List.set_set]
    | cons u vs ih =>
      intro σ i
      show ((wipe (σ.set i none) vs).set u none).set i none = ((wipe σ vs).set u none).set i none
      by_cases h : u = i
      · subst h
        rw [ih σ u]
      · rw [List.set_comm _ _ h, ih σ i, List.set_comm _ _ (Ne.symm h)]
  intro vs
  induction vs generalizing σ with
  | nil => rfl
  | cons u vs ih =>
    show (wipe ((wipe σ vs).set u none) vs).set u none = (wipe σ vs).set u none
    rw [out, ih]
section
variable {w : Wo} {M M1 M2 : Addr → Prop} {rho rho1 rho2 : List Addr} {H H1 H2 H' : Hp} {h : PH} {D : Addr}
theorem ER.wipe {e : En} {σ : L2.St} (r : ER w M rho H e σ) : ∀ vs : List Nat, ER w M rho H (wipeE e vs) (wipe σ vs)
  | [] => r
  | v :: vs => (ER.wipe r vs).drop v none
/-- all but lists stands; what is M's stands -/
structure Off (M : Addr → Prop) (H H' : Hp) : Prop where
  pos : ∀ a u, H a = some u → (∀ l, u ≠ .lst l) → H' a = some u
  own : ∀ a, M a → H' a = H a
theorem Off.sqT (f : Off M H H') {K : PySem.W.Frag} {a : Addr} {vs : List V} (q : SqT K H a vs) : SqT K H' a vs := by
  rcases q with (q | ⟨o, q⟩) | q
  · exact .inl (.inl (f.pos a _ q fun _ e => nomatch e))
  · exact .inl (.inr ⟨o, f.pos a _ q fun _ e => nomatch e⟩)
  · exact .inr q
theorem Off.scr (f : Off M H H') {a : Addr} {vs : List V} (q : ScrL w M H a vs) : ScrL w M H' a vs := by
  rcases q with q | ⟨o, q, n⟩
  · exact .inl q
  · exact .inr ⟨o, f.pos a _ q (fun _ e => nomatch e), n⟩
mutual
theorem VR.off (f : Off M H H') : ∀ {x : PV} {v : V}, VR w M rho H x v → VR w M rho H' x v
  | _, _, .non => .non
  | _, _, .bl b => .bl b
  | _, _, .int i => .int i
  | _, _, .str s => .str s
  | _, _, .tup q s => .tup (f.sqT q) (VRs.off f s)
  | _, _, .scr q s => .scr (f.scr q) (VRs.off f s)
  | _, _, .rdic e n s => .rdic (f.pos _ _ e fun _ z => nomatch z) n (KRs.off f s)
  | _, _, .ins c e n s => .ins c (f.pos _ _ e fun _ z => nomatch z) n (FRs.off f s)
  | _, _, .ref e => .ref e
  | _, _, .gl e => .gl e
theorem VRs.off (f : Off M H H') : ∀ {xs : List PV} {vs : List V}, VRs w M rho H xs vs → VRs w M rho H' xs vs
  | _, _, .nil => .nil
  | _, _, .cons a b => .cons (VR.off f a) (VRs.off f b)
theorem FRs.off (f : Off M H H') : ∀ {fs : List (Nm × PV)} {gs : List (Str × V)}, FRs w M rho H fs gs → FRs w M rho H' fs gs
  | _, _, .nil => .nil
  | _, _, .cons a b => .cons (VR.off f a) (FRs.off f b)
theorem KRs.off (f : Off M H H') : ∀ {fs : List (PV × PV)} {gs : List (Key × V)}, KRs w M rho H fs gs → KRs w M rho H' fs gs
  | _, _, .nil => .nil
  | _, _, .cons k a b => .cons k (VR.off f a) (KRs.off f b)
end
theorem TRs.off (f : Off M H H') : ∀ {fs : List (PV × PV)} {gs : List (NestedKey × Addr × Value)}, TRs w M rho H fs gs → TRs w M rho H' fs gs
  | _, _, .nil => .nil
  | _, _, .cons k d a b c q => .cons k d (a.off f) (b.off f) c (TRs.off f q)
theorem OR.off (f : Off M H H') {a : Addr} (m : M a) {o : PO} (q : OR w M rho H a o) : OR w M rho H' a o := by
  have e := f.own a m
  cases o with
  | lst xs => obtain ⟨vs, p, s⟩ := q; exact ⟨vs, e.trans p, s.off f⟩
  | ins c fs => obtain ⟨C, dx, gs, p1, p, s⟩ := q; exact ⟨C, dx, gs, p1, e.trans p, s.off f⟩
  | dic lk kvs =>
    obtain ⟨ks, p, s⟩ := q
    refine ⟨ks, ?_, s.off f⟩
    cases lk with
    | false => exact e.trans p
    | true => obtain ⟨o, p⟩ := p; exact ⟨o, e.trans p⟩
  | dit lk kvs =>
    obtain ⟨ks, p, z1, z2, z3, s⟩ := q
    refine ⟨ks, ?_, z1, z2, z3, s.off f⟩
    cases lk with
    | false => exact e.trans p
    | true => obtain ⟨o, p⟩ := p; exact ⟨o, e.trans p⟩
theorem HR.off (f : Off M H H') (r : HR w M rho H h) : HR w M rho H' h where
  len := r.len
  nd := r.nd
  mem := r.mem
  live := fun b m => by rw [f.own b m]; exact r.live b m
  ob := fun n o q => by
    obtain ⟨a, ha, s⟩ := r.ob n o q
    exact ⟨a, ha, s.off f (r.mem a (List.mem_of_getElem? ha))⟩
theorem Off.upd {l : List V} {o : HO} (hD : H D = some (.lst l)) (n : ¬ M D) : Off M H (upd H D o) :=
  ⟨fun a u e z => by rw [upd_ne]; exact e; rintro rfl; rw [hD] at e; cases e; exact z l rfl, fun a m => upd_ne fun e => n (e ▸ m)⟩
theorem Off.hide {l : List V} (hD : H D = some (.lst l)) (n : ¬ M D) : Off M H (fun b => if b = D then none else H b) :=
  ⟨fun a u e z => by
    have : a ≠ D := by rintro rfl; rw [hD] at e; cases e; exact z l rfl
    show (if a = D then none else H a) = some u
    rw [if_neg this]; exact e, fun a m => if_neg fun (z : a = D) => n (by rw [← z]; exact m)⟩
theorem Step.late (st : Step M1 rho1 H1 M rho H) (n : H1 D = none) {o : HO} : Step M1 rho1 H1 M rho (upd H D o) where
  ext := st.ext
  mono := st.mono
  fresh := st.fresh
  new := st.new
  frame := fun b u hb e => by
    rw [upd_ne (ne_of_none e n)]
    exact st.frame b u hb e
  there := fun b e => by
    by_cases h : b = D
    · subst h; exact absurd n e
    · rw [upd_ne h]; exact st.there b e
  frz := fun b o u e => by
    rw [upd_ne (ne_of_none e n)]
    exact st.frz b o u e
/-- a list that stood apart comes to the heap's end -/
theorem take_lst {xs : List PV} {vs : List V} (st : Step M1 rho1 H1 M rho H) (n : H1 D = none) (hr : HR w M rho H h) (hD : H D = some (.lst vs)) (nD : ¬ M D) (r : VRs w M rho H xs vs) :
    Step M1 rho1 H1 (fun b => M b ∨ b = D) (rho ++ [D]) H ∧ HR w (fun b => M b ∨ b = D) (rho ++ [D]) H (h ++ [.lst xs]) ∧ VR w (fun b => M b ∨ b = D) (rho ++ [D]) H (.ref h.length) (.ref D) := by
  have f := Off.hide hD nD
  have e0 : upd (fun b => if b = D then none else H b) D (.lst vs) = H := by
    funext b
    unfold L2.upd
    by_cases h : b = D
    · rw [if_pos h, h, hD]
    · rw [if_neg h]; exact if_neg h
  have n0 : (fun b => if b = D then none else H b) D = none := if_pos rfl
  have hr0 := hr.off f
  have r0 := (r.off f).step (Step.alloc (o := .lst vs) n0) hr0
  have hr1 := hr0.alloc (o := .lst vs) n0 (po := .lst xs) ⟨vs, upd_same, r0⟩
  rw [e0] at hr1
  refine ⟨⟨fun i a e => ?_, fun b e => .inl (st.mono b e), fun b e => e.elim (st.fresh b) fun z => .inr (by rw [z]; exact n), fun b e => ?_, st.frame, st.there, st.frz⟩, hr1, .ref ?_⟩
  · have q := st.ext i a e
    rw [List.getElem?_append_left (List.getElem?_eq_some_iff.mp q).1]; exact q
  · rcases List.mem_append.mp e with z | z
    · exact st.new b z
    · rw [List.mem_singleton.mp z]; exact .inr n
  · rw [List.getElem?_append_right (by rw [hr.len]; exact Nat.le_refl _), hr.len, Nat.sub_self]
    rfl
end

def lcL (g : Tg) (t : MT) (m : ME) (wt : Wt) (e0 : En) : List PV → List PV → PH → R PV
  | [], acc, h => bif watch wt h then .ok (.ref h.length) (h ++ [.lst acc]) else .stuck
  | x :: xs, acc, h => bif watch wt h then (match tgM g x e0 with
    | some e => (noX (t e h)).bind fun b h1 => bif b then (noX (m e h1)).bind fun y h2 => bif decide (acc.length < LIM) then lcL g t m wt e0 xs (acc ++ [y]) h2 else .stuck else lcL g t m wt e0 xs acc h1
    | none => .stuck) else .stuck
def mLc (mi : MI) (g : Tg) (t : MT) (m : ME) (vs : List Nat) : ME := fun env h => (mi env h).bind fun p h1 => lcL g t m p.2 (wipeE env vs) p.1 [] h1
def mYes : MT := fun _ h => .ok true h
section
variable {w : Wo} {EX EX2 : XC} {X : Cx} {k : Nat} {tg iter elt : Expr} {ifs : List Expr} {scope : Scope} {own : List (Str × Nat)} {pos : Pos} {mi : MI} {g : Tg} {t : MT} {m : ME}
theorem mts_nil : PTs X [] (tT w EX mYes) := ⟨fun pins s σ H Q I h => by
  refine pts_nil.run pins s σ H Q I ?_
  obtain ⟨M, rho, env, h, er, hr, o⟩ := h
  exact o.now hr⟩
theorem lc_reads {vs : List Nat} {σ : L2.St} {H : Hp} {Q : VK} (hvs : (tgI g).all (vs.contains ·) = true) (hh : tM w EX (mLc mi g t m vs) σ H Q) : tLc (tI w EX mi) (tgG w.K g) (tT w EX2 t) (tM w EX2 m) vs σ H Q := by
  have hv : ∀ i ∈ tgI g, i ∈ vs := fun i hi => List.contains_iff_mem.mp (List.all_eq_true.mp hvs i hi)
  obtain ⟨M, rho, env, h, er, hr, o⟩ := hh
  refine ⟨M, rho, env, h, er, hr, (Out.bind o).imp fun p h1 M1 rho1 H1 st1 hr1 o1 J gv => ?_⟩
  obtain ⟨xs, wt⟩ := p
  intro D hD
  have erB : ER w M1 rho1 H1 (wipeE env vs) (wipe σ vs) := (er.step st1 hr).wipe vs
  have nD : ¬ M1 D := fun z => hr1.live D z hD
  refine ⟨fun i m' H' => m' = xs.length - i ∧ i ≤ xs.length ∧ ∃ M2 rho2 acc accV h2, Step M1 rho1 H1 M2 rho2 H' ∧ HR w M2 rho2 H' h2 ∧ H' D = some (.lst accV) ∧ ¬ M2 D ∧ VRs w M2 rho2 H' acc accV ∧ Out w EX M1 rho1 H1 (lcL g t m wt (wipeE env vs) (xs.drop i) acc h2) (KV w Q),
    ⟨xs.length, by simp, Nat.zero_le _, M1, rho1, [], [], h1, Step.grow (same_upd hD), hr1.grow (same_upd hD), upd_same, nD, .nil, o1⟩, ?_⟩
  rintro i m' H' ⟨rfl, hi, M2, rho2, acc, accV, h2, st2, hr2, hD2, nD2, ra, o2⟩
  by_cases hlt : i < xs.length
  · rw [List.drop_eq_getElem_cons hlt] at o2
    obtain ⟨hw, o3⟩ := Out.bif (show Out w EX M1 rho1 H1 (bif watch wt h2 then (match tgM g xs[i] (wipeE env vs) with
      | some e => (noX (t e h2)).bind fun b h1 => bif b then (noX (m e h1)).bind fun y h2 => bif decide (acc.length < LIM) then lcL g t m wt (wipeE env vs) (xs.drop (i + 1)) (acc ++ [y]) h2 else .stuck else lcL g t m wt (wipeE env vs) (xs.drop (i + 1)) acc h1
      | none => .stuck) else .stuck) (KV w Q) from o2)
    obtain ⟨g1, _, g3⟩ := gv.to st2 hr2 hw i
    refine .inr ⟨g1 hlt, fun H' => ∃ M2 rho2 acc accV h2, Step M1 rho1 H1 M2 rho2 H' ∧ HR w M2 rho2 H' h2 ∧ H' D = some (.lst accV) ∧ ¬ M2 D ∧ VRs w M2 rho2 H' acc accV ∧ Out w EX M1 rho1 H1 (lcL g t m wt (wipeE env vs) (xs.drop (i + 1)) acc h2) (KV w Q), fun H'' q => ⟨xs.length - (i + 1), by omega, rfl, hlt, q⟩, fun x H3 y => ?_⟩
    obtain ⟨k1, z, ez, rz⟩ := g3 x H3 hlt y
    rw [List.getElem?_eq_getElem hlt] at ez
    cases ez
    have stg : Step M2 rho2 H' M2 rho2 H3 := Step.grow k1
    have hr3 := hr2.grow k1
    have st3 := st2.trans stg
    split at o3
    · rename_i e he
      refine tg_ok g he rz (erB.step st3 hr1) hv fun σ2 er2 ew => ⟨by rw [ew, wipe_wipe], ?_⟩
      refine tT.of er2 hr3 (Out.noX ((Out.back o3).step st3)) fun b h4 M4 rho4 H4 st4 er4 hr4 o4 => ?_
      have stB := st3.trans st4
      have dr : ∀ {b}, b ∈ rho2 → M2 b := fun {b} hb => hr2.mem b hb
      have hD4 : H4 D = some (.lst accV) := st4.frame D _ (fun z => nD2 (dr z)) (k1 _ _ hD2)
      have nD4 : ¬ M4 D := st4.no (k1 _ _ hD2) nD2
      have ra4 := (ra.step stg hr2).step st4 hr3
      cases b with
      | false => exact iteF ⟨M4, rho4, acc, accV, h4, stB, hr4, hD4, nD4, ra4, o4⟩
      | true =>
        refine iteT (tM.of er4 hr4 (Out.noX ((Out.back (show Out w EX M1 rho1 H1 ((noX (m e h4)).bind fun y h2 => bif decide (acc.length < LIM) then lcL g t m wt (wipeE env vs) (xs.drop (i + 1)) (acc ++ [y]) h2 else .stuck) (KV w Q) from o4)).step stB)) fun y h5 M5 rho5 H5 u st5 er5 hr5 o5 ry => ?_)
        obtain ⟨hl, o6⟩ := Out.bif o5
        have stC := stB.trans st5
        have hD5 : H5 D = some (.lst accV) := st5.frame D _ (fun z => nD4 (hr4.mem D z)) hD4
        have nD5 : ¬ M5 D := st5.no hD4 nD4
        have ra5 := ra4.step st5 hr4
        have f := Off.upd (o := .lst (accV ++ [u])) hD5 nD5
        exact ⟨accV, hD5, by rw [ra5.length, lim_eq]; exact of_decide_eq_true hl, M5, rho5, acc ++ [y], accV ++ [u], h5, stC.late hD, hr5.off f, upd_same, nD5, (ra5.append (.cons ry .nil)).off f, o6⟩
    · exact (show False from o3).elim
  · have e : i = xs.length := by omega
    subst e
    rw [List.drop_length] at o2
    obtain ⟨hw, o3⟩ := Out.bif (show Out w EX M1 rho1 H1 (bif watch wt h2 then .ok (.ref h2.length) (h2 ++ [.lst acc]) else .stuck) (KV w Q) from o2)
    obtain ⟨_, g2, _⟩ := gv.to st2 hr2 hw xs.length
    obtain ⟨z1, z2, z3⟩ := take_lst st2 hD hr2 hD2 nD2 ra
    exact .inl ⟨g2 rfl, o3 _ _ _ z1 z2 _ z3⟩
theorem me_lc (C : Cxt w k X) (hN : X.N.Nodup) {vs : List Nat} (hi : PI X tg iter (tI w EX mi)) (ok : blkC X.N X.env.scope scope own = true)
    (hg : ∀ (s : Shared) (H : Hp) (A : Addr) (cl : List (Str × Addr)) (fp : List Addr), PG (X.blk s H scope (compEnvC scope cl A X.env) fp) tg (tgG w.K g)) (ht : ∀ (s : Shared) (H : Hp) (A : Addr) (cl : List (Str × Addr)) (fp : List Addr), Cxt w k (X.blk s H scope (compEnvC scope cl A X.env) fp) → PTs (X.blk s H scope (compEnvC scope cl A X.env) fp) ifs (tT w EX2 t))
    (he : ∀ (s : Shared) (H : Hp) (A : Addr) (cl : List (Str × Addr)) (fp : List Addr), Cxt w k (X.blk s H scope (compEnvC scope cl A X.env) fp) → PE (X.blk s H scope (compEnvC scope cl A X.env) fp) elt (tM w EX2 m)) (ev : own.map (·.2) = vs := by rfl) (hvs : (tgI g).all (vs.contains ·) = true := by rfl) (hs : ∀ x, foldedSetIterable iter X.env x = pure x := by intro _; rfl) :
    PE X (.ListComp elt [⟨tg, iter, ifs, 0⟩] scope pos) (tM w EX (mLc mi g t m vs)) := by
  subst ev
  exact PE.imp (pe_lc C.calm hN hi (blkOk_by ok) hg (fun s H A cl fp => ht s H A cl fp (C.blk ..)) (fun s H A cl fp => he s H A cl fp (C.blk ..)) hs) fun σ H Q h => lc_reads hvs h
/-- name = [..] on one line -/
theorem ms_setLc (C : Cxt w k X) (hN : X.N.Nodup) (i : Nat) {y : Str} {py : Pos} {spos : Pos} {vs : List Nat} (hy : X.N[i]? = some y) (hyl : X.env.scope.names.lookup y = some .local) (hsw : swapsWith (.ListComp elt [⟨tg, iter, ifs, 0⟩] scope pos) (some (.Name y py)) spos.line X.env = pure true)
    (hi : PI X tg iter (tI w EX mi)) (ok : blkC X.N X.env.scope scope own = true)
    (hg : ∀ (s : Shared) (H : Hp) (A : Addr) (cl : List (Str × Addr)) (fp : List Addr), PG (X.blk s H scope (compEnvC scope cl A X.env) fp) tg (tgG w.K g)) (ht : ∀ (s : Shared) (H : Hp) (A : Addr) (cl : List (Str × Addr)) (fp : List Addr), Cxt w k (X.blk s H scope (compEnvC scope cl A X.env) fp) → PTs (X.blk s H scope (compEnvC scope cl A X.env) fp) ifs (tT w EX2 t))
    (he : ∀ (s : Shared) (H : Hp) (A : Addr) (cl : List (Str × Addr)) (fp : List Addr), Cxt w k (X.blk s H scope (compEnvC scope cl A X.env) fp) → PE (X.blk s H scope (compEnvC scope cl A X.env) fp) elt (tM w EX2 m)) (ev : own.map (·.2) = vs := by rfl) (hvs : (tgI g).all (vs.contains ·) = true := by rfl) (hs : ∀ x, foldedSetIterable iter X.env x = pure x := by intro _; rfl) :
    PS X (.Assign [.Name y py] (.ListComp elt [⟨tg, iter, ifs, 0⟩] scope pos) spos) (tS w EX (mSet i (mLc mi g t m vs))) := by
  subst ev
  refine PS_imp (ps_setLc C.calm hN hy hyl hsw hi (blkOk_by ok) hg (fun s H A cl fp => ht s H A cl fp (C.blk ..)) (fun s H A cl fp => he s H A cl fp (C.blk ..)) hs) fun D s H hh => ?_
  obtain ⟨M, rho, env, h, er, hr, o⟩ := hh
  refine lc_reads (Q := fun x H1 => gName i x s H1 D.nx) hvs (tM.of er hr (Out.bind o) fun y h1 M1 rho1 H1 v st1 er1 hr1 o1 rv => ?_)
  exact o1.now hr1 _ (er1.set rv i)
end
end MC

end
section
set_option maxRecDepth 100000
set_option maxHeartbeats 4000000
namespace MC
open PySem PySem.Spec PyProof.Rows L2

section
variable {w : Wo} {EX : XC} {X : Cx} {k : Nat} {f : Value} {M : Addr → Prop} {rho : List Addr} {H : Hp} {h : PH}
theorem CallR.imp {r r' : List V → Hp → VK → Prop} (c : CallR X f r) (i : ∀ xs H Q, r' xs H Q → r xs H Q) : CallR X f r' := fun pins s σ H xs us Q I rv h => c pins s σ H xs us Q I rv (i xs H Q h)
theorem CallR.orI {r1 r2 r' : List V → Hp → VK → Prop} (c1 : CallR X f r1) (c2 : CallR X f r2) (i : ∀ xs H Q, r' xs H Q → r1 xs H Q ∨ r2 xs H Q) : CallR X f r' := CallR.imp (CallR.or c1 c2) i
/-- the items of a list, a tuple -/
def seqP (h : PH) : PV → Option (List PV)
  | .tup xs => some xs
  | .scr xs => some xs
  | .ref n => match h[n]? with
    | some (.lst xs) => some xs
    | _ => none
  | _ => none
theorem seq_ok (hr : HR w M rho H h) {x : PV} {v : V} {xs : List PV} (r : VR w M rho H x v) (e : seqP h x = some xs) : ∃ a vs, v = .ref a ∧ VRs w M rho H xs vs ∧ (SqL w.K H a vs ∨ (SqT w.K H a vs ∧ x = .tup xs)) := by
  cases r with
  | tup q s => cases e; exact ⟨_, _, rfl, s, .inr ⟨q, rfl⟩⟩
  | scr q s => cases e; exact ⟨_, _, rfl, s, .inl q.sq⟩
  | @ref n a ha =>
    simp only [seqP] at e
    split at e
    · rename_i ys e0
      cases e
      obtain ⟨a', ha', vs, q1, q2⟩ := hr.ob _ _ e0
      rw [ha] at ha'
      cases ha'
      exact ⟨a, vs, rfl, q2, .inl (.inl (.inl q1))⟩
    · cases e
  | _ => cases e
/-- an argument's reading -/
theorem rA1 {op : OC} {xs : List V} {Q : VK} {P : Prop} (hh : rA w EX op xs H Q) (i : ∀ M rho h (ps : List PV), HR w M rho H h → VRs w M rho H ps xs → Out w EX M rho H (op h ps) (MC.KV w Q) → P) : P := by
  obtain ⟨M, rho, h, ps, hr, rs, o⟩ := hh
  exact i M rho h ps hr rs o

def bLen : OC := fun h xs => match xs with
  | [x] => match x with
    | .str s => bif decide (s.length ≤ LIM) then .ok (.int s.length) h else .stuck
    | .rdic ks => .ok (.int ks.length) h
    | x => match seqP h x with
      | some ys => .ok (.int ys.length) h
      | none => match x with
        | .ref n => match h[n]? with
          | some (.dic false ks) => .ok (.int ks.length) h
          | _ => .stuck
        | _ => .stuck
  | _ => .stuck
theorem KRs.len {ks : List (PV × PV)} {gs : List (Key × V)} (r : KRs w M rho H ks gs) : gs.length = ks.length := (KRs.at r).1.symm
def bInt : OC := fun h xs => match xs with
    | [.int i] => .ok (.int i) h
    | [.bl b] => .ok (.int (bif b then 1 else 0)) h
    | _ => .stuck
theorem b_int (C : Cxt w k X) : CallR X (.type "int") (rA w EX bInt) := by
  refine CallR.imp call_int1 fun xs H Q hh => rA1 hh fun M rho h ps hr rs o => ?_
  unfold bInt at o
  split at o
  · cases rs with
    | cons a b => cases a; cases b; exact .inl ⟨_, rfl, o.now hr _ (.int _)⟩
  · rename_i b
    cases rs with
    | cons a c => cases a; cases c; refine .inr ⟨_, rfl, o.now hr _ ?_⟩; cases b <;> exact .int _
  · exact (show False from o).elim
def bAbs : OC := fun h xs => match xs with
    | [.int i] => .ok (.int (if i < 0 then -i else i)) h
    | _ => .stuck
theorem b_abs : CallR X (.builtin "abs") (rA w EX bAbs) := by
  refine CallR.imp call_abs fun xs H Q hh => rA1 hh fun M rho h ps hr rs o => ?_
  unfold bAbs at o
  split at o
  · cases rs with
    | cons a b => cases a; cases b; exact ⟨_, rfl, o.now hr _ (.int _)⟩
  · exact (show False from o).elim
def B30 : Int := 1073741824
def bDivmod : OC := fun h xs => match xs with
    | [.int i, .int j] => bif decide (0 < j) && decide (j < B30) then .ok (.tup [.int (i / j), .int (i % j)]) h else .stuck
    | _ => .stuck
theorem b_divmod : CallR X (.builtin "divmod") (rA w EX bDivmod) := by
  refine CallR.imp call_divmod fun xs H Q hh => rA1 hh fun M rho h ps hr rs o => ?_
  unfold bDivmod at o
  split at o
  · obtain ⟨hj, o⟩ := Out.bif o
    rw [Bool.and_eq_true, decide_eq_true_eq, decide_eq_true_eq] at hj
    cases rs with
    | cons a b => cases b with
      | cons b c => cases a; cases b; cases c; exact ⟨_, _, rfl, hj, KV.tup hr o (.cons (.int _) (.cons (.int _) .nil))⟩
  · exact (show False from o).elim
def bMax2 : OC := fun h xs => match xs with
    | [.int i, .int j] => .ok (.int (if j > i then j else i)) h
    | _ => .stuck
theorem b_max2 (C : Cxt w k X) : CallR X (.builtin "max") (rA w EX bMax2) := by
  refine CallR.imp (call_max2 C.calm) fun xs H Q hh => rA1 hh fun M rho h ps hr rs o => ?_
  unfold bMax2 at o
  split at o
  · cases rs with
    | cons a b => cases b with
      | cons b c => cases a; cases b; cases c; exact ⟨_, _, rfl, o.now hr _ (.int _)⟩
  · exact (show False from o).elim
def bMin2 : OC := fun h xs => match xs with
    | [.int i, .int j] => .ok (.int (if j < i then j else i)) h
    | _ => .stuck
theorem b_min2 (C : Cxt w k X) : CallR X (.builtin "min") (rA w EX bMin2) := by
  refine CallR.imp (call_min2 C.calm) fun xs H Q hh => rA1 hh fun M rho h ps hr rs o => ?_
  unfold bMin2 at o
  split at o
  · cases rs with
    | cons a b => cases b with
      | cons b c => cases a; cases b; cases c; exact ⟨_, _, rfl, o.now hr _ (.int _)⟩
  · exact (show False from o).elim
theorem call_lenR : CallR X (.builtin "len") (fun xs H Q => ∃ a kvs, xs = [V.ref a] ∧ Rd H a (.dK kvs) ∧ Q (.int kvs.length) H) := by
  intro pins s σ H xs us Q I r h
  obtain ⟨a, kvs, rfl, ha, q⟩ := h
  obtain ⟨u, rfl, ru⟩ := vals1 r
  cases ru
  exact d_len I ha fun t s' I' => ⟨.int kvs.length, H, I', ⟨t, rfl⟩, q⟩
theorem vrs1 {x : PV} {xs : List V} (r : VRs w M rho H [x] xs) : ∃ v, xs = [v] ∧ VR w M rho H x v := by
  cases r with
  | cons a b => cases b; exact ⟨_, rfl, a⟩
theorem OR.dic {lk : Bool} {ks : List (PV × PV)} {a : Addr} (q : OR w M rho H a (.dic lk ks)) : ∃ gs, Rd H a (.dK gs) ∧ KRs w M rho H ks gs := by
  obtain ⟨gs, q1, q2⟩ := q
  refine ⟨gs, ?_, q2⟩
  cases lk with
  | false => exact .inl q1
  | true => obtain ⟨o, q1⟩ := q1; exact .inr ⟨o, q1⟩
theorem b_len (C : Cxt w k X) : CallR X (.builtin "len") (rA w EX bLen) := by
  refine CallR.orI call_len call_lenR fun xs H Q hh => rA1 hh fun M rho h ps hr rs o => ?_
  have seqc : ∀ {x : PV} {v : V} {ys : List PV}, VR w M rho H x v → seqP h x = some ys → Out w EX M rho H (.ok (.int ys.length) h) (MC.KV w Q) → ∃ x n, [v] = [x] ∧ LenV X.K x H n ∧ Q (.int n) H := fun {x v ys} rv e o => by
    obtain ⟨a, vs, rfl, rs, q⟩ := seq_ok hr rv e
    refine ⟨_, vs.length, rfl, ?_, by rw [rs.length]; exact o.now hr _ (.int _)⟩
    rw [C.hK]
    rcases q with q | ⟨q, _⟩
    · exact .inl ⟨vs, q, rfl⟩
    · exact .inr ⟨vs, q, rfl⟩
  unfold bLen at o
  split at o
  · rename_i x
    obtain ⟨v, rfl, rv⟩ := vrs1 rs
    split at o
    · rename_i s
      obtain ⟨hl, o⟩ := Out.bif o
      cases rv
      refine .inl ⟨_, s.length, rfl, ⟨?_, ?_⟩, o.now hr _ (.int _)⟩
      · show (S s).length ≤ _; rw [S_len, lim_eq]; exact of_decide_eq_true hl
      · show _ = (S s).length; rw [S_len]
    · rename_i ks
      cases rv with
      | rdic e n rk => exact .inr ⟨_, _, rfl, .inr ⟨_, e⟩, by rw [rk.len]; exact o.now hr _ (.int _)⟩
    · split at o
      · rename_i ys e
        exact .inl (seqc rv e o)
      · split at o
        · rename_i n _
          split at o
          · rename_i ks e0
            cases rv with
            | ref ha =>
              obtain ⟨a', ha', q⟩ := hr.ob _ _ e0
              rw [ha] at ha'
              cases ha'
              obtain ⟨gs, q1, q2⟩ := q.dic
              exact .inr ⟨_, gs, rfl, q1, by rw [q2.len]; exact o.now hr _ (.int _)⟩
          · exact (show False from o).elim
        · exact (show False from o).elim
  · exact (show False from o).elim
def bTuple : OC := fun h xs => match xs with
  | [x] => match seqP h x with
    | some ys => .ok (.tup ys) h
    | none => .stuck
  | _ => .stuck
theorem b_tuple (C : Cxt w k X) : CallR X (.type "tuple") (rA w EX bTuple) := by
  refine CallR.imp call_tuple_of fun xs H Q hh => rA1 hh fun M rho h ps hr rs o => ?_
  unfold bTuple at o
  split at o
  · rename_i x
    obtain ⟨v, rfl, rv⟩ := vrs1 rs
    split at o
    · rename_i ys e
      obtain ⟨a, vs, rfl, rs, q⟩ := seq_ok hr rv e
      rw [C.hK]
      rcases q with q | ⟨q, ex⟩
      · exact ⟨a, vs, rfl, .inl ⟨q, KV.tup hr o rs⟩⟩
      · subst ex
        exact ⟨a, vs, rfl, .inr ⟨q, o.now hr _ rv⟩⟩
    · exact (show False from o).elim
  · exact (show False from o).elim
def bList : OC := fun h xs => match xs with
  | [x] => match seqP h x with
    | some ys => .ok (.ref h.length) (h ++ [.lst ys])
    | none => .stuck
  | _ => .stuck
theorem b_list (C : Cxt w k X) : CallR X (.type "list") (rA w EX bList) := by
  refine CallR.imp call_list_of fun xs H Q hh => rA1 hh fun M rho h ps hr rs o => ?_
  unfold bList at o
  split at o
  · rename_i x
    obtain ⟨v, rfl, rv⟩ := vrs1 rs
    split at o
    · rename_i ys e
      obtain ⟨a, vs, rfl, rs, q⟩ := seq_ok hr rv e
      rw [C.hK]
      refine ⟨a, vs, rfl, ?_, KV.lst hr o rs⟩
      rcases q with q | ⟨q, _⟩
      · exact .inl q
      · exact .inr q
    · exact (show False from o).elim
  · exact (show False from o).elim
/-- all bools, all ints, all texts -/
def blsP : List PV → Option (List Bool)
  | [] => some []
  | .bl b :: r => match blsP r with
    | some bs => some (b :: bs)
    | none => none
  | _ => none
def intsP : List PV → Option (List Int)
  | [] => some []
  | .int b :: r => match intsP r with
    | some bs => some (b :: bs)
    | none => none
  | _ => none
def strsP : List PV → Option (List (List Nat))
  | [] => some []
  | .str b :: r => match strsP r with
    | some bs => some (b :: bs)
    | none => none
  | _ => none
theorem bls_ok : ∀ {xs : List PV} {vs : List V} {bs : List Bool}, VRs w M rho H xs vs → blsP xs = some bs → vs = bs.map V.bl
  | _, _, _, .nil, e => by cases e; rfl
  | _, _, _, .cons a b, e => by
    cases a <;> simp only [blsP, reduceCtorEq] at e
    split at e
    · rename_i bs e2
      cases e
      rw [bls_ok b e2]; rfl
    · cases e
theorem ints_ok : ∀ {xs : List PV} {vs : List V} {bs : List Int}, VRs w M rho H xs vs → intsP xs = some bs → vs = bs.map V.int
  | _, _, _, .nil, e => by cases e; rfl
  | _, _, _, .cons a b, e => by
    cases a <;> simp only [intsP, reduceCtorEq] at e
    split at e
    · rename_i bs e2
      cases e
      rw [ints_ok b e2]; rfl
    · cases e
theorem strs_ok : ∀ {xs : List PV} {vs : List V} {bs : List (List Nat)}, VRs w M rho H xs vs → strsP xs = some bs → vs = (bs.map S).map V.str
  | _, _, _, .nil, e => by cases e; rfl
  | _, _, _, .cons a b, e => by
    cases a <;> simp only [strsP, reduceCtorEq] at e
    split at e
    · rename_i bs e2
      cases e
      rw [strs_ok b e2]; rfl
    · cases e
/-- a list (no tuple) of bools, of ints -/
def lstP (h : PH) : PV → Option (List PV)
  | .scr xs => some xs
  | .ref n => match h[n]? with
    | some (.lst xs) => some xs
    | _ => none
  | _ => none
theorem lst_ok (hr : HR w M rho H h) {x : PV} {v : V} {xs : List PV} (r : VR w M rho H x v) (e : lstP h x = some xs) : ∃ a vs, v = .ref a ∧ VRs w M rho H xs vs ∧ SqL w.K H a vs := by
  cases r with
  | scr q s => cases e; exact ⟨_, _, rfl, s, q.sq⟩
  | @ref n a ha =>
    simp only [lstP] at e
    split at e
    · rename_i ys e0
      cases e
      obtain ⟨a', ha', vs, q1, q2⟩ := hr.ob _ _ e0
      rw [ha] at ha'
      cases ha'
      exact ⟨a, vs, rfl, q2, .inl (.inl q1)⟩
    · cases e
  | _ => cases e
def bAll : OC := fun h xs => match xs with
  | [x] => match lstP h x with
    | some ys => match blsP ys with
      | some bs => .ok (.bl (bs.all id)) h
      | none => .stuck
    | none => .stuck
  | _ => .stuck
def bAny : OC := fun h xs => match xs with
  | [x] => match lstP h x with
    | some ys => match blsP ys with
      | some bs => .ok (.bl (bs.any id)) h
      | none => .stuck
    | none => .stuck
  | _ => .stuck
def bSum : OC := fun h xs => match xs with
  | [x] => match lstP h x with
    | some ys => match intsP ys with
      | some bs => .ok (.int bs.sum) h
      | none => .stuck
    | none => .stuck
  | _ => .stuck
theorem b_all (C : Cxt w k X) : CallR X (.builtin "all") (rA w EX bAll) := by
  refine CallR.imp (cr_all C.calm) fun xs H Q hh => rA1 hh fun M rho h ps hr rs o => ?_
  unfold bAll at o
  split at o
  · rename_i x
    obtain ⟨v, rfl, rv⟩ := vrs1 rs
    split at o
    · rename_i ys e
      obtain ⟨a, vs, rfl, rs, q⟩ := lst_ok hr rv e
      split at o
      · rename_i bs e2
        exact ⟨a, bs, rfl, by rw [C.hK, ← bls_ok rs e2]; exact q, o.now hr _ (.bl _)⟩
      · exact (show False from o).elim
    · exact (show False from o).elim
  · exact (show False from o).elim
theorem b_any (C : Cxt w k X) : CallR X (.builtin "any") (rA w EX bAny) := by
  refine CallR.imp (cr_any C.calm) fun xs H Q hh => rA1 hh fun M rho h ps hr rs o => ?_
  unfold bAny at o
  split at o
  · rename_i x
    obtain ⟨v, rfl, rv⟩ := vrs1 rs
    split at o
    · rename_i ys e
      obtain ⟨a, vs, rfl, rs, q⟩ := lst_ok hr rv e
      split at o
      · rename_i bs e2
        exact ⟨a, bs, rfl, by rw [C.hK, ← bls_ok rs e2]; exact q, o.now hr _ (.bl _)⟩
      · exact (show False from o).elim
    · exact (show False from o).elim
  · exact (show False from o).elim
theorem b_sum (C : Cxt w k X) : CallR X (.builtin "sum") (rA w EX bSum) := by
  refine CallR.imp (cr_sum C.calm) fun xs H Q hh => rA1 hh fun M rho h ps hr rs o => ?_
  unfold bSum at o
  split at o
  · rename_i x
    obtain ⟨v, rfl, rv⟩ := vrs1 rs
    split at o
    · rename_i ys e
      obtain ⟨a, vs, rfl, rs, q⟩ := lst_ok hr rv e
      split at o
      · rename_i bs e2
        exact ⟨a, bs, rfl, by rw [C.hK, ← ints_ok rs e2]; exact q, o.now hr _ (.int _)⟩
      · exact (show False from o).elim
    · exact (show False from o).elim
  · exact (show False from o).elim
end

/-- the kinds of values: 0 None, 1 bool, 2 int, 3 str, 4 tuple, 5 list, 6 dict -/
def kindN : Nat → String
  | 0 => "NoneType"
  | 1 => "bool"
  | 2 => "int"
  | 3 => "str"
  | 4 => "tuple"
  | 5 => "list"
  | _ => "dict"
def kindP (h : PH) : PV → Option (Nat ⊕ Nat)
  | .non => some (.inl 0)
  | .bl _ => some (.inl 1)
  | .int _ => some (.inl 2)
  | .str _ => some (.inl 3)
  | .tup _ => some (.inl 4)
  | .scr _ => some (.inl 5)
  | .rdic _ => some (.inl 6)
  | .ins c _ => some (.inr c)
  | .ref n => match h[n]? with
    | some (.lst _) => some (.inl 5)
    | some (.dic _ _) => some (.inl 6)
    | some (.ins c _) => some (.inr c)
    | some (.dit _ _) => none
    | none => none
  | .gl _ => none
/-- what isinstance says of a kind, by the tables tb (kinds) and cs (classes) -/
def isiT (tb cs : List (Nat × Bool)) : Nat ⊕ Nat → Option Bool
  | .inl n => tb.lookup n
  | .inr n => cs.lookup n
def mIsi (tb cs : List (Nat × Bool)) (m : ME) : ME := fun env h => (m env h).bind fun x h1 => match kindP h1 x with
  | some k => match isiT tb cs k with
    | some b => .ok (.bl b) h1
    | none => .stuck
  | none => .stuck
/-- what is known of a class for isinstance -/
structure ClsI (K : PySem.W.Frag) (C : Addr) : Prop where
  cl : Cls K C
  ha : PySem.W.findIn K (.ref C) "__class__" = some (some (.builtin "object.__class__"))
  hn : PySem.W.specialIn K (.builtin "object.__class__") "__get__" = some (some (.builtin "getset_descriptor.__get__"))
  htk : PySem.W.takesIn K (.builtin "object.__class__") = some true
  hm : PySem.W.mroIn K C (.type "object") = some true
/-- the tables are right -/
structure IsiOk (w : Wo) (u : Value) (tb cs : List (Nat × Bool)) : Prop where
  ty : ∀ p ∈ tb, PySem.W.kitOne w.K (.type (kindN p.1)) u = some p.2
  own : ∀ p ∈ cs, ∀ C, w.cl p.1 = some C → ClsI w.K C ∧ PySem.W.kitOne w.K (.ref C) u = some p.2
theorem lookup_mem {α : Type} {n : Nat} {b : α} : ∀ {l : List (Nat × α)}, l.lookup n = some b → (n, b) ∈ l
  | [], e => by cases e
  | (m, c) :: r, e => by
    rw [List.lookup_cons] at e
    cases q : n == m with
    | true => rw [q] at e; cases e; rw [beq_iff_eq.mp q]; exact List.mem_cons_self
    | false => rw [q] at e; exact List.mem_cons_of_mem _ (lookup_mem e)
section
variable {w : Wo} {EX : XC} {X : Cx} {k : Nat} {e c : Expr} {m : ME} {p pos : Pos} {M : Addr → Prop} {rho : List Addr} {H : Hp} {h : PH}
theorem kind_ok (hr : HR w M rho H h) {x : PV} {v : V} (r : VR w M rho H x v) {q : Nat ⊕ Nat} (ek : kindP h x = some q) : (∃ n, q = .inl n ∧ TyX w.K H v (.type (kindN n))) ∨ ∃ n C, q = .inr n ∧ w.cl n = some C ∧ (ClsI w.K C → TyX w.K H v (.ref C)) := by
  cases r with
  | non => cases ek; exact .inl ⟨0, rfl, .base .non⟩
  | bl b => cases ek; exact .inl ⟨1, rfl, .base (.bl b)⟩
  | int i => cases ek; exact .inl ⟨2, rfl, .base (.int i)⟩
  | str s => cases ek; exact .inl ⟨3, rfl, .base (.str _)⟩
  | tup s _ =>
    cases ek
    refine .inl ⟨4, rfl, ?_⟩
    rcases s with (s | ⟨o, s⟩) | ⟨o, its, n, s, c, _⟩
    · exact .base (.tup s)
    · exact .fTuple s
    · exact .kTuple s c
  | scr s _ =>
    cases ek
    refine .inl ⟨5, rfl, ?_⟩
    rcases s with ⟨o, its, n, s, c, _⟩ | ⟨o, s, _⟩
    · exact .kList s c
    · exact .base (.frz s)
  | rdic e n _ => cases ek; exact .inl ⟨6, rfl, .fDict e⟩
  | ins c e n _ =>
    cases ek
    exact .inr ⟨_, _, rfl, c, fun ci => .base (.ins e ci.cl ci.ha ci.hn ci.htk ci.hm)⟩
  | ref ha =>
    simp only [kindP] at ek
    split at ek
    · rename_i e0
      cases ek
      obtain ⟨a', ha', vs, q1, q2⟩ := hr.ob _ _ e0
      rw [ha] at ha'; cases ha'
      exact .inl ⟨5, rfl, .base (.lst q1)⟩
    · rename_i e0
      cases ek
      obtain ⟨a', ha', q⟩ := hr.ob _ _ e0
      rw [ha] at ha'; cases ha'
      obtain ⟨gs, q1, _⟩ := q.dic
      rcases q1 with q1 | ⟨o, q1⟩
      · exact .inl ⟨6, rfl, .base (.dK q1)⟩
      · exact .inl ⟨6, rfl, .fDict q1⟩
    · rename_i e0
      cases ek
      obtain ⟨a', ha', C, dx, gs, c, q1, q2⟩ := hr.ob _ _ e0
      rw [ha] at ha'; cases ha'
      exact .inr ⟨_, _, rfl, c, fun ci => .base (.ins q1 ci.cl ci.ha ci.hn ci.htk ci.hm)⟩
    · cases ek
    · cases ek
  | gl _ => cases ek
theorem isi_reads {u : Value} {cv : V} {tb cs : List (Nat × Bool)} (C : Cxt w k X) (B : IsiOk w u tb cs) (kc : ClsV cv u) {σ : L2.St} {Q : VK} (hh : tM w EX (mIsi tb cs m) σ H Q) : tCB (rIsi X.K) (tCons (tM w EX m) (tCons (tC cv) tNil)) σ H Q := by
  obtain ⟨M, rho, env, h, er, hr, o⟩ := hh
  refine tM.of er hr (Out.bind o) fun x h1 M1 rho1 H1 v st1 er1 hr1 o1 rv => ?_
  split at o1
  · rename_i kd ek
    split at o1
    · rename_i b eb
      have q := o1.now hr1 _ (.bl b)
      rcases kind_ok hr1 rv ek with ⟨n, rfl, ty⟩ | ⟨n, A, rfl, hA, ty⟩
      · have z := B.ty _ (lookup_mem (show tb.lookup n = some b from eb))
        exact ⟨v, cv, _, u, b, rfl, kc, by rw [C.hK]; exact ty, by rw [C.hK]; exact z, q⟩
      · obtain ⟨ci, z⟩ := B.own _ (lookup_mem (show cs.lookup n = some b from eb)) A hA
        exact ⟨v, cv, _, u, b, rfl, kc, by rw [C.hK]; exact ty ci, by rw [C.hK]; exact z, q⟩
    · exact (show False from o1).elim
  · exact (show False from o1).elim
/-- isinstance(e, T), T a builtin type -/
theorem me_isiT {x : Str} {T : String} {p1 p2 : Pos} {tb cs : List (Nat × Bool)} (C : Cxt w k X) (B : IsiOk w (.type T) tb cs) (he : PE X e (tM w EX m)) (hg : Gl X "isinstance") (hm : X.mg "isinstance" = none) (hg2 : Gl X x) (hm2 : X.mg x = none) (hv2 : bootBuiltins x = some (.type T)) (hn2 : x ≠ "__name__" := by decide) (hd2 : (x == ("__debug__" : Str)) = false := by decide)
    (hs : starEach [e, .Name x p2] X.env = (false, eval e X.env) :: starEach [.Name x p2] X.env := by rfl) (hs2 : starEach [.Name x p2] X.env = (false, eval (.Name x p2) X.env) :: starEach [] X.env := by rfl) (hpl : (backTo pos (starEach [.Name x p2] X.env)).any (·.1) = false := by rfl) :
    PE X (.Call (.Name "isinstance" p1) [e, .Name x p2] [] pos) (tM w EX (mIsi tb cs m)) :=
  PE.imp (pe_callB call_isi hg hm (by decide +kernel) (pa_cons he (pa_cons (pe_bltn (v := .ty T) hg2 hm2 hv2 rfl hn2 hd2) pa_nil hs2) hs) (by decide) (by decide) hs hpl) fun σ H Q h => isi_reads C B (.ty T) h
/-- isinstance(e, C), C an own class -/
theorem me_isiC {x : Str} {A : Addr} {p1 p2 : Pos} {tb cs : List (Nat × Bool)} (C : Cxt w k X) (B : IsiOk w (.ref A) tb cs) (he : PE X e (tM w EX m)) (hg : Gl X "isinstance") (hm : X.mg "isinstance" = none) (hg2 : Gl X x) (hm2 : X.mg x = some (.ref A)) (hd2 : (x == ("__debug__" : Str)) = false := by decide)
    (hs : starEach [e, .Name x p2] X.env = (false, eval e X.env) :: starEach [.Name x p2] X.env := by rfl) (hs2 : starEach [.Name x p2] X.env = (false, eval (.Name x p2) X.env) :: starEach [] X.env := by rfl) (hpl : (backTo pos (starEach [.Name x p2] X.env)).any (·.1) = false := by rfl) :
    PE X (.Call (.Name "isinstance" p1) [e, .Name x p2] [] pos) (tM w EX (mIsi tb cs m)) :=
  PE.imp (pe_callB call_isi hg hm (by decide +kernel) (pa_cons he (pa_cons (pe_glob (v := .ref A) hg2 hm2 rfl hd2) pa_nil hs2) hs) (by decide) (by decide) hs hpl) fun σ H Q h => isi_reads C B (.own A) h
end
end MC

end
section
set_option maxRecDepth 100000
set_option maxHeartbeats 4000000
namespace MC
open PySem PySem.Spec PyProof.Rows L2

/-- the receiver's kind: 0 text, 1 list -/
def isTy (h : PH) : Nat → PV → Bool
  | 0, .str _ => true
  | 1, x => (lstP h x).isSome
  | _, _ => false
def tyNm : Nat → String
  | 0 => "str"
  | _ => "list"
def mBM (ty : Nat) (op : OC) (mo : ME) (ma : MA) : ME := fun env h => (mo env h).bind fun x h1 => bif isTy h1 ty x then (ma env h1).bind fun xs h2 => op h2 (x :: xs) else .stuck
def rM (w : Wo) (EX : XC) (op : OC) : V → List V → Hp → VK → Prop := fun x xs H Q => ∃ M rho h px ps, HR w M rho H h ∧ VR w M rho H px x ∧ VRs w M rho H ps xs ∧ Out w EX M rho H (op h (px :: ps)) (MC.KV w Q)
section
variable {w : Wo} {EX : XC} {X : Cx} {k : Nat} {M : Addr → Prop} {rho : List Addr} {H : Hp} {h : PH}
theorem isTy_ok {K : PySem.W.Frag} (hK : K = w.K) (hr : HR w M rho H h) {ty : Nat} {x : PV} {v : V} (r : VR w M rho H x v) (e : isTy h ty x = true) : tyV K (tyNm ty) v H := by
  subst hK
  match ty with
  | 0 =>
    cases r <;> first
      | exact (show "str" = "str" from rfl)
      | (exact absurd e (by simp [isTy]))
  | 1 =>
    obtain ⟨xs, ex⟩ := Option.isSome_iff_exists.mp (show (lstP h x).isSome = true by cases x <;> exact e)
    obtain ⟨a, vs, rfl, rs, q⟩ := lst_ok hr r ex
    exact .inl ⟨rfl, vs, q⟩
  | n + 2 => exact absurd e (by simp [isTy])
variable {o e : Expr} {es : List Expr} {mo : ME} {ma : MA} {name : Str} {apos cpos : Pos} {id : String} {op : OC}
theorem me_bm (C : Cxt w k X) (ty : Nat) (pa : PlainAttrs (tyNm ty)) (slot : Slot (tyNm ty) name id) (hty : typeOf (.builtin id) = pure (.type "method_descriptor")) (hm : MtR X id (rM w EX op)) (ho : PE X o (tM w EX mo)) (ha : PA X (e :: es) (tA w EX ma))
    (hbase : attributeBase o name X.env (eval o X.env) = eval o X.env := by rfl)
    (hfew : ((backTo cpos (starEach (e :: es) X.env)).all (fun x => !x.1) && (backToKw cpos (keywordEach [] X.env)).all (fun x => x.1.isSome)
      && decide ((e :: es).length + ([] : List Keyword).length + (if ([] : List Keyword).isEmpty then 0 else 1) < 30)) = true := by rfl)
    (hline : (apos.endLine == cpos.line) = true := by rfl) (hs : starEach (e :: es) X.env = (false, eval e X.env) :: starEach es X.env := by rfl) (hplain : (backTo cpos (starEach es X.env)).any (·.1) = false := by rfl) :
    PE X (.Call (.Attribute o name apos) (e :: es) [] cpos) (tM w EX (mBM ty op mo ma)) := by
  refine PE.imp (pe_bm pa slot hty hm ho ha hbase hfew hline hs hplain) fun σ H Q hh => ?_
  obtain ⟨M, rho, env, h, er, hr, oo⟩ := hh
  refine tM.of er hr (Out.bind oo) fun x h1 M1 rho1 H1 v st1 er1 hr1 o1 rv => ?_
  obtain ⟨ht, o1⟩ := Out.bif o1
  refine ⟨isTy_ok C.hK hr1 rv ht, tA.of er1 hr1 (Out.bind o1) fun xs h2 M2 rho2 H2 vs st2 er2 hr2 o2 rs => ?_⟩
  exact ⟨M2, rho2, h2, x, xs, hr2, rv.step st2 hr1, rs, o2⟩
theorem me_bm0 (C : Cxt w k X) (ty : Nat) (pa : PlainAttrs (tyNm ty)) (slot : Slot (tyNm ty) name id) (hty : typeOf (.builtin id) = pure (.type "method_descriptor")) (hm : MtR X id (rM w EX op)) (ho : PE X o (tM w EX mo))
    (hbase : attributeBase o name X.env (eval o X.env) = eval o X.env := by rfl) (hline : (apos.endLine == cpos.line) = true := by rfl) : PE X (.Call (.Attribute o name apos) [] [] cpos) (tM w EX (mBM ty op mo maNil)) := by
  refine PE.imp (pe_bm0 pa slot hty hm ho hbase hline) fun σ H Q hh => ?_
  obtain ⟨M, rho, env, h, er, hr, oo⟩ := hh
  refine tM.of er hr (Out.bind oo) fun x h1 M1 rho1 H1 v st1 er1 hr1 o1 rv => ?_
  obtain ⟨ht, o1⟩ := Out.bif o1
  exact ⟨isTy_ok C.hK hr1 rv ht, M1, rho1, h1, x, [], hr1, rv, .nil, o1⟩
theorem MtR.imp {r r' : V → List V → Hp → VK → Prop} (c : MtR X id r) (i : ∀ x xs H Q, r' x xs H Q → r x xs H Q) : MtR X id r' := fun pins s σ H x xs v us Q I rx rs h => c pins s σ H x xs v us Q I rx rs (i x xs H Q h)
theorem vrs0 {xs : List V} (r : VRs w M rho H [] xs) : xs = [] := by cases r; rfl
theorem vrs2 {x y : PV} {xs : List V} (r : VRs w M rho H [x, y] xs) : ∃ v u, xs = [v, u] ∧ VR w M rho H x v ∧ VR w M rho H y u := by
  cases r with
  | cons a b => cases b with
    | cons b c => cases c; exact ⟨_, _, rfl, a, b⟩
/-- the n-th object, a list, written -/
theorem KV.put {x : PV} {v : V} {n : Nat} {a : Addr} {xs : List PV} {vs : List V} {Q : VK} (hr : HR w M rho H h) (ha : rho[n]? = some a) {os : List PV} (h0 : h[n]? = some (.lst os)) (o : Out w EX M rho H (.ok x (h.set n (.lst xs))) (MC.KV w Q)) (rv : VR w M rho H x v) (r : VRs w M rho H xs vs) : Q v (upd H a (.lst vs)) := by
  have nf : ∀ p u, H a ≠ some (.frz p u) := fun p u z => by
    obtain ⟨a', ha', us, q1, _⟩ := hr.ob _ _ h0
    rw [ha] at ha'
    cases ha'
    rw [z] at q1
    cases q1
  have st := Step.write hr (o := .lst vs) ha nf
  exact o _ _ _ st (hr.write ha nf ⟨vs, upd_same, r.step st hr⟩) _ (rv.step st hr)
def oAppend : OC := fun h xs => match xs with
  | [.ref n, y] => match h[n]? with
    | some (.lst ys) => bif decide (ys.length < LIM) then .ok .non (h.set n (.lst (ys ++ [y]))) else .stuck
    | _ => .stuck
  | _ => .stuck
theorem ref_lst (hr : HR w M rho H h) {n : Nat} {v : V} {ys : List PV} (r : VR w M rho H (.ref n) v) (e : h[n]? = some (.lst ys)) : ∃ a vs, v = .ref a ∧ rho[n]? = some a ∧ H a = some (.lst vs) ∧ VRs w M rho H ys vs := by
  cases r with
  | ref ha =>
    obtain ⟨a', ha', vs, q1, q2⟩ := hr.ob _ _ e
    rw [ha] at ha'
    cases ha'
    exact ⟨_, vs, rfl, ha, q1, q2⟩
theorem o_append : MtR X "list.append" (rM w EX oAppend) := by
  refine MtR.imp mt_append fun x xs H Q hh => ?_
  obtain ⟨M, rho, h, px, ps, hr, rx, rs, o⟩ := hh
  unfold oAppend at o
  split at o
  · rename_i n y e
    cases e
    obtain ⟨u, rfl, ru⟩ := vrs1 rs
    split at o
    · rename_i ys e0
      obtain ⟨hl, o⟩ := Out.bif o
      obtain ⟨a, vs, rfl, ha, q1, q2⟩ := ref_lst hr rx e0
      exact ⟨a, vs, u, rfl, rfl, q1, by rw [q2.length, lim_eq]; exact of_decide_eq_true hl, KV.put hr ha e0 o .non (q2.append (.cons ru .nil))⟩
    · exact (show False from o).elim
  · exact (show False from o).elim
def oPop : OC := fun h xs => match xs with
  | [.ref n] => match h[n]? with
    | some (.lst ys) => match ys[ys.length - 1]? with
      | some y => .ok y (h.set n (.lst ys.dropLast))
      | none => .stuck
    | _ => .stuck
  | _ => .stuck
theorem VRs.dropLast {xs : List PV} {vs : List V} (r : VRs w M rho H xs vs) : VRs w M rho H xs.dropLast vs.dropLast := by
  rw [List.dropLast_eq_take, List.dropLast_eq_take, r.length]
  exact r.take _
theorem o_pop : MtR X "list.pop" (rM w EX oPop) := by
  refine MtR.imp mt_pop fun x xs H Q hh => ?_
  obtain ⟨M, rho, h, px, ps, hr, rx, rs, o⟩ := hh
  unfold oPop at o
  split at o
  · rename_i n e
    cases e
    cases vrs0 rs
    split at o
    · rename_i ys e0
      obtain ⟨a, vs, rfl, ha, q1, q2⟩ := ref_lst hr rx e0
      split at o
      · rename_i y ey
        obtain ⟨v, ev, rv⟩ := q2.get ey
        exact ⟨a, vs, v, rfl, rfl, q1, by rw [q2.length]; exact ev, KV.put hr ha e0 o rv q2.dropLast⟩
      · exact (show False from o).elim
    · exact (show False from o).elim
  · exact (show False from o).elim
/-- the texts with sep between -/
def glue (sep : List Nat) : List (List Nat) → List Nat
  | [] => []
  | [x] => x
  | x :: y :: r => x ++ (sep ++ glue sep (y :: r))
def totL (xs : List (List Nat)) : Nat := (xs.map (·.length)).sum
theorem glue_S (sep : List Nat) : ∀ ys : List (List Nat), TL.joinL sep ys = glue sep ys
  | [] => rfl
  | [_] => rfl
  | x :: y :: r => by
    show x ++ (sep ++ TL.joinL sep (y :: r)) = x ++ (sep ++ glue sep (y :: r))
    rw [glue_S sep (y :: r)]
theorem join_S (sep : List Nat) (ys : List (List Nat)) : Txt.join (S sep) (ys.map S) = S (glue sep ys) := by
  rw [TL.join_eq]
  refine TL.ext_tl ?_
  rw [TL.tl_join, ← glue_S]
  have e : (ys.map S).map TL.tl = ys := by
    rw [List.map_map]
    conv => rhs; rw [← List.map_id ys]
    exact List.map_congr_left fun x _ => S_list x
  rw [e]
  have e2 : TL.tl (S sep) = sep := S_list sep
  rw [e2]
  exact (S_list _).symm
def oJoin : OC := fun h xs => match xs with
  | [.str sep, x] => match seqP h x with
    | some ys => match strsP ys with
      | some zs => bif decide (totL zs + zs.length * sep.length ≤ LIM) then .ok (.str (glue sep zs)) h else .stuck
      | none => .stuck
    | none => .stuck
  | _ => .stuck
theorem totL_S (zs : List (List Nat)) : ((zs.map S).map (·.length)).sum = totL zs := by
  unfold totL
  rw [List.map_map]
  exact congrArg List.sum (List.map_congr_left fun x _ => S_len x)
theorem o_join (C : Cxt w k X) : MtR X "str.join" (rM w EX oJoin) := by
  refine MtR.imp mt_join fun x xs H Q hh => ?_
  obtain ⟨M, rho, h, px, ps, hr, rx, rs, o⟩ := hh
  unfold oJoin at o
  split at o
  · rename_i sep y e
    cases e
    obtain ⟨v, rfl, rv⟩ := vrs1 rs
    split at o
    · rename_i ys e0
      obtain ⟨a, vs, rfl, rs, q⟩ := seq_ok hr rv e0
      split at o
      · rename_i zs ez
        obtain ⟨hl, o⟩ := Out.bif o
        cases rx
        have ev := strs_ok rs ez
        subst ev
        refine ⟨S sep, a, zs.map S, rfl, rfl, ?_, ?_, ?_⟩
        · rw [C.hK]
          rcases q with q | ⟨q, _⟩
          · exact .inl q
          · exact .inr q
        · rw [totL_S, List.length_map, S_len]
          exact of_decide_eq_true hl
        · rw [join_S]
          exact o.now hr _ (.str _)
      · exact (show False from o).elim
    · exact (show False from o).elim
  · exact (show False from o).elim
/-- the first place of a sign -/
def idxOf1 (c : Nat) : List Nat → Option Nat
  | [] => none
  | x :: r => bif x == c then some 0 else match idxOf1 c r with
    | some i => some (i + 1)
    | none => none
def oIndex : OC := fun h xs => match xs with
  | [.str s, .str [c]] => match idxOf1 c s with
    | some i => .ok (.int i) h
    | none => .stuck
  | _ => .stuck
theorem idx1_ok {c : Nat} : ∀ {s : List Nat} {i : Nat}, idxOf1 c s = some i → s[i]? = some c ∧ ∀ j, j < i → s[j]? ≠ some c
  | [], _, e => by cases e
  | x :: r, i, e => by
    unfold idxOf1 at e
    cases q : x == c with
    | true =>
      rw [q, cond_true] at e
      cases e
      exact ⟨by rw [beq_iff_eq.mp q]; rfl, fun j hj => absurd hj (Nat.not_lt_zero j)⟩
    | false =>
      rw [q, cond_false] at e
      split at e
      · rename_i i' e'
        cases e
        obtain ⟨h1, h2⟩ := idx1_ok e'
        refine ⟨by simpa using h1, fun j hj => ?_⟩
        cases j with
        | zero => simpa using beq_eq_false_iff_ne.mp q
        | succ j => simpa using h2 j (by omega)
      · cases e
theorem o_index : MtR X "str.index" (rM w EX oIndex) := by
  refine MtR.imp mt_sindex fun x xs H Q hh => ?_
  obtain ⟨M, rho, h, px, ps, hr, rx, rs, o⟩ := hh
  unfold oIndex at o
  split at o
  · rename_i s c e
    cases e
    obtain ⟨v, rfl, rv⟩ := vrs1 rs
    cases rx
    cases rv
    split at o
    · rename_i i ei
      obtain ⟨h1, h2⟩ := idx1_ok ei
      have at1 : ∀ j, StrLaws.At (S s) (S [c]) (S s).length j ↔ s[j]? = some c := fun j => StrLaws.subAt_one (S s) c j
      rcases StrLaws.occ_head (S s) (S [c]) 1 (Nat.le_refl _) with ⟨_, hn⟩ | ⟨j, r, e1, e2, e3⟩
      · exact absurd ((at1 i).mpr h1) (hn i)
      · have e2' := (at1 j).mp e2
        have : j = i := by
          rcases Nat.lt_trichotomy j i with z | z | z
          · exact absurd e2' (h2 j z)
          · exact z
          · exact absurd ((at1 i).mpr h1) (e3 i z)
        subst this
        exact ⟨S s, S [c], j, r, rfl, rfl, e1, o.now hr _ (.int _)⟩
    · exact (show False from o).elim
  · exact (show False from o).elim
/-- the text begins with -/
def isPre : List Nat → List Nat → Bool
  | [], _ => true
  | x :: xs, y :: ys => x == y && isPre xs ys
  | _ :: _, [] => false
theorem isPre_eq : ∀ (p s : List Nat), isPre p s = (decide (p.length ≤ s.length) && (s.take p.length == p))
  | [], s => by simp [isPre]
  | x :: xs, [] => by simp [isPre]
  | x :: xs, y :: ys => by
    unfold isPre
    rw [isPre_eq xs ys]
    simp only [List.length_cons, List.take_succ_cons, Nat.add_le_add_iff_right]
    by_cases h : x = y
    · subst h; simp
    · have h1 : (x == y) = false := beq_eq_false_iff_ne.mpr h
      have h2 : (y == x) = false := beq_eq_false_iff_ne.mpr (Ne.symm h)
      simp [h1, h2, Ne.symm h]
def oStarts : OC := fun h xs => match xs with
  | [.str s, .str p] => .ok (.bl (isPre p s)) h
  | _ => .stuck
theorem o_starts : MtR X "str.startswith" (rM w EX oStarts) := by
  refine MtR.imp mt_startswith fun x xs H Q hh => ?_
  obtain ⟨M, rho, h, px, ps, hr, rx, rs, o⟩ := hh
  unfold oStarts at o
  split at o
  · rename_i s c e
    cases e
    obtain ⟨v, rfl, rv⟩ := vrs1 rs
    cases rx
    cases rv
    refine ⟨S s, S c, rfl, rfl, ?_⟩
    have e1 : Txt.startswith (S s) (S c) = isPre c s := by
      unfold Txt.startswith
      rw [isPre_eq, StrLaws.subAt_eq, S_len, S_len, Nat.zero_add]
      rfl
    rw [e1]
    exact o.now hr _ (.bl _)
  · exact (show False from o).elim
end
end MC

end
section
set_option maxRecDepth 100000
set_option maxHeartbeats 4000000
namespace MC
open PySem PySem.Spec PyProof.Rows L2

section
variable {w : Wo} {EX : XC} {X : Cx} {k : Nat} {M : Addr → Prop} {rho : List Addr} {H : Hp} {h : PH}
/-- o[i] = v, by values -/
abbrev O3 := PH → PV → PV → PV → R Unit
def oSetIx : O3 := fun h o i v => match o, i with
  | .ref n, .int j => match h[n]? with
    | some (.lst xs) => match ixN xs.length j with
      | some k => .ok () (h.set n (.lst (xs.set k v)))
      | none => .stuck
    | _ => .stuck
  | _, _ => .stuck
def gSubM (op : O3) (mo mi : ME) : MG := fun x env h => (mo env h).bind fun o h1 => (mi env h1).bind fun i h2 => (op h2 o i x).bind fun _ h3 => .ok env h3
def r3 (w : Wo) (EX : XC) (op : O3) : TSet := fun o i v H Q => ∃ M rho h po pi pv, HR w M rho H h ∧ VR w M rho H po o ∧ VR w M rho H pi i ∧ VR w M rho H pv v ∧ Out w EX M rho H (op h po pi pv) fun _ _ _ _ H' => Q H'
theorem PSet.imp {t t' : TSet} (p : PSet X t) (i : ∀ o j v H Q, t' o j v H Q → t o j v H Q) : PSet X t' := fun pins s σ H o j v ov iv u Q I ro ri rv h => p pins s σ H o j v ov iv u Q I ro ri rv (i o j v H Q h)
theorem p_setIx : PSet X (r3 w EX oSetIx) := by
  refine PSet.imp set_list fun o j v H Q hh => ?_
  obtain ⟨M, rho, h, po, pi, pv, hr, ro, ri, rv, oo⟩ := hh
  unfold oSetIx at oo
  split at oo
  · rename_i n i
    split at oo
    · rename_i xs e0
      obtain ⟨a, vs, rfl, ha, q1, q2⟩ := ref_lst hr ro e0
      cases ri
      split at oo
      · rename_i k ek
        refine ⟨a, vs, i, k, rfl, rfl, q1, by rw [q2.length]; exact ek, ?_⟩
        have r' := q2.set rv k
        have nf : ∀ p u, H a ≠ some (.frz p u) := fun p u z => by rw [q1] at z; cases z
        have st := Step.write hr (o := .lst (vs.set k v)) ha nf
        exact oo _ _ _ st (hr.write ha nf ⟨_, upd_same, r'.step st hr⟩)
      · exact (show False from oo).elim
    · exact (show False from oo).elim
  · exact (show False from oo).elim
theorem mg_sub {o i : Expr} {mo mi : ME} {op : O3} {pos : Pos} (hs : PSet X (r3 w EX op)) (ho : PE X o (tM w EX mo)) (hi : PE X i (tM w EX mi))
    (ha : ∀ v, assign (.Subscript o i pos) X.env v = (do
      let ov ← holding [v] (eval o X.env)
      let iv ← holding [v, ov] (eval i X.env)
      standAt pos
      holding [v, ov, iv] (setItem ov iv v)
      release [v, ov, iv] []) := by intro _; rfl) : PG X (.Subscript o i pos) (tG w EX (gSubM op mo mi)) := by
  refine PG_imp (pg_sub ho hi hs ha) fun v s H Q hh => ?_
  obtain ⟨M, rho, env, h, x, er, hr, rv, oo⟩ := hh
  refine tM.of er hr (Out.bind oo) fun y h1 M1 rho1 H1 u st1 er1 hr1 o1 ry => ?_
  refine tM.of er1 hr1 (Out.bind o1) fun z h2 M2 rho2 H2 u2 st2 er2 hr2 o2 rz => ?_
  refine ⟨M2, rho2, h2, y, z, x, hr2, ry.step st2 hr1, rz, (rv.step st1 hr).step st2 hr1, (Out.bind o2).imp fun _ h3 M3 rho3 H3 st3 hr3 o3 => ?_⟩
  exact o3.now hr3 _ (er2.step st3 hr2)

def putP (f : Nm) (v : PV) : List (Nm × PV) → List (Nm × PV)
  | [] => [(f, v)]
  | (g, x) :: r => bif g == f then (g, v) :: r else (g, x) :: putP f v r
theorem FRs.put {f : Nm} {x : PV} {v : V} (r : VR w M rho H x v) : ∀ {fs : List (Nm × PV)} {gs : List (Str × V)}, FRs w M rho H fs gs → FRs w M rho H (putP f x fs) (putF (nmS f) v gs)
  | _, _, .nil => .cons r .nil
  | _, _, .cons (k := g) a b => by
    unfold putP putF
    cases q : g == f with
    | true =>
      rw [cond_true, if_pos (by rw [beq_iff_eq.mp q])]
      exact .cons r b
    | false =>
      rw [cond_false, if_neg (fun e => beq_eq_false_iff_ne.mp q (nmS_inj e))]
      exact .cons a (FRs.put r b)
theorem FRs.len : ∀ {fs : List (Nm × PV)} {gs : List (Str × V)}, FRs w M rho H fs gs → gs.length = fs.length
  | _, _, .nil => rfl
  | _, _, .cons a b => by rw [List.length_cons, List.length_cons, b.len]
/-- o.f = e -/
def mSetF (cs : List Nat) (f : Nm) (mo me : ME) : MS := fun env h => (me env h).bind fun v h1 => (mo env h1).bind fun o h2 => match o with
  | .ref n => match h2[n]? with
    | some (.ins c fs) => bif cs.contains c && decide (fs.length < 1000) then .ok (.nx env) (h2.set n (.ins c (putP f v fs))) else .stuck
    | _ => .stuck
  | _ => .stuck
theorem ms_fld {cs : List Nat} {o e : Expr} {z : Str} {mo me : ME} {pos pos' : Pos} (C : Cxt w k X) (f : Nm) (hf : z = nmS f) (hA : Fld w cs f) (ho : PE X o (tM w EX mo)) (he : PE X e (tM w EX me)) (hs : swapsWith e (some (.Attribute o z pos')) pos.line X.env = pure false := by rfl) :
    PS X (.Assign [.Attribute o z pos'] e pos) (tS w EX (mSetF cs f mo me)) := by
  subst hf
  refine PS_imp (ps_fld ho he hs) fun D s H hh => ?_
  obtain ⟨M, rho, env, h, er, hr, oo⟩ := hh
  refine tM.of er hr (Out.bind oo) fun x h1 M1 rho1 H1 v st1 er1 hr1 o1 rv => ?_
  refine tM.of er1 hr1 (Out.bind o1) fun y h2 M2 rho2 H2 u st2 er2 hr2 o2 ry => ?_
  split at o2
  · rename_i n
    split at o2
    · rename_i c fs e0
      obtain ⟨hc, o2⟩ := Out.bif o2
      rw [Bool.and_eq_true] at hc
      cases ry with
      | ref ha =>
        obtain ⟨a', ha', A, dx, gs, q1, q2, q3⟩ := hr2.ob _ _ e0
        rw [ha] at ha'
        cases ha'
        obtain ⟨f1, f2⟩ := hA c A (List.contains_iff_mem.mp hc.1) q1
        refine ⟨_, A, dx, gs, rfl, q2, by rw [C.hK]; exact f1, by rw [C.hK]; exact f2, by rw [q3.len]; exact of_decide_eq_true hc.2, ?_⟩
        have r' := q3.put (f := f) (rv.step st2 hr1)
        have nf : ∀ p u, H2 _ ≠ some (.frz p u) := fun p u z => by rw [q2] at z; cases z
        have st := Step.write hr2 (o := .ins A dx (putF (nmS f) v gs)) ha nf
        exact o2 _ _ _ st (hr2.write ha nf ⟨A, dx, _, q1, upd_same, r'.step st hr2⟩) _ (er2.step st hr2)
    · exact (show False from o2).elim
  · exact (show False from o2).elim

def mAug (i : Nat) (op : O2) (me : ME) : MS := fun env h => match env[i]? with
  | some (some x) => (me env h).bind fun y h1 => (op h1 x y).bind fun z h2 => .ok (.nx (env.set i (some z))) h2
  | _ => .stuck
theorem ms_aug (i : Nat) {x : Str} {e : Expr} {op : Operator} {f : O2} {me : ME} {pos pos' : Pos} (hN : X.N.Nodup) (ho : OpR X (inplaceOp op) (r2 w EX f)) (he : PE X e (tM w EX me)) (hi : X.N[i]? = some x := by rfl) (hx : Loc X.env.scope x := by first | exact Or.inl rfl | exact Or.inr rfl)
    (hf : X.fn x = true ∨ X.env.scope.names.lookup x = some .local := by first | exact .inl rfl | exact .inr rfl | assumption) : PS X (.AugAssign (.Name x pos') op e pos) (tS w EX (mAug i f me)) := by
  refine PS_imp (ps_aug (ti := r2 w EX f) hN hi hx he ho hf) fun D s H hh => ?_
  obtain ⟨M, rho, env, h, er, hr, oo⟩ := hh
  unfold mAug at oo
  split at oo
  · rename_i x0 e0
    obtain ⟨v, e1, r1⟩ := er.get e0
    refine ⟨v, e1, tM.of er hr (Out.bind oo) fun y h1 M1 rho1 H1 u st1 er1 hr1 o1 ry => ?_⟩
    refine ⟨M1, rho1, h1, x0, y, hr1, r1.step st1 hr, ry, (Out.bind o1).imp fun z h2 M2 rho2 H2 st2 hr2 o2 V rV => ?_⟩
    exact o2.now hr2 _ ((er1.step st2 hr1).set rV i)
  · exact (show False from oo).elim
/-- +=: ints, texts, a list by a list -/
def opIadd : O2 := fun h x y => match x, y with
  | .int i, .int j => .ok (.int (i + j)) h
  | .str a, .str b => bif decide (a.length + b.length ≤ LIM) then .ok (.str (a ++ b)) h else .stuck
  | .ref n, .ref m => match h[n]?, h[m]? with
    | some (.lst xs), some (.lst ys) => bif decide (xs.length + ys.length ≤ LIM) then .ok (.ref n) (h.set n (.lst (xs ++ ys))) else .stuck
    | _, _ => .stuck
  | _, _ => .stuck
theorem o_iadd : OpR X (inplaceOp .Add) (r2 w EX opIadd) := by
  intro pins s σ H x y v u Q I rx ry ⟨M, rho, h, px, py, hr, vx, vy, o⟩
  unfold opIadd at o
  split at o
  · cases vx; cases vy
    exact iop_add pins s σ H _ _ v u Q I rx ry ⟨_, _, rfl, rfl, o.now hr _ (.int _)⟩
  · rename_i a b
    obtain ⟨hl, o⟩ := Out.bif o
    cases vx; cases vy
    refine iop_add_str pins s σ H _ _ v u Q I rx ry ⟨S a, S b, rfl, rfl, by rw [S_len, S_len, lim_eq]; exact of_decide_eq_true hl, ?_⟩
    rw [S_app]
    exact o.now hr _ (.str _)
  · rename_i n m
    split at o
    · rename_i xs ys e0 e1
      obtain ⟨hl, o⟩ := Out.bif o
      obtain ⟨a, vs, rfl, ha, q1, q2⟩ := ref_lst hr vx e0
      obtain ⟨b, us, rfl, hb, p1, p2⟩ := ref_lst hr vy e1
      exact iop_ext pins s σ H _ _ v u Q I rx ry ⟨a, b, vs, us, rfl, rfl, q1, p1, by rw [q2.length, p2.length, lim_eq]; exact of_decide_eq_true hl, KV.put hr ha e0 o vx (q2.append p2)⟩
    · exact (show False from o).elim
  · exact (show False from o).elim
def opIsub : O2 := fun h x y => match x, y with
  | .int i, .int j => .ok (.int (i - j)) h
  | _, _ => .stuck
theorem o_isub : OpR X (inplaceOp .Sub) (r2 w EX opIsub) := by
  intro pins s σ H x y v u Q I rx ry ⟨M, rho, h, px, py, hr, vx, vy, o⟩
  unfold opIsub at o
  split at o
  · cases vx; cases vy
    exact iop_sub pins s σ H _ _ v u Q I rx ry ⟨_, _, rfl, rfl, o.now hr _ (.int _)⟩
  · exact (show False from o).elim
/-- a, b, c = x, y, z: plain local names -/
def mPar3 (i j l : Nat) (ma mb mc : ME) : MS := fun env h => (ma env h).bind fun x h1 => (mb env h1).bind fun y h2 => (mc env h2).bind fun z h3 => .ok (.nx (((env.set i (some x)).set j (some y)).set l (some z))) h3
theorem ms_par3 (C : Cxt w k X) (i j l : Nat) {x y z : Str} {a b c : Expr} {ma mb mc : ME} {px py pz pt pos : Pos} {kt k2 pt2} (hN : X.N.Nodup) (ha : PE X a (tM w EX ma)) (hb : PE X b (tM w EX mb)) (hc : PE X c (tM w EX mc)) (hi : X.N[i]? = some x := by rfl) (hj : X.N[j]? = some y := by rfl) (hl : X.N[l]? = some z := by rfl)
    (hij : i ≠ j := by decide) (hil : i ≠ l := by decide) (hjl : j ≠ l := by decide)
    (hx : X.env.scope.names.lookup x = some .local := by rfl) (hy : X.env.scope.names.lookup y = some .local := by rfl) (hz : X.env.scope.names.lookup z = some .local := by rfl)
    (hw : swappedStores [.Tuple [.Name x px, .Name y py, .Name z pz] kt pt] (.Tuple [a, b, c] k2 pt2) X.env = pure (some [x, y, z]) := by rfl)
    (hs : swapsWithSole [.Tuple [.Name x px, .Name y py, .Name z pz] kt pt] (.Tuple [a, b, c] k2 pt2) pos.line X.env = pure false := by rfl)
    (s1 : starEach [a, b, c] X.env = (false, eval a X.env) :: starEach [b, c] X.env := by rfl) (s2 : starEach [b, c] X.env = (false, eval b X.env) :: starEach [c] X.env := by rfl) (s3 : starEach [c] X.env = (false, eval c X.env) :: starEach [] X.env := by rfl) :
    PS X (.Assign [.Tuple [.Name x px, .Name y py, .Name z pz] kt pt] (.Tuple [a, b, c] k2 pt2) pos) (tS w EX (mPar3 i j l ma mb mc)) := by
  refine PS_imp (ps_par3 C.calm hN hi hj hl hij hil hjl hx hy hz (pa_cons ha (pa_cons hb (pa_cons hc pa_nil s3) s2) s1) hw hs) fun D s H hh => ?_
  obtain ⟨M, rho, env, h, er, hr, o⟩ := hh
  refine tM.of er hr (Out.bind o) fun x h1 M1 rho1 H1 v st1 er1 hr1 o1 rv => ?_
  refine tM.of er1 hr1 (Out.bind o1) fun y h2 M2 rho2 H2 u st2 er2 hr2 o2 ru => ?_
  refine tM.of er2 hr2 (Out.bind o2) fun z h3 M3 rho3 H3 u3 st3 er3 hr3 o3 r3 => ?_
  exact ⟨v, u, u3, rfl, o3.now hr3 _ (((er3.set ((rv.step st2 hr1).step st3 hr2) i).set (ru.step st3 hr2) j).set r3 l)⟩
end
end MC

end
section
set_option maxRecDepth 100000
set_option maxHeartbeats 4000000
namespace MC
open PySem PySem.Spec PyProof.Rows L2

def reprD (h : PH) (x : PV) : Option (List Nat) := match toD h DEP x with
  | some d => bif PyData.showable d && (!d.hasDict && (decide (d.depth ≤ 60) && decide (d.shown.length ≤ LIM))) then some d.shown.cps.toList else none
  | none => none
def isRefV : PV → Bool
  | .tup _ => true
  | .scr _ => true
  | .ref _ => true
  | _ => false
def bRepr : OC := fun h xs => match xs with
  | [x] => bif isRefV x then (match reprD h x with
    | some s => .ok (.str s) h
    | none => .stuck) else .stuck
  | _ => .stuck
section
variable {w : Wo} {EX : XC} {X : Cx} {k : Nat} {M : Addr → Prop} {rho : List Addr} {H : Hp} {h : PH}
theorem b_repr (C : Cxt w k X) : CallR X (.builtin "repr") (rA w EX bRepr) := by
  intro pins s σ H xs us Q I r hh
  obtain ⟨M, rho, h, ps, hr, rs, o⟩ := hh
  unfold bRepr at o
  split at o
  · rename_i x
    obtain ⟨v, rfl, rv⟩ := vrs1 rs
    obtain ⟨u, rfl, ru⟩ := vals1 r
    obtain ⟨hx, o⟩ := Out.bif o
    obtain ⟨a, rfl⟩ : ∃ a, v = .ref a := by
      cases rv <;> first | exact ⟨_, rfl⟩ | exact absurd hx (by simp [isRefV])
    obtain rfl : u = Value.ref a := ru
    unfold reprD at o
    split at o
    · rename_i z ez
      split at ez
      · rename_i d ed
        cases hc : (PyData.showable d && (!d.hasDict && (decide (d.depth ≤ 60) && decide (d.shown.length ≤ LIM)))) with
        | false => rw [hc] at ez; cases ez
        | true =>
          rw [hc] at ez
          cases ez
          simp only [Bool.and_eq_true, decide_eq_true_eq, Bool.not_eq_true'] at hc
          obtain ⟨c1, c2, c3, c4⟩ := hc
          have dp := toD_dp hr _ _ _ _ ed rv
          rw [← C.hK] at dp
          obtain ⟨as, rd⟩ := Dp.reads I d _ _ dp (show RelV (V.ref a) (Value.ref a) from rfl)
          have hu := C.units
          refine repr_of_reads' rd c1 (PyData.noDict_hsm c2) C.grd (by omega) (fun _ _ e => e) (fun h' u tk hk => ?_) (by rw [lim_eq]; exact c4)
          exact ⟨.str d.shown, H, I.kept (t' := tk) hk, ⟨u, rfl⟩, by
            have := o.now hr _ (.str _)
            rw [show (⟨d.shown.cps.toList.toArray⟩ : Str) = d.shown from S_of _] at this
            exact this⟩
      · cases ez
    · exact (show False from o).elim
  · exact (show False from o).elim

def mRev (m : ME) : ME := fun env h => (m env h).bind fun x h1 => match x with
  | .str s => bif decide (s.length ≤ LIM) then .ok (.str s.reverse) h1 else .stuck
  | x => match lstP h1 x with
    | some ys => .ok (.ref h1.length) (h1 ++ [.lst ys.reverse])
    | none => .stuck
theorem VRs.reverse {xs : List PV} {vs : List V} (r : VRs w M rho H xs vs) : VRs w M rho H xs.reverse vs.reverse := by
  induction xs generalizing vs with
  | nil => cases r; exact .nil
  | cons x xs ih =>
    cases r with
    | cons a b =>
      rw [List.reverse_cons, List.reverse_cons]
      exact (ih b).append (.cons a .nil)
theorem str_all (s : List Nat) : (List.range s.length).filterMap (fun i => s.toArray[i]?) = s := by
  have e : (fun (i : Nat) => s.toArray[i]?) = fun (i : Nat) => s[i]? := by funext i; simp
  rw [e]
  have : ∀ (s : List Nat), (List.range s.length).filterMap (fun i => s[i]?) = s := by
    intro s
    induction s with
    | nil => rfl
    | cons x r ih =>
      rw [List.length_cons, List.range_succ_eq_map, List.filterMap_cons]
      simp only [List.getElem?_cons_zero, List.filterMap_map]
      congr 1
  exact this s
theorem rev_made (s : List Nat) (t tk : Tok) : sliceMade (S s) t none none (some (-1, tk)) = Made.str (S s.reverse) := by
  unfold sliceMade
  rw [if_neg (by simp)]
  congr 1
  unfold slicePicked Builtin.Str.strSliceIndices
  have e : (S s).length = s.length := S_len s
  simp only [Option.map_none, Option.map_some, Option.getD_some, e]
  show (⟨_⟩ : Str) = _
  have e2 : (sliceRange ((s.length : Int) - 1) (-1) (-1)) = (List.range s.length).reverse := by rw [PySem.W.krv_sliceRange, PySem.W.krv_range]
  have e3 : ((sliceRange ((s.length : Int) - 1) (-1) (-1)).filterMap ((S s).cps[·]?)) = s.reverse := by
    rw [e2, List.filterMap_reverse]
    exact congrArg List.reverse (str_all s)
  exact congrArg (fun l : List Nat => (⟨l.toArray⟩ : Str)) e3
theorem me_rev {e : Expr} {m : ME} {kc : Nat} {p1 p2 p3 pos : Pos} (C : Cxt w k X) (he : PE X e (tM w EX m)) : PE X (.Subscript e (.Slice none none (some (.UnaryOp .USub (.Constant (.int 1) kc p1) p2)) p3) pos) (tM w EX (mRev m)) := by
  refine ⟨fun pins s σ H Q I hh => ?_⟩
  obtain ⟨M, rho, env, h, er, hr, oo⟩ := hh
  refine Subscript_ (thn (he.run pins s σ H (fun v H1 => ∃ M1 rho1 h1 x, HR w M1 rho1 H1 h1 ∧ VR w M1 rho1 H1 x v ∧ Out w EX M1 rho1 H1 (match x with
    | .str s => bif decide (s.length ≤ LIM) then .ok (.str s.reverse) h1 else .stuck
    | x => match lstP h1 x with
      | some ys => .ok (.ref h1.length) (h1 ++ [.lst ys.reverse])
      | none => .stuck) (MC.KV w Q)) I (tM.of er hr (Out.bind oo) fun x h1 M1 rho1 H1 v st1 er1 hr1 o1 rv => ⟨M1, rho1, h1, x, hr1, rv, o1⟩)) fun v s1 ⟨x, H1, I1, r1, M1, rho1, h1, px, hr1, rv, o1⟩ => ?_)
  have hst : L2.PO X (some (.UnaryOp .USub (.Constant (.int 1) kc p1) p2)) (tPart (tUn (rU fun i => .int (-i)) (tC (.int 1)))) := po_some (pe_un un_neg pe_int)
  refine wpAny_Slice (thn (po_none.run pins s1 σ H1 (fun o H2 => o = none ∧ H2 = H1) I1 ⟨rfl, rfl⟩) fun vl s2 ⟨l, H2, I2, pl, el, e2⟩ => ?_)
  subst el e2
  refine thn (po_none.run pins s2 σ H2 (fun o H3 => o = none ∧ H3 = H2) I2 ⟨rfl, rfl⟩) fun vu s3 ⟨u, H3, I3, pu, eu, e3⟩ => ?_
  subst eu e3
  refine thn (hst.run pins s3 σ H3 (fun o H4 => o = some (-1) ∧ H4 = H3) I3 ⟨1, rfl, -1, rfl, rfl, rfl⟩) fun vs s4 ⟨o, H4, I4, ps, eo, e4⟩ => ?_
  subst eo e4
  have I5 : Inv X pins σ H4 { s4 with heap := s4.heap.push { cls := .type "slice", data := .fields #[vl, vu, vs] } } := I4.kept (t' := s4.toks) fun b ob q => Heap.get?_push_of_some _ q
  show wpAny (model X.prog X.w) X.A (subscriptTail e (.Slice none none (some (.UnaryOp .USub (.Constant (.int 1) kc p1) p2)) p3) v (.ref s4.heap.objs.size)) (EP X pins σ Q) X.xe { s4 with heap := s4.heap.push { cls := .type "slice", data := .fields #[vl, vu, vs] } }
  have lst : ∀ {a : Addr} {us : List V} {ys : List PV}, x = .ref a → SqL w.K H4 a us → VRs w M1 rho1 H4 ys us → Out w EX M1 rho1 H4 (.ok (.ref h1.length) (h1 ++ [.lst ys.reverse])) (MC.KV w Q) →
      wpAny (model X.prog X.w) X.A (subscriptTail e (.Slice none none (some (.UnaryOp .USub (.Constant (.int 1) kc p1) p2)) p3) v (.ref s4.heap.objs.size)) (EP X pins σ Q) X.xe { s4 with heap := s4.heap.push { cls := .type "slice", data := .fields #[vl, vu, vs] } } := fun {a us ys} ex hx sa o => by
    subst ex
    cases r1
    rw [← C.hK] at hx
    obtain ⟨its, r, ht, hz⟩ := I5.list hx
    have hlen := r.length
    refine tail_any (ops := [.ref a, .ref s4.heap.objs.size]) ht.isList.typeIs (PySem.slot_list_getitem.lookup) ?_ (by with_unfolding_all rfl)
    refine wpAny_getItem_list_slice ht.isList (Heap.IsSliceOf.new _ vl vu vs) pl pu ps (by decide) ?_ (by rw [List.size_toArray]; omega)
    rw [PySem.W.krv_pick]
    refine ⟨.ref _, _, I5.laid (t' := s4.toks) (o := .lst us.reverse) (fun b ob q => Heap.get?_push_of_some _ q) (Nat.le_refl _) ?_, rfl, KV.lst hr1 o sa.reverse _ (I5.hok.fresh (Nat.le_refl _))⟩
    exact ⟨by rw [List.length_reverse]; exact hz, _, 0, r.reverse, Heap.get?_push_size _ rfl⟩
  have rest : ∀ {ys : List PV}, lstP h1 px = some ys → Out w EX M1 rho1 H4 (.ok (.ref h1.length) (h1 ++ [.lst ys.reverse])) (MC.KV w Q) →
      wpAny (model X.prog X.w) X.A (subscriptTail e (.Slice none none (some (.UnaryOp .USub (.Constant (.int 1) kc p1) p2)) p3) v (.ref s4.heap.objs.size)) (EP X pins σ Q) X.xe { s4 with heap := s4.heap.push { cls := .type "slice", data := .fields #[vl, vu, vs] } } := fun {ys} ep o => by
    obtain ⟨a, us, ex, sa, q⟩ := lst_ok hr1 rv ep
    exact lst ex q sa o
  split at o1
  · rename_i z
    obtain ⟨hl, o1⟩ := Out.bif o1
    cases rv
    obtain ⟨t, rfl⟩ := (show ∃ t, v = Value.str (S z) t from r1)
    obtain ⟨tk, rfl⟩ : ∃ tk, vs = Value.int (-1) tk := by cases ps; exact ⟨_, rfl⟩
    refine tail_any (T := "str") (ops := [.ref s4.heap.objs.size, .str (S z) t]) (typeIs_str _ _ _) F.slot_str_getitem.lookup ?_ (by with_unfolding_all rfl)
    cases pl
    cases pu
    refine wpAny_getItem_str_slice (l := none) (u := none) (st := some (-1, tk)) ⟨_, Heap.get?_push_size _ rfl, rfl, rfl⟩ (by rfl) ?_
    rw [rev_made]
    refine ⟨?_, .str (S z.reverse), H4, ?_, ⟨_, rfl⟩, o1.now hr1 _ (.str _)⟩
    · rw [S_len, List.length_reverse, lim_eq]; exact of_decide_eq_true hl
    · exact I5.tok _
  · split at o1
    · rename_i ys ep
      exact rest ep o1
    · exact (show False from o1).elim
end
end MC

end
section
set_option maxRecDepth 100000
set_option maxHeartbeats 4000000
namespace MC
open PySem PySem.Spec PyProof.Rows L2

set_option maxHeartbeats 8000000 in
theorem newEnum {v : Value} {o : Obj} {H : Heap → Prop} (B : Begins v o H) :
    Meets (Builtin.«enumerate.__new__» ⟨[.type "enumerate", v], []⟩) (fun _ R s => H s.heap ∧
      R (.ok (.ret (.ref (s.heap.push o).objs.size))) { s with heap := (s.heap.push o).push { cls := .type "enumerate", data := .fields #[.none, .bool false, .ref s.heap.objs.size, rawInt 0, .none, .none] } }) :=
  .of_wp fun prog w A R s h => by
    obtain ⟨hp, g, d, tk, os⟩ := s; obtain ⟨h1, h⟩ := h
    have hsub := sub_enumerate
    have begun : ∀ {A' : Around} {E : Value → Shared → Prop} {Q : Value → Shared → Prop}, Q (.ref hp.objs.size) ⟨hp.push o, g, d, tk, os⟩ → wpAny (model prog w) A' (pyIter v) Q E ⟨hp, g, d, tk, os⟩ :=
      fun q => B.iter prog w _ _ ⟨hp, g, d, tk, os⟩ _ h1 q
    wp_walk using begun
    refine wpAny_stack_any fun st => wpAny_pure ?_
    split
    · rename_i c _ _ _ _ _
      cases (c == Value.type "enumerate") <;> (wp_walk using begun; exact ⟨_, rfl, h⟩)
    · wp_walk using begun
      exact ⟨_, rfl, h⟩
section
variable {prog : Program} {w : World} {A : Around} {E : Value → Shared → Prop} {s : Shared}
theorem callEnum {v : Value} {o : Obj} {H : Heap → Prop} {Q : Value → Shared → Prop} (B : Begins v o H) (h1 : H s.heap)
    (h : ∀ h', IsEnum h' (s.heap.objs.size + 1) s.heap.objs.size 0 .none → h'.get? s.heap.objs.size = some o → h'.objs.size = s.heap.objs.size + 2 →
      (∀ b o, s.heap.get? b = some o → h'.get? b = some o) → Q (.ref (s.heap.objs.size + 1)) { s with heap := h' }) :
    wpAny (model prog w) A (call (.type "enumerate") [v]) Q E s := by
  refine callType_new F.called_enumerate (by decide) (F.typeCall_enumerate_1 _) (F.newCall_enumerate_1 _) (fun obj => F.args_object_init_2 obj _) F.entry_enumerate_new (newEnum B) ⟨h1, ?_⟩
  have sz : (s.heap.push o).objs.size = s.heap.objs.size + 1 := Heap.size_push ..
  show _ ∧ _
  rw [sz]
  have en : IsEnum ((s.heap.push o).push { cls := .type "enumerate", data := .fields #[.none, .bool false, .ref s.heap.objs.size, rawInt 0, .none, .none] }) (s.heap.objs.size + 1) s.heap.objs.size 0 .none := by
    have z := Heap.get?_push_size (s.heap.push o) (o := { cls := .type "enumerate", data := .fields #[.none, .bool false, .ref s.heap.objs.size, rawInt 0, .none, .none] }) rfl
    rw [sz] at z; exact z
  refine ⟨⟨_, en, rfl⟩, h _ en (Heap.get?_push_of_some _ (Heap.get?_push_size _ B.free)) (by rw [Heap.size_push, sz]) fun b o x => Heap.get?_push_of_some _ (Heap.get?_push_of_some _ x)⟩
end

/-- the tuple at a, each item with its number in a new pair -/
def ItE (K : PySem.W.Frag) (a : Addr) : It :=
  ⟨fun i H => ∃ (xs : List V) (x : V), SqT K H a xs ∧ xs[i]? = some x, fun i H v H' => ∃ T x, v = .ref T ∧ H T = none ∧ H' = upd H T (.tup [.int (i : Nat), x]) ∧ ∀ xs, SqT K H a xs → xs[i]? = some x, fun i H => ∃ xs : List V, SqT K H a xs ∧ xs.length ≤ i⟩
theorem turnE {P : Program} {w : World} {K : PySem.W.Frag} {elts : List Expr} {kk : Nat} {tpos : Pos} (a e it : Addr) :
    Turn P w K (.Tuple elts kk tpos) (ItE K a) [e, it] e (fun i h => (∃ old, IsEnum h e it ((i : Nat) : Int) old) ∧ h.IsTupleIter it a i ∧ e ≠ it ∧ a ≠ it ∧ a ≠ e) where
  mem := by simp
  obj := fun i h st b hb => by
    obtain ⟨⟨old, he⟩, ⟨o, ho, hc, hd⟩, _⟩ := st
    have e' : b = e ∨ b = it := by simpa using hb
    rcases e' with rfl | rfl
    · exact ⟨_, he, fun v q => nomatch q⟩
    · exact ⟨o, ho, fun v q => by rw [hd] at q; cases q⟩
  keep := fun i h h' st k => by
    obtain ⟨⟨old, he⟩, hi, hne⟩ := st
    exact ⟨⟨old, k e (by simp) _ he⟩, hi.at fun o q => k it (by simp) o q, hne⟩
  item := by
    intro X hP hw hK hc i pins s σ H E I hf st hg
    subst hP hw hK
    obtain ⟨⟨old, he⟩, hit, hne, ha1, ha2⟩ := st
    obtain ⟨xs, x, hq, hx⟩ := hg
    obtain ⟨its, rv, p, hz⟩ := I.tuple hq
    obtain ⟨u, hu, ru⟩ := rv.get hx
    have hel : e < s.heap.objs.size := Heap.lt_size he
    have hil : it < s.heap.objs.size := by obtain ⟨_, q, _⟩ := hit; exact Heap.lt_size q
    have D := Draws.tuple (prog := X.prog) (w := X.w) (A := X.A.in1) (by exact (I.ok.hd hc : X.A.handled = none)) it a ha1 its.toArray
    have hlt : i < its.toArray.size := by
      rw [List.size_toArray]
      exact (List.getElem?_eq_some_iff.mp hu).1
    refine wpAny_pyNext_enum_itemD D he ⟨hit, p⟩ hlt hne (by simp [hne, Ne.symm ha2]) fun z h' tk hPz ho hst hT hsz hk => ?_
    have ez : z = u := by
      have z1 : its.toArray[i]? = some u := by simpa using hu
      rw [show its.toArray[i]? = some z from hPz] at z1
      exact Option.some.inj z1
    subst ez
    refine ⟨_, rfl, wpAny_letOwnedTupleGo_enum (s := { s with heap := h', toks := tk + 1 }) ho fun h'' he' sb => ?_⟩
    have hT2 : h''.get? s.heap.objs.size = some { cls := .type "tuple", data := .seq #[.int i tk, z] } := (sb.2 _ (Nat.ne_of_gt hel)).trans hT
    have new : ObjOk X.prog X.w (upd H s.heap.objs.size (.tup [.int (i : Nat), x])) h'' s.heap.objs.size (.tup [.int (i : Nat), x]) :=
      ⟨by show 2 ≤ sizeLine; decide, [.int i tk, z], .cons ⟨_, rfl⟩ (.cons ru .nil), ⟨_, hT2, rfl, _, rfl⟩⟩
    have I1 : Inv X pins σ (upd H s.heap.objs.size (.tup [.int (i : Nat), x])) { s with heap := h'', toks := tk + 1 } :=
      I.turnedNew (ch := [e, it]) (fun b ob hb q => (sb.2 b (fun z => hb (by simp [z]))).trans (hk b ob (fun z => hb (by simp [z])) (fun z => hb (by simp [z])) q)) hf (Nat.le_refl _) new
    refine ⟨.ref s.heap.objs.size, _, I1, rfl, ⟨_, x, rfl, I.hok.fresh (Nat.le_refl _), rfl, fun ys hy => by rw [I.tuple_inj hy hq]; exact hx⟩, ⟨⟨z, ?_⟩, hst.1.at fun o q => (sb.2 it (Ne.symm hne)).trans q, hne, ha1, ha2⟩, fun b hb => ?_⟩
    · have e1 : ((i + 1 : Nat) : Int) = (i : Int) + 1 := by omega
      rw [e1]; exact he'
    · have hb' : b < s.heap.objs.size := by
        have e' : b = e ∨ b = it := by simpa using hb
        rcases e' with rfl | rfl
        · exact hel
        · exact hil
      rw [upd_ne (Nat.ne_of_lt hb')]
      exact (hf b hb).1
  done := by
    intro X hP hw hK hc i pins s σ H E I hf st hg
    subst hP hw hK
    obtain ⟨⟨old, he⟩, hit, hne, ha1, ha2⟩ := st
    obtain ⟨xs, hq, hx⟩ := hg
    obtain ⟨its, rv, p, hz⟩ := I.tuple hq
    obtain ⟨f0, f1, f2, f3, f4, f5⟩ := hf it (by simp)
    have hl := rv.length
    have hL : its.toArray.size ≤ i := by rw [List.size_toArray]; omega
    unfold pyNext
    refine wpAny_bind (wpAny_attempt (wpAny_callSpecial?_slot (name := Str.ofString "__next__") (T := "enumerate") ⟨_, he, rfl⟩ F.slot_enumerate_next
      (wpAny_call_entry F.slot_enumerate_next (show s.TypeIs (.ref e) "enumerate" from ⟨_, he, rfl⟩) F.entry_enumerate_next ?_ (F.args_enumerate_next_1 _))))
    show wpAny _ _ (field (.ref e) 2 >>= _) _ _ _
    refine wpAny_bind (wpAny_field he rfl (x := .ref it) rfl ?_)
    refine wpAny_bind (wpAny_nextOf_tuple_end (by exact (I.ok.hd hc : X.A.handled = none)) hit p (by simp; omega) fun h' x eb hx' => ?_)
    obtain ⟨o, ho, hcl⟩ := hx'
    refine wpAny_bind (wpAny_isInstance (T := "StopIteration") (b := true) ⟨o, ho, hcl⟩ isSubtype_stop ?_)
    exact wpAny_pure ⟨rfl, I.turned (t' := s.toks) (fun b o hb q => eb b o hb q) f0 f1 f3 f4 f5⟩
  self := fun A i s Q E st h => let ⟨⟨_, he⟩, _⟩ := st; wpAny_pyIter_enum he h

/-- the pairs of numbers and items -/
def numbered : Nat → List PV → List PV
  | _, [] => []
  | i, x :: r => .tup [.int i, x] :: numbered (i + 1) r
theorem numbered_get : ∀ (xs : List PV) (j i : Nat), (numbered j xs)[i]? = match xs[i]? with
    | some x => some (.tup [.int ((j + i : Nat) : Int), x])
    | none => none
  | [], j, i => by simp [numbered]
  | x :: r, j, 0 => by simp [numbered]
  | x :: r, j, i + 1 => by
    have := numbered_get r (j + 1) i
    simp only [numbered, List.getElem?_cons_succ]
    rw [this]
    have e : j + 1 + i = j + (i + 1) := by omega
    rw [e]
theorem numbered_len : ∀ (xs : List PV) (j : Nat), (numbered j xs).length = xs.length
  | [], _ => rfl
  | x :: r, j => by simp [numbered, numbered_len r (j + 1)]
/-- what must stay of a source -/
def wtOf (ys : List PV) : PV → Wt
  | .ref n => [(n, ys)]
  | _ => []
def miEnum (ma : MA) : MI := fun env h => (ma env h).bind fun xs h1 => match xs with
  | [x] => match seqP h1 x with
    | some ys => .ok (numbered 0 ys, wtOf ys x) h1
    | none => .stuck
  | _ => .stuck
section
variable {w : Wo} {EX : XC} {X : Cx} {k : Nat} {M : Addr → Prop} {rho : List Addr} {H : Hp} {h : PH}
theorem pair_new {H1 : Hp} {T : Addr} {x y : PV} {u v : V} {M1 : Addr → Prop} {rho1 : List Addr} {h1 : PH} (hr : HR w M1 rho1 H1 h1) (n : H1 T = none) (rx : VR w M1 rho1 H1 x u) (ry : VR w M1 rho1 H1 y v) :
    (∀ b o, H1 b = some o → upd H1 T (.tup [u, v]) b = some o) ∧ VR w M1 rho1 (upd H1 T (.tup [u, v])) (.tup [x, y]) (.ref T) := by
  have st : Step M1 rho1 H1 M1 rho1 (upd H1 T (.tup [u, v])) := Step.grow (same_upd n)
  exact ⟨same_upd n, .tup (SqT.of upd_same) (.cons (rx.step st hr) (.cons (ry.step st hr) .nil))⟩
theorem gives_enumL {ys : List PV} {wt : Wt} {a : Addr} (hs : ∀ {M1 : Addr → Prop} {rho1 : List Addr} {H1 : Hp} {h1 : PH}, Step M rho H M1 rho1 H1 → HR w M1 rho1 H1 h1 → watch wt h1 = true → ∃ vs, SqL w.K H1 a vs ∧ VRs w M1 rho1 H1 ys vs) : Gives w M rho H (numbered 0 ys) wt (Ite w.K a) := by
  refine ⟨fun {M1 rho1 H1 h1} st hr hw i => ?_⟩
  obtain ⟨vs, q, rv⟩ := hs st hr hw
  have W := walk_enum (K := w.K) (a := a) (xs := vs)
  rw [rv.length] at W
  rw [numbered_len]
  refine ⟨fun hi => W.goes i H1 hi q, fun hi => by subst hi; exact W.stops H1 q, fun v H' hi y => ?_⟩
  obtain ⟨T, x, u, e1, e2, e3, e4, e5⟩ := W.yields i H1 v H' hi q y
  subst e1; subst e3
  cases e4
  obtain ⟨z, hz⟩ : ∃ z, ys[i]? = some z := ⟨_, List.getElem?_eq_getElem hi⟩
  obtain ⟨v', f1, f2⟩ := rv.get hz
  have e5 : vs[i]? = some u := e5
  rw [e5] at f1
  cases f1
  obtain ⟨g1, g2⟩ := pair_new hr e2 (.int ((i : Nat) : Int)) f2
  exact ⟨g1, _, by rw [numbered_get, hz, Nat.zero_add], g2⟩
theorem gives_enumT {ys : List PV} {a : Addr} {vs : List V} (hr0 : HR w M rho H h) (q : SqT w.K H a vs) (rv : VRs w M rho H ys vs) : Gives w M rho H (numbered 0 ys) [] (ItE w.K a) := by
  refine ⟨fun {M1 rho1 H1 h1} st hr hw i => ?_⟩
  have q := st.sqT hr0 q
  have rv := rv.step st hr0
  rw [numbered_len]
  refine ⟨fun hi => ?_, fun hi => ?_, fun v H' hi y => ?_⟩
  · obtain ⟨z, hz⟩ : ∃ z, ys[i]? = some z := ⟨_, List.getElem?_eq_getElem hi⟩
    obtain ⟨v', f1, _⟩ := rv.get hz
    exact ⟨vs, v', q, f1⟩
  · subst hi
    exact ⟨vs, q, by rw [rv.length]; exact Nat.le_refl _⟩
  · obtain ⟨T, x, e1, e2, e3, e4⟩ := y
    subst e1; subst e3
    obtain ⟨z, hz⟩ : ∃ z, ys[i]? = some z := ⟨_, List.getElem?_eq_getElem hi⟩
    obtain ⟨v', f1, f2⟩ := rv.get hz
    rw [e4 vs q] at f1
    cases f1
    obtain ⟨g1, g2⟩ := pair_new hr e2 (.int ((i : Nat) : Int)) f2
    exact ⟨g1, _, by rw [numbered_get, hz, Nat.zero_add], g2⟩
/-- a list's items stay while it is watched -/
theorem lst_stays (hr : HR w M rho H h) {x : PV} {v : V} {ys : List PV} (r : VR w M rho H x v) (e : lstP h x = some ys) : ∃ a, v = .ref a ∧ (∃ vs, SqL w.K H a vs) ∧ ∀ {M1 : Addr → Prop} {rho1 : List Addr} {H1 : Hp} {h1 : PH}, Step M rho H M1 rho1 H1 → HR w M1 rho1 H1 h1 →
    watch (wtOf ys x) h1 = true → ∃ vs, SqL w.K H1 a vs ∧ VRs w M1 rho1 H1 ys vs := by
  cases r with
  | scr q s => cases e; exact ⟨_, rfl, ⟨_, q.sq⟩, fun st hr1 _ => ⟨_, (st.scr hr q).sq, s.step st hr⟩⟩
  | @ref n a ha =>
    simp only [lstP] at e
    split at e
    · rename_i zs e0
      cases e
      obtain ⟨a', ha', vs, q1, q2⟩ := hr.ob _ _ e0
      rw [ha] at ha'
      cases ha'
      refine ⟨a, rfl, ⟨vs, .inl (.inl q1)⟩, fun st hr1 hw => ?_⟩
      obtain ⟨a2, ha2, vs2, z1, z2⟩ := hr1.ob _ _ (watch_one hw)
      rw [st.ext _ _ ha] at ha2
      cases ha2
      exact ⟨vs2, .inl (.inl z1), z2⟩
    · cases e
  | _ => cases e
theorem seq_cases {x : PV} {ys : List PV} (e : seqP h x = some ys) : x = .tup ys ∨ lstP h x = some ys := by
  cases x <;> first
    | exact .inr e
    | (cases e; exact .inl rfl)
    | (cases e; done)
theorem mi_enum {e : Expr} {ma : MA} {p pos tpos : Pos} {elts : List Expr} {kk : Nat} (C : Cxt w k X) (hg : Gl X "enumerate") (hm : X.mg "enumerate" = none) (ha : PA X [e] (tA w EX ma)) (hs : starEach [e] X.env = [(false, eval e X.env)] := by rfl) :
    PI X (.Tuple elts kk tpos) (.Call (.Name "enumerate" p) [e] [] pos) (tI w EX (miEnum ma)) := by
  refine ⟨fun pins s σ H R I hh => ?_⟩
  obtain ⟨M, rho, env, h, er, hr, oo⟩ := hh
  refine Call_ (ld_blt I hg hm boot_enumerate (PyProof.Rows.callWith_type1 (thn (ha.run pos pins s σ H _ I (tA.of er hr (Out.bind oo) fun xs h1 M1 rho1 H1 vs st1 er1 hr1 o1 rs =>
    (⟨M1, rho1, h1, xs, hr1, rs, o1⟩ : ∃ M1 rho1 h1 xs, HR w M1 rho1 H1 h1 ∧ VRs w M1 rho1 H1 xs vs ∧ Out w EX M1 rho1 H1 (match xs with
      | [x] => match seqP h1 x with
        | some ys => .ok (numbered 0 ys, wtOf ys x) h1
        | none => .stuck
      | _ => .stuck) (KI w R)))) fun us s1 ⟨vs, H1, I1, r1, M1, rho1, h1, xs, hr1, rs, o1⟩ => ?_) hs rfl))
  split at o1
  · rename_i x
    obtain ⟨v, rfl, rv⟩ := vrs1 rs
    obtain ⟨u, rfl, ru⟩ := vals1 r1
    split at o1
    · rename_i ys es
      have q := o1.now hr1
      rcases seq_cases es with rfl | el
      · cases rv with
        | @tup _ us' a sq rs' =>
          obtain rfl : u = Value.ref a := ru
          have hR := q _ (gives_enumT hr1 sq rs')
          rw [← C.hK] at hR sq
          obtain ⟨its, rv, p', hz⟩ := I1.tuple sq
          have hal : a < s1.heap.objs.size := by obtain ⟨_, q, _⟩ := (show s1.heap.IsTuple a its.toArray from p'); exact Heap.lt_size q
          refine callEnum (begins_tuple a its.toArray) p' fun h' he hit hsz hk => wpAny_pyIter_enum he ?_
          have I2 : Inv X pins σ H1 { s1 with heap := h' } := I1.kept (t' := s1.toks) hk
          refine ⟨s1.heap.objs.size + 1, [s1.heap.objs.size + 1, s1.heap.objs.size], _, _, H1, rfl, I2, turnE a (s1.heap.objs.size + 1) s1.heap.objs.size, ⟨⟨.none, he⟩, ⟨_, hit, rfl, rfl⟩, Nat.succ_ne_self _, Nat.ne_of_lt hal, Nat.ne_of_lt (Nat.lt_succ_of_lt hal)⟩, fun b hb => ?_, hR⟩
          have e' : b = s1.heap.objs.size + 1 ∨ b = s1.heap.objs.size := by simpa using hb
          have hle : s1.heap.objs.size ≤ b := by rcases e' with rfl | rfl <;> omega
          exact I1.fpOk hle (I1.hok.fresh hle)
      · obtain ⟨a, rfl, ⟨vs, hq⟩, hst⟩ := lst_stays hr1 rv el
        obtain rfl : u = Value.ref a := ru
        have hR := q _ (gives_enumL hst)
        rw [← C.hK] at hR hq
        obtain ⟨its, rv, p', hz⟩ := I1.list hq
        refine call_enumerate_list p'.isList fun h' he hit hsz hk => wpAny_pyIter_enum he ?_
        have I2 : Inv X pins σ H1 { s1 with heap := h' } := I1.kept (t' := s1.toks) hk
        refine ⟨s1.heap.objs.size + 1, [s1.heap.objs.size + 1, s1.heap.objs.size], _, _, H1, rfl, I2, turn_enum a (s1.heap.objs.size + 1) s1.heap.objs.size, ⟨⟨.none, he⟩, hit, Nat.succ_ne_self _⟩, fun b hb => ?_, hR⟩
        have e' : b = s1.heap.objs.size + 1 ∨ b = s1.heap.objs.size := by simpa using hb
        have hle : s1.heap.objs.size ≤ b := by rcases e' with rfl | rfl <;> omega
        exact I1.fpOk hle (I1.hok.fresh hle)
    · exact (show False from o1).elim
  · exact (show False from o1).elim
end
end MC

end
section
set_option maxRecDepth 100000
set_option maxHeartbeats 4000000
namespace MC
open PySem PySem.Spec PyProof.Rows L2

def pairs : List PV → List PV → List PV
  | x :: xs, y :: ys => .tup [x, y] :: pairs xs ys
  | _, _ => []
theorem pairs_len : ∀ (xs ys : List PV), (pairs xs ys).length = min xs.length ys.length
  | [], _ => by simp [pairs]
  | _ :: _, [] => by simp [pairs]
  | x :: xs, y :: ys => by simp only [pairs, List.length_cons, pairs_len xs ys]; omega
theorem pairs_get : ∀ {xs ys : List PV} {i : Nat} {x y : PV}, xs[i]? = some x → ys[i]? = some y → (pairs xs ys)[i]? = some (.tup [x, y])
  | [], _, _, _, _, h, _ => by simp at h
  | _ :: _, [], _, _, _, _, h => by simp at h
  | x :: xs, y :: ys, 0, _, _, h, g => by simp at h g; subst h; subst g; rfl
  | x :: xs, y :: ys, i + 1, _, _, h, g => by
    simp only [pairs, List.getElem?_cons_succ]
    exact pairs_get (by simpa using h) (by simpa using g)
def miZip (ma : MA) : MI := fun env h => (ma env h).bind fun xs h1 => match xs with
  | [x, y] => match x, y with
    | .tup xs, .tup ys => .ok (pairs xs ys, []) h1
    | x, y => match lstP h1 x, lstP h1 y with
      | some xs, some ys => .ok (pairs xs ys, wtOf xs x ++ wtOf ys y) h1
      | _, _ => .stuck
  | _ => .stuck
section
variable {w : Wo} {EX : XC} {X : Cx} {k : Nat} {M : Addr → Prop} {rho : List Addr} {H : Hp} {h : PH}
theorem watch_app : ∀ {a b : Wt} {h : PH}, watch (a ++ b) h = true → watch a h = true ∧ watch b h = true
  | [], _, _, e => ⟨rfl, e⟩
  | (n, xs) :: r, b, h, e => by
    rw [List.cons_append] at e
    unfold watch at e
    rw [Bool.and_eq_true] at e
    obtain ⟨e1, e2⟩ := watch_app e.2
    refine ⟨?_, e2⟩
    unfold watch
    rw [Bool.and_eq_true]
    exact ⟨e.1, e1⟩
theorem zip_yield {xs ys : List PV} {vs us : List V} {H1 : Hp} {M1 : Addr → Prop} {rho1 : List Addr} {h1 : PH} (hr : HR w M1 rho1 H1 h1) (rx : VRs w M1 rho1 H1 xs vs) (ry : VRs w M1 rho1 H1 ys us) {i : Nat} {T : Addr} {x y : V} (n : H1 T = none) (ex : vs[i]? = some x) (ey : us[i]? = some y) :
    (∀ b o, H1 b = some o → upd H1 T (.tup [x, y]) b = some o) ∧ ∃ z, (pairs xs ys)[i]? = some z ∧ VR w M1 rho1 (upd H1 T (.tup [x, y])) z (.ref T) := by
  have l1 : i < xs.length := by rw [← rx.length]; exact (List.getElem?_eq_some_iff.mp ex).1
  have l2 : i < ys.length := by rw [← ry.length]; exact (List.getElem?_eq_some_iff.mp ey).1
  obtain ⟨v', f1, f2⟩ := rx.get (List.getElem?_eq_getElem l1)
  obtain ⟨u', f3, f4⟩ := ry.get (List.getElem?_eq_getElem l2)
  rw [ex] at f1
  rw [ey] at f3
  cases f1
  cases f3
  obtain ⟨g1, g2⟩ := pair_new hr n f2 f4
  exact ⟨g1, _, pairs_get (List.getElem?_eq_getElem l1) (List.getElem?_eq_getElem l2), g2⟩
theorem mi_zip {e e2 : Expr} {ma : MA} {p pos tpos : Pos} {elts : List Expr} {kk : Nat} (C : Cxt w k X) (hg : Gl X "zip") (hm : X.mg "zip" = none) (ha : PA X [e, e2] (tA w EX ma))
    (hs : starEach [e, e2] X.env = (false, eval e X.env) :: starEach [e2] X.env := by rfl) (hpl : (backTo pos (starEach [e2] X.env)).any (·.1) = false := by rfl) :
    PI X (.Tuple elts kk tpos) (.Call (.Name "zip" p) [e, e2] [] pos) (tI w EX (miZip ma)) := by
  refine PI.imp (RZ.pi_zipA hg hm ha hs hpl) fun σ H R hh => ?_
  obtain ⟨M, rho, env, h, er, hr, oo⟩ := hh
  refine tA.of er hr (Out.bind oo) fun xs h1 M1 rho1 H1 vs st1 er1 hr1 o1 rs => ?_
  split at o1
  · rename_i x y
    obtain ⟨v, u, rfl, rv, ru⟩ := vrs2 rs
    split at o1
    · rename_i xs ys
      have q := o1.now hr1
      cases rv with
      | @tup _ vs a sa ra =>
        cases ru with
        | @tup _ us b sb rb =>
          refine ⟨a, b, vs, us, rfl, .inr ⟨by rw [C.hK]; exact sa, by rw [C.hK]; exact sb, ?_⟩⟩
          rw [C.hK]
          refine q _ ⟨fun {M2 rho2 H2 h2} st hr2 hw i => ?_⟩
          have sa := st.sqT hr1 sa
          have sb := st.sqT hr1 sb
          have ra := ra.step st hr1
          have rb := rb.step st hr1
          rw [pairs_len]
          refine ⟨fun hi => ?_, fun hi => ⟨vs, us, sa, sb, by rw [ra.length, rb.length]; omega⟩, fun v H' hi y => ?_⟩
          · have l1 : i < vs.length := by rw [ra.length]; omega
            have l2 : i < us.length := by rw [rb.length]; omega
            exact ⟨vs, us, vs[i], us[i], sa, sb, List.getElem?_eq_getElem l1, List.getElem?_eq_getElem l2⟩
          · obtain ⟨T, x, z, e1, e2, e3, e4, e5⟩ := y
            subst e1; subst e3
            exact zip_yield hr2 ra rb e2 (e4 vs sa) (e5 us sb)
    · split at o1
      · rename_i xs ys ex ey
        have q := o1.now hr1
        obtain ⟨a, rfl, ⟨vs0, hq1⟩, s1⟩ := lst_stays hr1 rv ex
        obtain ⟨b, rfl, ⟨us0, hq2⟩, s2⟩ := lst_stays hr1 ru ey
        refine ⟨a, b, vs0, us0, rfl, .inl ⟨by rw [C.hK]; exact hq1, by rw [C.hK]; exact hq2, ?_⟩⟩
        rw [C.hK]
        refine q _ ⟨fun {M2 rho2 H2 h2} st hr2 hw i => ?_⟩
        obtain ⟨w1, w2⟩ := watch_app hw
        obtain ⟨vs, sa, ra⟩ := s1 st hr2 w1
        obtain ⟨us, sb, rb⟩ := s2 st hr2 w2
        rw [pairs_len]
        refine ⟨fun hi => ?_, fun hi => ⟨vs, us, sa, sb, by rw [ra.length, rb.length]; omega⟩, fun v H' hi y => ?_⟩
        · have l1 : i < vs.length := by rw [ra.length]; omega
          have l2 : i < us.length := by rw [rb.length]; omega
          exact ⟨vs, us, vs[i], us[i], sa, sb, List.getElem?_eq_getElem l1, List.getElem?_eq_getElem l2⟩
        · obtain ⟨T, x, z, e1, e2, e3, e4, e5⟩ := y
          subst e1; subst e3
          exact zip_yield hr2 ra rb e2 (e4 vs sa) (e5 us sb)
      · exact (show False from o1).elim
  · exact (show False from o1).elim
end
end MC

end
section
set_option maxRecDepth 100000
set_option maxHeartbeats 4000000
namespace MC
open PySem PySem.Spec PyProof.Rows L2

theorem kit_tc {K : PySem.W.Frag} {C : Addr} {cd : ClassData} {a : String} {b : Bool} (h1 : PySem.W.clsIn K C = some cd) (h2 : PySem.W.typeIn K (.ref C) = some (.type "type")) (h3 : PySem.W.subIn K (.type a) (.ref C) = some b) : PySem.W.kitOne K (.type a) (.ref C) = some b := by
  unfold PySem.W.kitOne PySem.W.kitCls
  have e : (Value.type a == Value.ref C) = false := rfl
  simp only [e, h1, h2, h3]
  rfl
theorem kit_ct {K : PySem.W.Frag} {C : Addr} {T : String} {b : Bool} (h1 : PySem.W.kitMeta T = true) (h3 : PySem.W.subIn K (.ref C) (.type T) = some b) : PySem.W.kitOne K (.ref C) (.type T) = some b := by
  unfold PySem.W.kitOne PySem.W.kitCls
  have e : (Value.ref C == Value.type T) = false := rfl
  simp only [e, h1, h3]
  rfl
theorem kit_cc {K : PySem.W.Frag} {C : Addr} : PySem.W.kitOne K (.ref C) (.ref C) = some true := if_pos (beq_self_eq_true _)
abbrev EXF : XC := fun _ _ _ _ _ _ => False
abbrev exF : XK → XC := fun _ => EXF
/-- a call of a def; a class made and taken over as a value -/
@[reducible] def opF (m : MF) (ix : List Nat) (dp : List PV) : OC := fun h xs => callG takeBack m (gI ix (xs ++ dp)) h
@[reducible] def opC (c : Nat) (m : MF) (ix : List Nat) (dp : List PV) : OC := fun h xs => callG takeFrz (initM c m ix dp) xs h
/-- a while's turns -/
def WF : Nat := 20000
/-- the law's reading: the script is an unchanging list of ints -/
theorem law_reads {w : Wo} {EX : XC} {m : MF} {H : Hp} {a : Addr} {ns : List Int} (hO : Only H) (hS : SqL w.K H a (ns.map V.int)) (hm : ∃ h, m [.scr (ns.map PV.int)] [] = .ok (.bl true) h) :
    spM w EX m [.ref a] H fun v _ => v = .bl true := by
  obtain ⟨h, hm⟩ := hm
  have rs : ∀ ns : List Int, VRs w (fun _ => False) [] H (ns.map PV.int) (ns.map V.int) := fun ns => by
    induction ns with
    | nil => exact .nil
    | cons n r ih => exact .cons (.int n) ih
  have hL : ScrL w (fun _ => False) H a (ns.map V.int) := by
    rcases hS with (q | ⟨o, q⟩) | q
    · rcases hO a with z | ⟨o, xs, z⟩ <;> (rw [q] at z; cases z)
    · exact .inr ⟨o, q, fun z => z⟩
    · exact .inl q
  refine ⟨fun _ => False, [], [.scr (ns.map PV.int)], [], .cons (.scr hL (rs ns)) .nil, ⟨rfl, List.nodup_nil, (fun _ z => nomatch z), (fun _ z => z.elim), fun n o z => by simp at z⟩, ?_⟩
  rw [hm]
  intro M' rho' H' st hr v rv
  cases rv
  rfl

theorem law_run {P : Program} {W : World} {K : PySem.W.Frag} {mg mb : Str → Option Value} {k : Nat} {fa a : Addr} {fd : FuncData} {x : Str} {m : MF} {s : Shared} {vs : List Value} {ns : List Int}
    (kin : K.In s.heap) (nsG : s.heap.Ns mainGlobals mg) (nsB : s.heap.Ns builtinsNs mb) (isB : ∀ y : Str, y ≠ "__name__" → mb y = bootBuiltins y) (noL : s.heap.NoLimit) (gen0 : s.gens = #[])
    (at0 : s.heap.get? a = some { cls := .type "list", data := .seq vs.toArray }) (areI : IntsAre vs ns) (le : ns.length ≤ sizeLine) (room : Room k callerA)
    (F : ∀ base : Heap, K.In base → base.Ns mainGlobals mg → ∃ w : Wo, w.K = K ∧ FnM P W w mg base CX0 exF k fa fd [x] m) (bind : ∀ (s : Shared) (u : Value), BindsTo s fd ⟨[u], []⟩ [(x, u)])
    (hm : ∃ h, m [.scr (ns.map PV.int)] [] = .ok (.bl true) h) :
    codeAny (model P W) callerA (.call (.ref fa) ⟨[.ref a], []⟩) (fun r s' => r = .ok (.ret (.bool true)) ∧ OldK s.heap s'.heap ∧ s'.os = s.os ∧ AllBare s'.gens) s := by
  have vals := vals_ints areI
  have sz := areI.length
  have main : ∀ H : Hp, Only H → SqL K H a (ns.map V.int) → HOk P W H s.heap → (∀ b, H b ≠ none → b = a) → (H a ≠ none → K.lookup a = none) →
      codeAny (model P W) callerA (.call (.ref fa) ⟨[.ref a], []⟩) (fun r s' => r = .ok (.ret (.bool true)) ∧ OldK s.heap s'.heap ∧ s'.os = s.os ∧ AllBare s'.gens) s := by
    intro H only sq ok onlyA noK
    have none_of : ∀ {b : Addr} {ob : Obj}, s.heap.get? b = some ob → (b = a → False) → H b = none := fun {b ob} e z => by
      cases q : H b with
      | none => rfl
      | some u => exact (z (onlyA b (by rw [q]; exact Option.some_ne_none _))).elim
    have kept : ∀ {b : Addr} {mm : Str → Option Value}, s.heap.Ns b mm → (hidT s.heap H).Ns b mm := fun {b mm} ⟨ob, es, ep, e, d, r⟩ =>
      ⟨ob, es, ep, hidT_get e (none_of e fun z => by subst z; rw [at0] at e; cases e; exact Data.noConfusion (show Data.seq vs.toArray _ = Data.dict es ep from d)), d, r⟩
    have inK : K.In (hidT s.heap H) := fun b ob e => hidT_get (kin b ob e) (by
      cases q : H b with
      | none => rfl
      | some u =>
        have z := onlyA b (by rw [q]; exact Option.some_ne_none _)
        subst z
        rw [noK (by rw [q]; exact Option.some_ne_none _)] at e
        cases e)
    obtain ⟨w, hw, FM⟩ := F _ inK (kept nsG)
    have md : Mod K mg (hidT s.heap H) := ⟨inK, kept nsG, ⟨mb, kept nsB, isB⟩, by obtain ⟨mc, z1, z2⟩ := noL; exact ⟨mc, kept z1, z2⟩⟩
    have env : Env0 P W w.K mg (hidT s.heap H) callerA [] s H := by
      rw [hw]
      exact ⟨rfl, md, fun b ob e => of_hidT e, Nat.le_of_eq (hidT_size _ _), trivial, fun b z => by simp [frs] at z, ok, .of_eq gen0⟩
    refine codeAny_mono (FM.run callerA [] s H ⟨[.ref a], []⟩ [.ref a] [.ref a] (fun v _ => v = .bl true) (fun _ _ _ => False) room rfl env (bind s (.ref a)) (.cons rfl .nil) rfl (law_reads only (by rw [hw]; exact sq) hm)) fun r s' q => ?_
    rcases r with e | fl
    · exact (show False from q).elim
    · cases fl <;> try exact (show False from q).elim
      rename_i u
      obtain ⟨v, H', e1, e2, un, ok2, rv, ev⟩ := q
      cases (show v = V.bl true from ev)
      cases (show u = Value.bool true from rv)
      refine ⟨rfl, OldK.of_keep fun b ob e => ?_, e1, e2⟩
      rcases only b with z | ⟨o2, xs, z⟩
      · exact un.keep b ob e z (fun y => by simp [frs] at y) (by simp)
      · obtain ⟨y1, _⟩ := ok b _ z
        obtain ⟨y2, _⟩ := ok2 b _ (un.frzs b o2 _ z)
        rw [e] at y1
        cases y1
        exact y2
  rcases hk : K.lookup a with _ | o
  · refine main (fun b => if b = a then some (.frz { cls := .type "list", data := .seq vs.toArray } (.lst (ns.map V.int))) else none) (fun b => ?_) (.inl (.inr ⟨_, if_pos rfl⟩)) (fun b u z => ?_) (fun b z => ?_) fun _ => hk
    · by_cases e : b = a
      · exact .inr ⟨_, _, if_pos e⟩
      · exact .inl (if_neg e)
    · by_cases e : b = a
      · cases (if_pos e).symm.trans z
        subst e
        exact ⟨at0, by rw [List.length_map]; exact le, vs, _, vals, at0⟩
      · cases (if_neg e).symm.trans z
    · by_cases e : b = a
      · exact e
      · exact absurd (if_neg e) z
  · have e := kin a o hk
    rw [at0] at e
    cases e
    exact main (fun _ => none) (fun _ => .inl rfl) (.inr ⟨_, vs.toArray, _, hk, rfl, rfl, rfl, by rw [List.size_toArray, sz]; exact le, by simpa using vals⟩) (fun b u z => by cases (show (none : Option HO) = some u from z)) (fun b z => absurd rfl z) fun z => absurd rfl z

/-- the walk: from the law's mirror, true on every script -/
theorem walkM {l : PySem.W.OpenLaw} {n k : Nat} {q : Program} {loose : List Str} {XP : (Str → Option Value) → Heap → Prop} {YP : World → Heap → Prop} {d : DefRec} {K : Params → PySem.W.Frag} {x : Str} {m : MF}
    (hn : l.most = some n) (le : n ≤ sizeLine) (hdf : d.params.defaults = []) (room : Room k callerA) (hY : ∀ (W : World) (h : Heap), YP W h → (K W.params).In h)
    (F : ∀ (W : World) (mg : Str → Option Value) (fa : Addr) (h : Heap), (K W.params).In h → h.Ns mainGlobals mg → mg d.name = some (.ref fa) →
      ∃ fd : FuncData, (∀ (s : Shared) (u : Value), BindsTo s fd ⟨[u], []⟩ [(x, u)]) ∧
        ∀ base : Heap, (K W.params).In base → base.Ns mainGlobals mg → ∃ w : Wo, w.K = K W.params ∧ FnM l.prog W w mg base CX0 exF k fa fd [x] m)
    (hm : ∀ ns : List Int, ns.length ≤ n → ∃ h, m [.scr (ns.map PV.int)] [] = .ok (.bl true) h) : PySem.W.WalkO q loose XP YP l.row.toRowW d [] (fun f vs => PySem.call f vs) := by
  refine Att.attach_call hn hdf fun W s0 s1 mg mb fa o pm cd doc a vs ns G Y ho hd hcd hmg hobj areI hlen gen0 => ?_
  obtain ⟨fd, hb, hF⟩ := F W mg fa _ (hY W _ Y) G.T.g hmg
  exact law_run (hY W _ Y) G.T.g G.T.b G.T.builtins G.T.nolimit gen0 hobj areI (Nat.le_trans hlen le) room hF hb (hm ns hlen)
end MC

end
section
set_option maxRecDepth 100000
set_option maxHeartbeats 4000000
namespace MC
open PySem PySem.Spec PyProof.Rows L2

def putKP (k x : PV) (kvs : List (PV × PV)) : List (PV × PV) := bif (lookP k kvs).isSome then kvs.map (fun p => bif keyQ p.1 k then (p.1, x) else p) else kvs ++ [(k, x)]
section
variable {w : Wo} {EX : XC} {X : Cx} {k : Nat} {M : Addr → Prop} {rho : List Addr} {H : Hp} {h : PH}
theorem KRs.append : ∀ {as bs : List (PV × PV)} {cs ds : List (Key × V)}, KRs w M rho H as cs → KRs w M rho H bs ds → KRs w M rho H (as ++ bs) (cs ++ ds)
  | _, _, _, _, .nil, s => s
  | _, _, _, _, .cons k r t, s => .cons k r (KRs.append t s)
theorem KRs.put {q x : PV} {j : Key} {v : V} {v0 : V} {kvs : List (PV × PV)} {ks : List (Key × V)} (hx : isKey q = true) (rq : VR w M rho H q v0) (hq : keyP q = some j) (rx : VR w M rho H x v) (r : KRs w M rho H kvs ks) : KRs w M rho H (putKP q x kvs) (putK ks j v) := by
  have rep : ∀ {kvs : List (PV × PV)} {ks : List (Key × V)}, KRs w M rho H kvs ks → KRs w M rho H (kvs.map fun p => bif keyQ p.1 q then (p.1, x) else p) (ks.map fun kv => if kv.1 = j then (kv.1, v) else kv) := by
    intro kvs
    induction kvs with
    | nil => intro ks r; cases r; exact .nil
    | cons p kvs ih =>
      intro ks r
      cases r with
      | @cons k y i u _ gs hk hv ht =>
        obtain ⟨i', h1', _, e⟩ := keyQ_iff hk hx rq
        rw [hq] at h1'
        cases h1'
        rw [List.map_cons, List.map_cons]
        by_cases q : i = j
        · simp only [e, q, decide_true, cond_true, if_true]
          exact .cons (by rw [← q]; exact hk) rx (ih ht)
        · simp only [e, q, decide_false, cond_false, if_false]
          exact .cons hk hv (ih ht)
  obtain ⟨i, h1, _, h3⟩ := lookP_ok hx rq
  rw [hq] at h1
  cases h1
  unfold putKP putK
  rcases h3 r with ⟨z1, z2⟩ | ⟨y, u, z1, z2, _⟩
  · rw [valV_any, z1, z2]
    exact r.append (.cons hq rx .nil)
  · rw [valV_any, z1, z2]
    exact rep r

/-- o[i] = v: lists and dicts -/
def oSetIxD : O3 := fun h o i v => match o with
  | .ref n => match h[n]? with
    | some (.dic false kvs) => bif isKey i && decide (kvs.length < LIM) then .ok () (h.set n (.dic false (putKP i v kvs))) else .stuck
    | _ => oSetIx h o i v
  | _ => .stuck
theorem ref_dic (hr : HR w M rho H h) {n : Nat} {v : V} {kvs : List (PV × PV)} (r : VR w M rho H (.ref n) v) (e : h[n]? = some (.dic false kvs)) : ∃ a ks, v = .ref a ∧ rho[n]? = some a ∧ H a = some (.dK ks) ∧ KRs w M rho H kvs ks := by
  cases r with
  | ref ha =>
    obtain ⟨a', ha', ks, q1, q2⟩ := hr.ob _ _ e
    rw [ha] at ha'
    cases ha'
    exact ⟨_, ks, rfl, ha, q1, q2⟩
theorem p_setIxD (C : Cxt w k X) : PSet X (r3 w EX oSetIxD) := by
  intro pins s σ H o j v ov iv u Q I ro ri rv ⟨M, rho, h, po, pi, pv, hr, so, si, sv, oo⟩
  have hu := C.units
  unfold oSetIxD at oo
  split at oo
  · rename_i n
    split at oo
    · rename_i kvs e0
      obtain ⟨hc, oo⟩ := Out.bif oo
      rw [Bool.and_eq_true] at hc
      obtain ⟨a, ks, rfl, ha, q1, q2⟩ := ref_dic hr so e0
      obtain rfl : ov = Value.ref a := ro
      obtain ⟨i, e1, e2, _⟩ := lookP_ok hc.1 si
      subst e2
      have hl : ks.length < sizeLine := by rw [q2.length, lim_eq]; exact of_decide_eq_true hc.2
      refine d_setItem (by omega) I (.inl ⟨ks, i, q1, rfl, hl, rfl⟩) ri rv fun s' I' => ⟨_, I', ?_⟩
      have nf : ∀ p u, H a ≠ some (.frz p u) := fun p u z => by rw [q1] at z; cases z
      have st := Step.write hr (o := .dK (putK ks i v)) ha nf
      exact oo _ _ _ st (hr.write ha nf ⟨_, upd_same, (q2.put hc.1 si e1 sv).step st hr⟩)
    · exact p_setIx pins s σ H o j v ov iv u Q I ro ri rv ⟨M, rho, h, _, pi, pv, hr, so, si, sv, oo⟩
  · exact (show False from oo).elim

/-- the pairs of a display -/
def mkKs : List PV → Option (List (PV × PV))
  | [] => some []
  | k :: v :: r => match mkKs r with
    | some ps => bif isKey k then some ((k, v) :: ps) else none
    | none => none
  | _ => none
def putAll : List (PV × PV) → List (PV × PV) → List (PV × PV)
  | kvs, [] => kvs
  | kvs, (k, v) :: r => putAll (putKP k v kvs) r
def mDict (ma : MA) : ME := fun env h => (ma env (h ++ [.dic false []])).bind fun xs h1 => match h1[h.length]?, mkKs xs with
  | some (.dic false []), some ps => bif decide (ps.length ≤ 15) then .ok (.ref h.length) (h1.set h.length (.dic false (putAll [] ps))) else .stuck
  | _, _ => .stuck
def mDict0 : ME := fun _ h => .ok (.ref h.length) (h ++ [.dic false []])
/-- the pairs, read one behind the other -/
structure PPm (X : Cx) (w : Wo) (EX : XC) (pos : Pos) (keys : List (Option Expr)) (values : List Expr) (m : MA) : Prop where
  run : ∃ trs : List (TE × TE), PPs X pos keys values trs ∧ ∀ (σ : L2.St) (H : Hp) (Q : List (V × V) → Hp → Prop), tA w EX m σ H (fun vs H1 => ∀ ps : List (V × V), vs = ps.flatMap (fun p => [p.1, p.2]) → Q ps H1) → tPairs trs σ H Q
theorem md_nil {pos : Pos} : PPm X w EX pos [] [] maNil := ⟨[], pps_nil, fun σ H Q hh => by
  obtain ⟨M, rho, env, h, er, hr, o⟩ := hh
  exact o.now hr [] .nil [] rfl⟩
theorem md_cons {pos : Pos} {kx vx : Expr} {ks : List (Option Expr)} {vs : List Expr} {mk mv : ME} {m : MA} (hk : PE X kx (tM w EX mk)) (hv : PE X vx (tM w EX mv)) (hr : PPm X w EX pos ks vs m) :
    PPm X w EX pos (some kx :: ks) (vx :: vs) (maCons mk (maCons mv m)) := by
  obtain ⟨trs, h1, h2⟩ := hr.run
  refine ⟨_, pps_cons hk hv h1, fun σ H Q hh => ?_⟩
  obtain ⟨M, rho, env, h, er, hr, o⟩ := hh
  refine tM.of er hr (Out.bind o) fun x h1 M1 rho1 H1 v st1 er1 hr1 o1 rv => ?_
  refine tM.of er1 hr1 (Out.bind (Out.bind o1)) fun y h2' M2 rho2 H2 u st2 er2 hr2 o2 ru => ?_
  refine h2 σ H2 _ ⟨M2, rho2, env, h2', er2, hr2, (Out.bind o2).imp fun zs h3 M3 rho3 H3 st3 hr3 o3 ws rs ps e => ?_⟩
  have o4 : Out w EX M3 rho3 H3 (.ok (x :: y :: zs) h3) (KA w fun vs H1 => ∀ ps : List (V × V), vs = ps.flatMap (fun p => [p.1, p.2]) → Q ps H1) := o3.now hr3
  exact o4.now hr3 (v :: u :: ws) (.cons ((rv.step st2 hr1).step st3 hr2) (.cons (ru.step st3 hr2) rs)) ((v, u) :: ps) (by rw [e]; rfl)
theorem mkKs_ok : ∀ {xs : List PV} {vs : List V} {ps : List (PV × PV)} {qs : List (V × V)}, VRs w M rho H xs vs → mkKs xs = some ps → vs = qs.flatMap (fun p => [p.1, p.2]) →
    ∃ ks : List (Key × V), qs = ks.map (fun kv => (kV kv.1, kv.2)) ∧ KRs w M rho H ps ks ∧ ps.length = ks.length
  | [], _, ps, qs, r, e, eq => by
    cases r
    cases e
    cases qs with
    | nil => exact ⟨[], rfl, .nil, rfl⟩
    | cons q qs => simp at eq
  | [x], _, ps, qs, r, e, eq => by cases e
  | x :: y :: xs, _, ps, qs, r, e, eq => by
    cases r with
    | cons r1 r2 =>
      cases r2 with
      | cons r2 r3 =>
        unfold mkKs at e
        split at e
        · rename_i ps' e1
          cases hk : isKey x with
          | false => rw [hk, cond_false] at e; cases e
          | true =>
            rw [hk, cond_true] at e
            cases e
            cases qs with
            | nil => simp at eq
            | cons q qs =>
              obtain ⟨qa, qb⟩ := q
              simp only [List.flatMap_cons, List.cons_append, List.nil_append, List.cons.injEq] at eq
              obtain ⟨rfl, rfl, eq⟩ := eq
              obtain ⟨ks, h1, h2, h3⟩ := mkKs_ok r3 e1 eq
              obtain ⟨i, e2, e3, _⟩ := lookP_ok hk r1
              exact ⟨(i, _) :: ks, by rw [List.map_cons, h1, e3], .cons e2 r2 h2, by rw [List.length_cons, List.length_cons, h3]⟩
        · cases e
theorem KRs.putAll : ∀ {ps : List (PV × PV)} {ks : List (Key × V)} {kvs : List (PV × PV)} {gs : List (Key × V)}, KRs w M rho H ps ks → KRs w M rho H kvs gs → KRs w M rho H (putAll kvs ps) (mergeK gs ks)
  | _, _, _, _, .nil, r => r
  | _, _, kvs, gs, .cons (k := q) (j := j) hk hx ht, r => by
    have rq : VR w M rho H q (kV j) := by
      cases q <;> (unfold keyP at hk; cases hk)
      · exact .int _
      · exact .str _
    have hq : isKey q = true := by
      cases q <;> (unfold keyP at hk; cases hk) <;> rfl
    have z := KRs.putAll ht (r.put hq rq hk hx)
    exact z
theorem me_dict {pos : Pos} {keys : List (Option Expr)} {values : List Expr} {m : MA} (B : PPm X w EX pos keys values m) (hall : keys.all (·.isSome) = true := by rfl) (hl : keys.length = values.length := by rfl) (h0 : keys ≠ [] := by exact fun e => nomatch e) (h15 : keys.length ≤ 15 := by decide) :
    PE X (.Dict keys values pos) (tM w EX (mDict m)) := by
  obtain ⟨trs, h1, h2⟩ := B.run
  refine PE.imp (pe_disp h1 hall hl h0 h15) fun σ H Q hh => ?_
  obtain ⟨M, rho, env, h, er, hr, o⟩ := hh
  intro p hp
  have st := Step.alloc (M := M) (rho := rho) (o := .dK []) hp
  have hr1 := hr.alloc hp (po := .dic false []) ⟨[], upd_same, .nil⟩
  have hi : (rho ++ [p])[h.length]? = some p := by
    rw [List.getElem?_append_right (by rw [hr.len]; exact Nat.le_refl _), hr.len, Nat.sub_self]; rfl
  refine h2 σ _ _ (tA.of (er.step st hr) hr1 (Out.bind (o.step st)) fun xs h3 M3 rho3 H3 vs st3 er3 hr3 o3 rs qs eq => ?_)
  split at o3
  · rename_i ps e1 e2
    obtain ⟨hc, o3⟩ := Out.bif o3
    obtain ⟨ks, k1, k2, k3⟩ := mkKs_ok rs e2 eq
    have ha := st3.ext _ _ hi
    obtain ⟨a', ha', gs, q1, q2⟩ := hr3.ob _ _ e1
    rw [ha] at ha'
    cases ha'
    cases q2
    refine ⟨q1, ks, k1, by rw [← k3]; exact of_decide_eq_true hc, ?_⟩
    have nf : ∀ p' u, H3 p ≠ some (.frz p' u) := fun p' u z => by
      have q1' : H3 p = some (.dK []) := q1
      rw [q1'] at z; cases z
    have st4 := Step.write hr3 (o := .dK (mergeK [] ks)) ha nf
    exact o3 _ _ _ st4 (hr3.write ha nf ⟨_, upd_same, (KRs.putAll k2 .nil).step st4 hr3⟩) _ (.ref (st4.ext _ _ ha))
  · exact (show False from o3).elim
theorem me_dict0 {pos : Pos} : PE X (.Dict [] [] pos) (tM w EX mDict0) := by
  refine PE.imp pe_dnewK fun σ H Q hh => ?_
  obtain ⟨M, rho, env, h, er, hr, o⟩ := hh
  intro p hp
  have st := Step.alloc (M := M) (rho := rho) (o := .dK []) hp
  have hr1 := hr.alloc hp (po := .dic false []) ⟨[], upd_same, .nil⟩
  have hi : (rho ++ [p])[h.length]? = some p := by
    rw [List.getElem?_append_right (by rw [hr.len]; exact Nat.le_refl _), hr.len, Nat.sub_self]; rfl
  exact o _ _ _ st hr1 _ (.ref hi)

def lookD (h : PH) (x k d : PV) : R PV := match x with
  | .ref n => match h[n]? with
    | some (.dic _ kvs) => bif isKey k then .ok ((lookP k kvs).getD d) h else .stuck
    | _ => .stuck
  | .rdic kvs => bif isKey k then .ok ((lookP k kvs).getD d) h else .stuck
  | _ => .stuck
def isDic (h : PH) : PV → Bool
  | .ref n => match h[n]? with
    | some (.dic _ _) => true
    | _ => false
  | .rdic _ => true
  | _ => false
def mGet1 (mo mk : ME) : ME := fun env h => (mo env h).bind fun x h1 => bif isDic h1 x then (mk env h1).bind fun k h2 => lookD h2 x k .non else .stuck
def mGet2 (mo mk md : ME) : ME := fun env h => (mo env h).bind fun x h1 => bif isDic h1 x then (mk env h1).bind fun k h2 => (md env h2).bind fun d h3 => lookD h3 x k d else .stuck
theorem isDic_ok (hr : HR w M rho H h) {x : PV} {v : V} (r : VR w M rho H x v) (e : isDic h x = true) : ∃ a, v = .ref a ∧ IsD H a := by
  cases r <;> try (exact (Bool.false_ne_true e).elim)
  · rename_i kvs ks a o ha hn sa
    exact ⟨a, rfl, .inl ⟨ks, .inr ⟨o, ha⟩⟩⟩
  · rename_i n a ha
    simp only [isDic] at e
    split at e
    · rename_i lk kvs e0
      obtain ⟨b, hb, ks, h1, sa⟩ := hr.ob n _ e0
      rw [ha] at hb; cases hb
      refine ⟨a, rfl, .inl ⟨ks, ?_⟩⟩
      cases lk with
      | false => exact .inl h1
      | true => exact .inr h1
    · cases e
theorem lookD_ok (hr : HR w M rho H h) {x k d : PV} {v y z : V} {Q : VK} (r : VR w M rho H x v) (rk : VR w M rho H k y) (rd : VR w M rho H d z) (o : Out w EX M rho H (lookD h x k d) (KV w Q)) : ∃ a ov, v = .ref a ∧ DGet H a y ov ∧ Q (ov.getD z) H := by
  have core : ∀ {a : Addr} {kvs : List (PV × PV)} {ks : List (Key × V)}, Rd H a (.dK ks) → KRs w M rho H kvs ks → Out w EX M rho H (bif isKey k then .ok ((lookP k kvs).getD d) h else .stuck) (KV w Q) → ∃ ov, DGet H a y ov ∧ Q (ov.getD z) H := by
    intro a kvs ks rdd sa o
    obtain ⟨hx, o⟩ := Out.bif o
    obtain ⟨i, e1, e2, e3⟩ := lookP_ok hx rk
    subst e2
    refine ⟨valV ks i, .inl ⟨ks, i, rdd, rfl, rfl⟩, ?_⟩
    rcases e3 sa with ⟨z1, z2⟩ | ⟨y', u', z1, z2, r'⟩
    · rw [z1] at o; rw [z2]; exact o.now hr _ rd
    · rw [z1] at o; rw [z2]; exact o.now hr _ r'
  cases r <;> try (exact (show False from o).elim)
  · rename_i kvs ks a ob ha hn sa
    obtain ⟨ov, g, q⟩ := core (.inr ⟨ob, ha⟩) sa o
    exact ⟨a, ov, rfl, g, q⟩
  · rename_i n a ha
    have o' : Out w EX M rho H (match h[n]? with
      | some (.dic _ kvs) => bif isKey k then .ok ((lookP k kvs).getD d) h else .stuck
      | _ => .stuck) (KV w Q) := o
    split at o'
    · rename_i lk kvs e0
      obtain ⟨b, hb, ks, h1, sa⟩ := hr.ob n _ e0
      rw [ha] at hb; cases hb
      have rdd : Rd H a (.dK ks) := by
        cases lk with
        | false => exact .inl h1
        | true => exact .inr h1
      obtain ⟨ov, g, q⟩ := core rdd sa o'
      exact ⟨a, ov, rfl, g, q⟩
    · exact (show False from o').elim
theorem me_get1 (C : Cxt w k X) {o e : Expr} {mo mk : ME} {apos cpos : Pos} (ho : PE X o (tM w EX mo)) (he : PE X e (tM w EX mk)) (hm : M1 X o "get" apos e cpos := by exact ⟨rfl, rfl, rfl, rfl⟩) : PE X (.Call (.Attribute o "get" apos) [e] [] cpos) (tM w EX (mGet1 mo mk)) := by
  have hu := C.units
  refine PE.imp (pe_dget1 (by omega) ho he hm) fun σ H Q hh => ?_
  obtain ⟨M, rho, env, h, er, hr, oo⟩ := hh
  refine tM.of er hr (Out.bind oo) fun x h1 M1 rho1 H1 v st1 er1 hr1 o1 rv => ?_
  obtain ⟨hd, o1⟩ := Out.bif o1
  obtain ⟨a, ev, isd⟩ := isDic_ok hr1 rv hd
  refine ⟨a, ev, isd, tM.of er1 hr1 (Out.bind o1) fun y h2 M2 rho2 H2 u st2 er2 hr2 o2 ru => ?_⟩
  obtain ⟨a', ov, ea, g, q⟩ := lookD_ok hr2 (rv.step st2 hr1) ru .non o2
  rw [ev] at ea; cases ea
  exact ⟨ov, g, q⟩
theorem me_get2 (C : Cxt w k X) {o e f : Expr} {mo mk md : ME} {apos cpos : Pos} (ho : PE X o (tM w EX mo)) (he : PE X e (tM w EX mk)) (hf : PE X f (tM w EX md)) (hm : M2 X o "get" apos e f cpos := by exact ⟨rfl, rfl, rfl, rfl⟩) : PE X (.Call (.Attribute o "get" apos) [e, f] [] cpos) (tM w EX (mGet2 mo mk md)) := by
  have hu := C.units
  refine PE.imp (pe_dget2 (by omega) ho he hf hm) fun σ H Q hh => ?_
  obtain ⟨M, rho, env, h, er, hr, oo⟩ := hh
  refine tM.of er hr (Out.bind oo) fun x h1 M1 rho1 H1 v st1 er1 hr1 o1 rv => ?_
  obtain ⟨hd, o1⟩ := Out.bif o1
  obtain ⟨a, ev, isd⟩ := isDic_ok hr1 rv hd
  refine ⟨a, ev, isd, tM.of er1 hr1 (Out.bind o1) fun y h2 M2 rho2 H2 u st2 er2 hr2 o2 ru => ?_⟩
  refine tM.of er2 hr2 (Out.bind o2) fun z h3 M3 rho3 H3 u3 st3 er3 hr3 o3 ru3 => ?_
  obtain ⟨a', ov, ea, g, q⟩ := lookD_ok hr3 ((rv.step st2 hr1).step st3 hr2) (ru.step st3 hr2) ru3 o3
  rw [ev] at ea; cases ea
  exact ⟨ov, g, q⟩

def itemsD (h : PH) : PV → R (List PV × Wt)
  | .ref n => match h[n]? with
    | some (.dic false kvs) => .ok (kvs.map (fun p => .tup [p.1, p.2]), []) (h.set n (.dic true kvs))
    | some (.dic true kvs) => .ok (kvs.map (fun p => .tup [p.1, p.2]), []) h
    | _ => .stuck
  | _ => .stuck
def miItems (m : ME) : MI := fun env h => (m env h).bind fun x h1 => itemsD h1 x
theorem gives_items {a : Addr} {o : Obj} {ks : List (PV × PV)} {gs : List (Key × V)} (hr0 : HR w M rho H h) (q : H a = some (.frz o (.dK gs))) (rv : KRs w M rho H ks gs) : Gives w M rho H (ks.map fun p => .tup [p.1, p.2]) [] (Iti a o gs) := by
  refine ⟨fun {M1 rho1 H1 h1} st hr hw i => ?_⟩
  have q := st.frz _ _ _ q
  have rv := rv.step st hr0
  obtain ⟨hl, hg⟩ := rv.at
  have W := walk_items (d := a) (o := o) (kvs := gs)
  rw [List.length_map, hl]
  refine ⟨fun hi => W.goes i H1 hi q, fun hi => by subst hi; exact W.stops H1 q, fun v H' hi y => ?_⟩
  obtain ⟨T, x, z, e1, e2, e3, e4, e5⟩ := W.yields i H1 v H' hi q y
  subst e1; subst e3
  obtain ⟨p, eg⟩ : ∃ p, gs[i]? = some p := ⟨_, List.getElem?_eq_getElem hi⟩
  obtain ⟨kk, vv⟩ := p
  dsimp only at e4 e5
  rw [eg] at e4 e5
  cases e4
  cases e5
  obtain ⟨p, x, z1, z2, z3⟩ := hg eg
  have sg : Step M1 rho1 H1 M1 rho1 (upd H1 T (.tup [kV kk, vv])) := Step.grow (same_upd e2)
  exact ⟨same_upd e2, .tup [p, x], by rw [List.getElem?_map, z1]; rfl, .tup (SqT.of upd_same) (.cons (z2.step sg hr) (.cons (z3.step sg hr) .nil))⟩
theorem mi_items {e : Expr} {m : ME} {elts : List Expr} {kk : Nat} {tpos apos cpos : Pos} (he : PE X e (tM w EX m)) (hbase : attributeBase e "items" X.env (eval e X.env) = eval e X.env := by rfl) (hline : (apos.endLine == cpos.line) = true := by rfl) :
    PI X (.Tuple elts kk tpos) (.Call (.Attribute e "items" apos) [] [] cpos) (tI w EX (miItems m)) := by
  refine ⟨fun pins s σ H R I h => ?_⟩
  obtain ⟨M, rho, env, hh, er, hr, oo⟩ := h
  refine wpAny_Call_method (T := "dict") (id := "dict.items") hbase rfl hline F.plainAttrs_dict F.slot_dict_items F.type_dict_items (thn (he.run pins s σ H (fun v H1 => ∃ M1 rho1 h1 x, HR w M1 rho1 H1 h1 ∧ VR w M1 rho1 H1 x v ∧ Out w EX M1 rho1 H1 (itemsD h1 x) (KI w R)) I (tM.of er hr (Out.bind oo) fun x h1 M1 rho1 H1 v st1 er1 hr1 o1 rv => ⟨M1, rho1, h1, x, hr1, rv, o1⟩)) fun u s1 ⟨v, H1, I1, ru, M1, rho1, h1, x, hr1, rv, o1⟩ => ?_)
  have go : ∀ {H1 : Hp} {h1 : PH} {d : Addr} {o : Obj} {gs : List (Key × V)} {kvs : List (PV × PV)}, Inv X pins σ H1 s1 → HR w M1 rho1 H1 h1 → H1 d = some (.frz o (.dK gs)) → KRs w M1 rho1 H1 kvs gs → KI w R (kvs.map (fun p => .tup [p.1, p.2]), []) h1 M1 rho1 H1 →
      s1.TypeIs (.ref d) "dict" ∧ (∀ b, Value.ref d = .ref b → ∃ ob, s1.heap.get? b = some ob ∧ ob.dict = none) ∧ wpAny (model X.prog X.w) X.A (callWith cpos (.builtin "dict.items") [.ref d] [] []) (fun it s2 => wpAny (model X.prog X.w) X.A (pyIter it) (PIE X pins σ (.Tuple elts kk tpos) R) X.xe s2) X.xe s1 := by
    intro H1 h1 d o gs kvs I1 hr1 hd rk q
    obtain ⟨hs, hgd, hx, es, ep, vs, hdt, hsz, kv, hm⟩ := I1.frzK hd
    have hl : gs.length = vs.length := Paired.length kv
    refine ⟨hm.dictOf.typeIs, hm.dictOf.mapOf.noDict, ?_⟩
    have I2 : Inv X pins σ H1 { s1 with heap := s1.heap.push { cls := .type "dict_items", data := .fields #[.ref d] } } := I1.kept (t' := s1.toks) fun b ob q => Heap.get?_push_of_some _ q
    have fin : wpAny (model X.prog X.w) X.A (pyIter (.ref s1.heap.objs.size)) (PIE X pins σ (.Tuple elts kk tpos) R) X.xe { s1 with heap := s1.heap.push { cls := .type "dict_items", data := .fields #[.ref d] } } := by
      refine wpAny_pyIter_items (d := d) (knd := mixKind X.prog X.w) ⟨_, Heap.get?_push_size _ rfl, rfl, rfl⟩ (hm.push _) (pi_one (tk := s1.toks) I2 _ (turn_items _ hdt) ⟨.none, .none, ?_⟩ (q _ (gives_items hr1 hd rk)))
      rw [hl]
      exact Heap.get?_push_size _ rfl
    exact method_meetsIn F.slot_dict_items F.entry_dict_items rfl (PySem.evalArgs_none ⟨rfl, hm.dictOf.typeIs, F.args_dict_items_1 _, _, meets_dict_items (mixKind X.prog X.w) d hs, ⟨vs, hm.dictOf⟩, fin⟩)
  cases x <;> try exact (show False from o1).elim
  rename_i n
  simp only [itemsD] at o1
  split at o1
  · rename_i kvs e0
    obtain ⟨a, od, ks, rfl, I', st, hr', rk⟩ := lock_dic I1 hr1 rv e0
    obtain rfl : u = Value.ref a := ru
    exact go I' hr' upd_same rk (o1 _ _ _ st hr')
  · rename_i kvs e0
    cases rv with
    | @ref n a ha =>
      obtain rfl : u = Value.ref a := ru
      obtain ⟨a', ha', ks, ⟨od, q1⟩, q2⟩ := hr1.ob _ _ e0
      rw [ha] at ha'
      cases ha'
      exact go I1 hr1 q1 q2 (o1.now hr1)
  · exact (show False from o1).elim
end
end MC

end
section
set_option maxRecDepth 100000
set_option maxHeartbeats 4000000
namespace MC
open PySem PySem.Spec PyProof.Rows L2

/-- a class made whose instance may change -/
@[reducible] def opM (c : Nat) (m : MF) (ix : List Nat) (dp : List PV) : OC := fun h xs => callG takeBack (initM c m ix dp) xs h
theorem fnm_stuck {P : Program} {W : World} {w : Wo} {mg : Str → Option Value} {base : Heap} {CX : CXT} {ex : XK → XC} {k : Nat} {f : Addr} {fd : FuncData} {ps : List Str} : FnM P W w mg base CX ex k f fd ps fun _ _ => .stuck :=
  ⟨fun _ _ _ _ _ _ _ _ _ _ _ _ _ _ _ ⟨_, _, _, _, _, _, o⟩ => (show False from o).elim⟩

def maStar (m : ME) (ms : MA) : MA := fun env h => (m env h).bind fun x h1 => match seqP h1 x with
  | some ys => (ms env h1).bind fun xs h2 => .ok (ys ++ xs) h2
  | none => .stuck
section
variable {w : Wo} {EX : XC} {X : Cx} {k n c : Nat} {M : Addr → Prop} {rho : List Addr} {H : Hp} {h : PH}
theorem ma_star (C : Cxt w k X) {e : Expr} {es : List Expr} {p : Pos} {m : ME} {ms : MA} (ha : PE X e (tM w EX m)) (hb : PA X es (tA w EX ms)) (hs : starEach (.Starred e p :: es) X.env = (true, eval e X.env) :: starEach es X.env := by rfl) : PA X (.Starred e p :: es) (tA w EX (maStar m ms)) := by
  refine PA.imp (StX.pa_star ha hb hs) fun σ H Q h => ?_
  obtain ⟨M, rho, env, hh, er, hr, o⟩ := h
  refine tM.of er hr (Out.bind o) fun x h1 M1 rho1 H1 v st1 er1 hr1 o1 rv => ?_
  split at o1
  · rename_i ys ey
    obtain ⟨a, vs, rfl, rs, q⟩ := seq_ok hr1 rv ey
    refine ⟨a, vs, rfl, by rw [C.hK]; exact q.elim .inr fun z => .inl z.1, M1, rho1, env, h1, er1, hr1, (Out.bind o1).imp fun zs h2 M2 rho2 H2 st2 hr2 o2 us ru => ?_⟩
    exact o2.now hr2 _ ((rs.step st2 hr1).append ru)
  · exact (show False from o1).elim

def mMeK (c : Nat) (m : Nm) (op : OC) (n j : Nat) (mo : ME) (ma mk : MA) : ME := fun env h => (mo env h).bind fun x h1 => match fldsOf h1 x with
  | some (d, fs) => bif d == c && (lookF m fs).isNone then (ma env h1).bind fun xs h2 => (mk env h2).bind fun ys h3 => bif (x :: xs).length == n && ys.length == j then op h3 (x :: xs ++ ys) else .stuck else .stuck
  | none => .stuck
variable {f A : Addr} {ks : List Str} {op : OC} {m : Nm} {pos apos : Pos} {e o : Expr} {es : List Expr} {kws : List Keyword} {ma mk : MA} {mo : ME} {pl : Sem Bool}
theorem me_methK0 (C : Cxt w k X) (c : Nat) (hA : w.cl c = some A) (hc : Cls w.K A) (hm : Meth w.K A (nmS m) f) (B : Clb X w EX (.ref f) 1 ks op) (ho : PE X o (tM w EX mo)) (hkw : PK X kws (tA w EX mk)) (j : Nat) (hj : ks.length = j := by rfl)
    (hall : (backToKw pos (keywordEach kws X.env)).all (·.1.isSome) = true := by rfl) (hks : (backToKw pos (keywordEach kws X.env)).filterMap (·.1) = ks := by rfl)
    (hpl : ((backTo pos (starEach [] X.env)).any (·.1) || (backToKw pos (keywordEach kws X.env)).any (·.1.isNone)) = false := by rfl)
    (ht : eval (.Call (.Attribute o (nmS m) apos) [] kws pos) X.env = (do
      let ov ← eval o X.env
      standAt apos.atName
      let (f, first) ← holding [ov] (getMethod ov (nmS m) pl)
      callWith pos f first (backTo pos (starEach [] X.env)) (backToKw pos (keywordEach kws X.env))) := by rfl) :
    PE X (.Call (.Attribute o (nmS m) apos) [] kws pos) (tM w EX (mMeK c m op 1 j mo maNil mk)) := by
  subst hj
  refine ⟨fun pins s σ H Q I h => ?_⟩
  obtain ⟨M, rho, env, hh, er, hr, oo⟩ := h
  refine PySem.W.methodCall_KW (pl := pl) (thn (ho.run pins s σ H (fun v H1 => ∃ M1 rho1 h1 x, ER w M1 rho1 H1 env σ ∧ HR w M1 rho1 H1 h1 ∧ VR w M1 rho1 H1 x v ∧ Out w EX M1 rho1 H1 (match fldsOf h1 x with
    | some (d, fs) => bif d == c && (lookF m fs).isNone then (maNil env h1).bind fun xs h2 => (mk env h2).bind fun ys h3 => bif (x :: xs).length == 1 && ys.length == ks.length then op h3 (x :: xs ++ ys) else .stuck else .stuck
    | none => .stuck) (KV w Q)) I (tM.of er hr (Out.bind oo) fun x h1 M1 rho1 H1 v st1 er1 hr1 o1 rv => ⟨M1, rho1, h1, x, er1, hr1, rv, o1⟩)) fun u s1 hh1 => ?_) ht
  obtain ⟨v, H1, I1, rx, M1, rho1, h1, x, er1, hr1, rv, o1⟩ := hh1
  split at o1
  · rename_i d fs ef
    obtain ⟨hq, oB⟩ := Out.bif o1
    rw [Bool.and_eq_true] at hq
    obtain ⟨a, D, dx, gs, rfl, q1, q2, q3⟩ := flds_ok hr1 rv ef
    have hd := beq_iff_eq.mp hq.1
    subst hd
    rw [hA] at q1
    cases q1
    obtain rfl : u = Value.ref a := rx
    refine getmeth_ok I1 q2 (by rw [C.hK]; exact hc) (by rw [C.hK]; exact hm) (lookF_none q3 (Option.isNone_iff_eq_none.mp hq.2)) ?_
    have oC : Out w EX M1 rho1 H1 ((mk env h1).bind fun ys h3 => bif ([x] : List PV).length == 1 && ys.length == ks.length then op h3 ([x] ++ ys) else .stuck) (KV w Q) := oB
    refine PySem.W.callWith_KW0 (first := [.ref a]) (h₀ := X.base) I1.ok.mod.kin B.kp hall (thn (hkw.run pos pins s1 σ H1 _ I1 (tA.of er1 hr1 (Out.bind oC) fun ys h2 M2 rho2 H2 zs st2 er2 hr2 o2 ry =>
      (⟨M2, rho2, h2, ys, hr2, rv.step st2 hr1, ry, o2⟩ : ∃ M2 rho2 h2 ys, HR w M2 rho2 H2 h2 ∧ VR w M2 rho2 H2 x (.ref a) ∧ VRs w M2 rho2 H2 ys zs ∧ Out w EX M2 rho2 H2 (bif ([x] : List PV).length == 1 && ys.length == ks.length then op h2 ([x] ++ ys) else .stuck) (KV w Q)))) fun ws s2 ⟨zs, H2, I2, rz, q2⟩ => ⟨I2.kIn, ?_⟩) hpl
    rw [hks]
    obtain ⟨M2, rho2, h2, ys, hr2, rx2, ry2, o2⟩ := q2
    exact clb_kw (us := [.ref a]) (vs := [.ref a]) (xs := [x]) B I2 (.cons (show RelV (V.ref a) (Value.ref a) from rfl) .nil) rz hr2 (.cons rx2 .nil) ry2 o2
  · exact (show False from o1).elim
end
end MC

end
section
set_option maxRecDepth 100000
set_option maxHeartbeats 4000000
namespace MC
open PySem PySem.Spec PyProof.Rows L2

section
variable {w : Wo} {X : Cx} {k n : Nat} {f : Addr} {fd : FuncData} {ps : List Str} {m : MF} {ix : List Nat} {M : Addr → Prop} {rho : List Addr} {h : PH} {pins : List (Addr × Obj)} {σ : L2.St} {H : Hp} {s : Shared}
/-- a def called from within a builtin -/
theorem call_in1 (C : Cxt w (k + 1) X) (F : FnM X.prog X.w w X.mg X.base CX0 exF k f fd ps m) (B : Bd w.K fd ps [] n [] ix) {xs : List PV} {vs : List V} {us : List Value} {kk : KC PV} {E : Value → Shared → Prop} (I : Inv X pins σ H s) (r : Vals vs us) (lu : us.length = n)
    (hr : HR w M rho H h) (rx : VRs w M rho H xs vs) {EX : XC} (o : Out w EX M rho H (callG takeBack m (gI ix xs) h) kk) :
    wpAny (model X.prog X.w) X.A.in1 (call (.ref f) us) (fun u s' => ∃ x h1 M1 rho1 H1 v, Inv X pins σ H1 s' ∧ Step M rho H M1 rho1 H1 ∧ HR w M1 rho1 H1 h1 ∧ VR w M1 rho1 H1 x v ∧ RelV v u ∧ kk x h1 M1 rho1 H1) E s := by
  have e0 : Env0 X.prog X.w w.K X.mg X.base X.A.in1 X.stack s H := by rw [← C.hK]; exact I.env0.in1
  have bt := B.to s us [] (by rw [← C.hK]; exact I.kIn) lu rfl
  have hlen : (gI ix us).length = ps.length := by
    rw [gI_len, B.len]
    intro i hi
    have := B.lo i hi
    simpa [lu] using this
  rw [List.append_nil, List.append_nil] at bt
  obtain ⟨rho', as, hc, r3, hr3, o3⟩ := callG_ok (EX2 := EXF) tb_ok hr (rx.gI ix) o
  have r2 := gI_vals r ix
  refine wpAny_call (codeAny_mono (F.run X.A.in1 X.stack s H ⟨us, []⟩ (gI ix us) (gI ix vs) (fun v H1 => ∃ x h1 M1 rho1, Step M rho H M1 rho1 H1 ∧ HR w M1 rho1 H1 h1 ∧ VR w M1 rho1 H1 x v ∧ kk x h1 M1 rho1 H1) (fun _ _ _ => False) C.room.in1 C.grd e0 bt r2 (by rw [r2.length]; exact hlen)
    ⟨M, rho', as, hc, r3, hr3, o3.imp fun v g M1 rho1 H1 st1 hr1 q V rv => ?_⟩) fun rs s' q => ?_)
  · obtain ⟨M2, rho2, u, h2, st2, hr2, ru, kq⟩ := q V rv
    exact ⟨u, h2, M2, rho2, st2, hr2, ru, kq⟩
  · cases rs with
    | error e => exact (show False from q).elim
    | ok fl =>
      cases fl with
      | ret u =>
        obtain ⟨v, H1, I1, ru, x, h1, M1, rho1, a1, a2, a3, a4⟩ := I.after q
        exact ⟨x, h1, M1, rho1, H1, v, I1, a1, a2, a3, ru, a4⟩
      | next => exact (show False from q).elim
      | brk => exact (show False from q).elim
      | cont => exact (show False from q).elim

/-- order of keys -/
def ltKey : PV → PV → Option Bool
  | .tup [.int i, .str a], .tup [.int j, .str b] => some (bif i == j then ltN a b else decide (i < j))
  | _, _ => none
theorem ltN_rf : ∀ a : List Nat, ltN a a = false
  | [] => rfl
  | x :: xs => by unfold ltN; rw [beq_self_eq_true, cond_true]; exact ltN_rf xs
theorem ltKey_rc (hK : X.K = w.K) (I : Inv X pins σ H s) {x y : PV} {v u : V} {v' u' : Value} {c : Bool} {A : Around} (hu : A.units < cLine) (e : ltKey x y = some c) (rx : VR w M rho H x v) (ry : VR w M rho H y u) (rv : RelV v v') (ru : RelV u u') :
    Ob.RcOp .Lt A s v' u' c := by
  unfold ltKey at e
  split at e
  · rename_i i a j b
    cases e
    cases rx with
    | tup q1 r1 =>
      cases ry with
      | tup q2 r2 =>
        cases r1 with
        | cons a1 a2 =>
          cases a2 with
          | cons a2 a3 =>
            cases a1; cases a2; cases a3
            cases r2 with
            | cons b1 b2 =>
              cases b2 with
              | cons b2 b3 =>
                cases b1; cases b2; cases b3
                cases rv; cases ru
                rw [← hK] at q1 q2
                obtain ⟨its, rr, p, _⟩ := I.tuple q1
                obtain ⟨its2, rr2, p2, _⟩ := I.tuple q2
                cases rr with
                | cons c1 c2 =>
                  cases c2 with
                  | cons c2 c3 =>
                    cases c3
                    obtain ⟨t1, rfl⟩ := c1
                    obtain ⟨t2, rfl⟩ := c2
                    cases rr2 with
                    | cons d1 d2 =>
                      cases d2 with
                      | cons d2 d3 =>
                        cases d3
                        obtain ⟨t3, rfl⟩ := d1
                        obtain ⟨t4, rfl⟩ := d2
                        have z := Ob.RcOp.tuples_lt (A := A) (s := s) (e := fun q => bif q == 0 then i == j else (⟨a.toArray⟩ : Str) == ⟨b.toArray⟩) (r := fun q => bif q == 0 then decide (i < j) else decide (a < b)) p p2 hu (fun q h1 h2 => ?_) (fun q h1 h2 _ => ?_)
                        · have ez : Ob.lexAt (fun q => bif q == 0 then i == j else (⟨a.toArray⟩ : Str) == ⟨b.toArray⟩) (fun q => bif q == 0 then decide (i < j) else decide (a < b)) (decide ([Value.int i t1, Value.str ⟨a.toArray⟩ t2].toArray.size < [Value.int j t3, Value.str ⟨b.toArray⟩ t4].toArray.size)) 0 (min [Value.int i t1, Value.str ⟨a.toArray⟩ t2].toArray.size [Value.int j t3, Value.str ⟨b.toArray⟩ t4].toArray.size) = (bif i == j then ltN a b else decide (i < j)) := by
                            show Ob.lexAt _ _ false 0 2 = _
                            rw [Ob.lexAt_succ]
                            simp only [beq_self_eq_true, cond_true]
                            by_cases eij : i = j
                            · subst eij
                              rw [beq_self_eq_true, if_pos rfl, cond_true, Ob.lexAt_succ]
                              have e1 : ((0 + 1 : Nat) == 0) = false := rfl
                              simp only [e1, cond_false]
                              by_cases eab : a = b
                              · subst eab
                                rw [beq_self_eq_true, if_pos rfl, Ob.lexAt_zero, ltN_rf]
                              · have : ((⟨a.toArray⟩ : Str) == ⟨b.toArray⟩) = false := beq_eq_false_iff_ne.mpr fun z => eab (S_inj z)
                                rw [this, if_neg Bool.false_ne_true, ltN_iff]
                            · rw [beq_eq_false_iff_ne.mpr eij, if_neg Bool.false_ne_true, cond_false]
                          rw [ez] at z
                          exact z
                        · match q, h1, h2 with
                          | 0, _, _ => exact SeqAt.EqAt.int_int i t1 j t3
                          | 1, _, _ => exact SeqAt.EqAt.str_str ⟨a.toArray⟩ t2 ⟨b.toArray⟩ t4
                          | q + 2, h1, _ => exact absurd h1 (by simp)
                        · match q, h1, h2 with
                          | 0, _, _ => exact Ob.RcOp.lt_int i j t1 t3
                          | 1, _, _ =>
                            intro prog w' E Q hq
                            refine DT.rcLt_str _ _ _ _ _ _ prog w' E Q ?_
                            simpa using hq
                          | q + 2, h1, _ => exact absurd h1 (by simp)
  · cases e

def minL (g : PV → PH → R PV) (wt : Wt) : List PV → PV → PV → PH → R PV
  | [], b, _, h => bif watch wt h then .ok b h else .stuck
  | x :: xs, b, bv, h => bif watch wt h then (g x h).bind fun v h1 => match ltKey v bv with
    | some true => minL g wt xs x v h1
    | some false => minL g wt xs b bv h1
    | none => .stuck else .stuck
def bMinKey (m : MF) (ix : List Nat) : OC := fun h xs => match xs with
  | [x] => match lstP h x with
    | some (y :: ys) => bif watch (wtOf (y :: ys) x) h then (callG takeBack m (gI ix [y]) h).bind fun v h1 => minL (fun x h => callG takeBack m (gI ix [x]) h) (wtOf (y :: ys) x) ys y v h1 else .stuck
    | _ => .stuck
  | _ => .stuck
theorem same_but {S : Addr} {h h' : Heap} (e : Heap.SameBut S h h') : ∀ b o, b ∉ [S] → h.get? b = some o → h'.get? b = some o := fun b o n q => (e.2 b (by simpa using n)).trans q
/-- the list at l holds all -/
def Holds0 (w : Wo) (M : Addr → Prop) (rho : List Addr) (H : Hp) (l : Addr) (all : List PV) (wt : Wt) : Prop := ∀ {M1 : Addr → Prop} {rho1 : List Addr} {H1 : Hp} {h1 : PH}, Step M rho H M1 rho1 H1 → HR w M1 rho1 H1 h1 → watch wt h1 = true → ∃ vs, SqL w.K H1 l vs ∧ VRs w M1 rho1 H1 all vs
theorem min_loop (C : Cxt w (k + 1) X) (F : FnM X.prog X.w w X.mg X.base CX0 exF k f fd ps m) (B : Bd w.K fd ps [] 1 [] ix) {l S I : Addr} {wt : Wt} {all : List PV} {Q : VK} {R : Result → Shared → Prop} {EX : XC} (hSI : S ≠ I)
    (hR : ∀ (v : V) (u : Value) (H1 : Hp) (s1 : Shared), Inv X pins σ H1 s1 → RelV v u → Q v H1 → R (.ok (.ret u)) s1) :
    ∀ (xs : List PV) (j : Nat) (M : Addr → Prop) (rho : List Addr) (H : Hp) (h : PH) (s : Shared) (b bv : PV) (vb vk : V) (ub uk : Value) (c : Nat), all.drop j = xs → j ≤ all.length → Inv X pins σ H s → FpOk X pins H I → FpOk X pins H S → s.heap.IsListIter I l j → s.heap.get? S = some (seqObj "list" #[ub, uk] c) → Holds0 w M rho H l all wt →
      HR w M rho H h → VR w M rho H b vb → VR w M rho H bv vk → RelV vb ub → RelV vk uk → Out w EX M rho H (minL (fun x h => callG takeBack m (gI ix [x]) h) wt xs b bv h) (KV w Q) →
      codeAny (model X.prog X.w) X.A (.builtin "min.loop" ⟨[.ref I, .ref f, .ref S], []⟩) R s := by
  have hname : (toString "min" ++ toString ".loop" : String) = "min.loop" := by decide
  have hh : X.A.in1.handled = none := C.room.hd
  have hu : X.A.in1.units < cLine := C.room.in1.units0
  intro xs
  induction xs with
  | nil =>
    intro j M rho H h s b bv vb vk ub uk c ed hj I1 fI fS it gS hl hr rb rv ru rk o
    have ej : j = all.length := by
      have := congrArg List.length ed
      rw [List.length_drop, List.length_nil] at this
      omega
    obtain ⟨hw, o⟩ := Out.bif (show Out w EX M rho H (bif watch wt h then .ok b h else .stuck) (KV w Q) from o)
    obtain ⟨vs, q, rs⟩ := hl Step.refl hr hw
    have q' := q
    rw [← C.hK] at q'
    obtain ⟨its, rr, p, hz⟩ := I1.list q'
    have hlen : its.toArray.size = j := by rw [List.size_toArray, ← rr.length, rs.length, ej]
    have hlI : l ≠ I := fun e => by
      subst e
      obtain ⟨ob, n, g, cl, _, _⟩ := p
      obtain ⟨ob', g', cl', _⟩ := it
      rw [g] at g'; cases g'
      rw [cl] at cl'
      exact absurd cl' (by decide)
    have W := Walks.list (prog := X.prog) (w := X.w) (A := X.A.in1) hh I l hlI its.toArray
    refine codeAny_builtin PySem.F.entry_min_loop ?_
    rw [Around.under_plainId PySem.F.plain_min_loop _]
    show wpAny _ X.A.in1 (seqItems? (.ref S) >>= _) _ _ _
    refine wpAny_bind (wpAny_seqItems gS rfl ?_)
    show wpAny _ X.A.in1 (tryCatch (pyNext (.ref I)) _ >>= _) _ _ _
    refine wpAny_bind (wpAny_tryCatch (W.done _ _ _ ⟨by rw [hlen]; exact it, p.isList⟩ fun h' tk' hk' => ?_))
    have I2 := I1.turnedL (t' := tk') hk' (fun b hb => by rw [List.mem_singleton.mp hb]; exact fI)
    have gS' := hk' S _ (by simpa using hSI) gS
    have s1 := Heap.SameBut.update h' S (Obj.mapSeq fun _ => (#[] : Array Value))
    show wpAny _ X.A.in1 (updateSeq S (fun _ => #[]) >>= _) _ _ _
    refine wpAny_bind ?_
    refine wpAny_updateSeq gS' rfl (wpAny_bind (wpAny_letGo (wpAny_pure ?_)))
    have I3 := I2.turnedL (t' := tk') (same_but s1) (fun b hb => by rw [List.mem_singleton.mp hb]; exact fS)
    exact hR vb ub H _ I3 ru (o.now hr _ rb)
  | cons x xs ih =>
    intro j M rho H h s b bv vb vk ub uk c ed hj I1 fI fS it gS hl hr rb rv ru rk o
    have hlt : j < all.length := by
      have := congrArg List.length ed
      rw [List.length_drop, List.length_cons] at this
      omega
    have ex : all[j]? = some x := by
      have := congrArg (fun z => z[0]?) ed
      simpa using this
    have ed2 : all.drop (j + 1) = xs := by
      rw [← List.drop_drop, ed]; rfl
    obtain ⟨hw, o⟩ := Out.bif (show Out w EX M rho H (bif watch wt h then (callG takeBack m (gI ix [x]) h).bind fun v h1 => match ltKey v bv with
      | some true => minL (fun x h => callG takeBack m (gI ix [x]) h) wt xs x v h1
      | some false => minL (fun x h => callG takeBack m (gI ix [x]) h) wt xs b bv h1
      | none => .stuck else .stuck) (KV w Q) from o)
    obtain ⟨vs, q, rs⟩ := hl Step.refl hr hw
    obtain ⟨vx, evx, rx⟩ := rs.get ex
    have q' := q
    rw [← C.hK] at q'
    obtain ⟨its, rr, p, hz⟩ := I1.list q'
    obtain ⟨ux, eux, rux⟩ := rr.get evx
    have hlen : j < its.toArray.size := by rw [List.size_toArray, ← rr.length, rs.length]; exact hlt
    have hlI : l ≠ I := fun e => by
      subst e
      obtain ⟨ob, n, g, cl, _, _⟩ := p
      obtain ⟨ob', g', cl', _⟩ := it
      rw [g] at g'; cases g'
      rw [cl] at cl'
      exact absurd cl' (by decide)
    have W := Walks.list (prog := X.prog) (w := X.w) (A := X.A.in1) hh I l hlI its.toArray
    refine codeAny_builtin PySem.F.entry_min_loop ?_
    rw [Around.under_plainId PySem.F.plain_min_loop _]
    show wpAny _ X.A.in1 (seqItems? (.ref S) >>= _) _ _ _
    refine wpAny_bind (wpAny_seqItems gS rfl ?_)
    show wpAny _ X.A.in1 (tryCatch (pyNext (.ref I)) _ >>= _) _ _ _
    refine wpAny_bind (wpAny_tryCatch (W.item j _ _ _ hlen ⟨it, p.isList⟩ fun v h' tk' hP hst' hk' => ?_))
    have ev : v = ux := by
      have : its.toArray[j]? = some ux := by simpa using eux
      rw [this] at hP; cases hP; rfl
    subst ev
    have it2 : h'.IsListIter I l (j + 1) := hst'.1
    have I2 := I1.turnedL (t' := tk') hk' (fun b hb => by rw [List.mem_singleton.mp hb]; exact fI)
    have gS' := hk' S _ (by simpa using hSI) gS
    -- the key is asked while both records are pinned
    obtain ⟨oI, hoI, coI, doI⟩ := id it2
    have fl : ∀ b ∈ [I, S], FpOk X pins H b := fun b hb => by
      rcases List.mem_cons.mp hb with rfl | hb
      · exact fI
      · rw [List.mem_singleton.mp hb]; exact fS
    have I3 := I2.pinned (fp := [I, S]) fl fun b hb => by
      rcases List.mem_cons.mp hb with rfl | hb
      · exact ⟨oI, hoI, fun v e => by rw [doI] at e; cases e⟩
      · rw [List.mem_singleton.mp hb]; exact ⟨_, gS', fun v e => by cases e⟩
    show wpAny _ X.A.in1 (tryCatch (holding [v] (call (.ref f) [v])) _ >>= _) _ _ _
    refine wpAny_bind (wpAny_tryCatch (wpAny_holding (wpAny_mono (call_in1 C F B I3 (.cons rux .nil) rfl hr (.cons rx .nil) (Out.bind o)) (fun r s'' q2 => ?_) fun _ _ z => z)))
    obtain ⟨y, h1, M1, rho1, H1, vy, I4, st, hr1, ry, ruy, o1⟩ := q2
    have pI := I4.pin (I, oI) (List.mem_append_right _ (List.mem_append_right _ (mem_pinsAt (by simp) hoI)))
    have pS := I4.pin (S, seqObj "list" #[ub, uk] c) (List.mem_append_right _ (List.mem_append_right _ (mem_pinsAt (by simp) gS')))
    have I5 := I4.unpinned
    have fI' : FpOk X pins H1 I := ⟨pI.2.1, fI.2⟩
    have fS' : FpOk X pins H1 S := ⟨pS.2.1, fS.2⟩
    have it3 : s''.heap.IsListIter I l (j + 1) := ⟨oI, pI.1, coI, doI⟩
    have rb1 := rb.step st hr
    have rv1 := rv.step st hr
    have rx1 := rx.step st hr
    have hl1 : Holds0 w M1 rho1 H1 l all wt := fun st2 => hl (st.trans st2)
    split at o1
    · rename_i ek
      have z := ltKey_rc C.hK I5 (A := X.A.in1) hu ek ry rv1 ruy rk
      show wpAny _ X.A.in1 (tryCatch (holding [v, r] (richCompare .Lt r uk >>= _)) _ >>= _) _ _ _
      refine wpAny_bind (wpAny_tryCatch (wpAny_holding (wpAny_bind (z _ _ _ _ ?_))))
      refine wpAny_bind (wpAny_holding (wpAny_truthy_bool ?_))
      refine wpAny_bind (wpAny_letGo (wpAny_pure ?_))
      simp only [if_true]
      have s1 := Heap.SameBut.update s''.heap S (Obj.mapSeq fun _ => #[v, r])
      obtain ⟨c2, hc2⟩ : ∃ c2, (s''.heap.update S (Obj.mapSeq fun _ => #[v, r])).get? S = some (seqObj "list" #[v, r] c2) := ⟨_, get?_update_seq pS.1 fun _ => #[v, r]⟩
      refine wpAny_bind ?_
      refine wpAny_updateSeq pS.1 rfl (wpAny_bind (wpAny_letGo ?_))
      rw [hname]
      have I6 := I5.turnedL (t' := s''.toks) (same_but s1) (fun b hb => by rw [List.mem_singleton.mp hb]; exact fS')
      exact wpAny_pure ⟨plainId_quiet PySem.F.plain_min_loop _, ih (j + 1) M1 rho1 H1 h1 _ x y vx vy v r c2 ed2 hlt I6 fI' fS' ⟨oI, (s1.2 I (Ne.symm hSI)).trans pI.1, coI, doI⟩ hc2 hl1 hr1 rx1 ry rux ruy o1⟩
    · rename_i ek
      have z := ltKey_rc C.hK I5 (A := X.A.in1) hu ek ry rv1 ruy rk
      show wpAny _ X.A.in1 (tryCatch (holding [v, r] (richCompare .Lt r uk >>= _)) _ >>= _) _ _ _
      refine wpAny_bind (wpAny_tryCatch (wpAny_holding (wpAny_bind (z _ _ _ _ ?_))))
      refine wpAny_bind (wpAny_holding (wpAny_truthy_bool ?_))
      refine wpAny_bind (wpAny_letGo (wpAny_pure ?_))
      simp only [Bool.false_eq_true, if_false]
      refine wpAny_bind (wpAny_letGo ?_)
      rw [hname]
      exact wpAny_pure ⟨plainId_quiet PySem.F.plain_min_loop _, ih (j + 1) M1 rho1 H1 h1 _ b bv vb vk ub uk c ed2 hlt I5 fI' fS' it3 pS.1 hl1 hr1 rb1 rv1 ru rk o1⟩
    · exact (show False from o1).elim

theorem holds_lst (hr : HR w M rho H h) {x : PV} {v : V} {all : List PV} (rx : VR w M rho H x v) (e : lstP h x = some all) : ∃ l, v = .ref l ∧ Holds0 w M rho H l all (wtOf all x) := by
  cases rx with
  | scr q rs =>
    cases e
    exact ⟨_, rfl, fun st hr1 _ => ⟨_, (st.scr hr q).sq, rs.step st hr⟩⟩
  | @ref n a ha =>
    simp only [lstP] at e
    split at e
    · rename_i ys e0
      cases e
      refine ⟨a, rfl, fun st hr1 hw => ?_⟩
      obtain ⟨a2, ha2, vs2, z1, z2⟩ := hr1.ob _ _ (watch_one hw)
      rw [st.ext _ _ ha] at ha2
      cases ha2
      exact ⟨vs2, .inl (.inl z1), z2⟩
    · cases e
  | _ => cases e
theorem min_run (C : Cxt w (k + 1) X) (F : FnM X.prog X.w w X.mg X.base CX0 exF k f fd ps m) (B : Bd w.K fd ps [] 1 [] ix) {px : PV} {v : V} {u : Value} {Q : VK} {EX : XC} (I : Inv X pins σ H s) (hr : HR w M rho H h) (rx : VR w M rho H px v) (ru : RelV v u) (o : Out w EX M rho H (bMinKey m ix h [px]) (KV w Q)) :
    wpAny (model X.prog X.w) X.A (call (.builtin "min") [u] [(Str.ofString "key", .ref f)]) (EP X pins σ Q) X.xe s := by
  have hname : (toString "min" ++ toString ".loop" : String) = "min.loop" := by decide
  have hh : X.A.in1.handled = none := C.room.hd
  have hu : X.A.in1.units < cLine := C.room.in1.units0
  unfold bMinKey at o
  dsimp only at o
  split at o
  · rename_i y ys e0
    obtain ⟨l, rfl, hl⟩ := holds_lst hr rx e0
    obtain rfl : u = Value.ref l := ru
    obtain ⟨hw, o⟩ := Out.bif o
    obtain ⟨vs, q, rs⟩ := hl Step.refl hr hw
    have q' := q
    rw [← C.hK] at q'
    obtain ⟨its, rr, p, hz⟩ := I.list q'
    obtain ⟨vx, evx, rx'⟩ := rs.get (i := 0) rfl
    obtain ⟨ux, eux, rux⟩ := rr.get evx
    have hls := p.isList
    have hll : l < s.heap.objs.size := p.lt
    refine kmk_tree PySem.F.kind_min PySem.F.plain_min PySem.F.entry_min (kmk_min_key _ _) ?_
    show wpAny _ X.A.in1 (Builtin.Builtins.bindParams "min" ["key", "default"] 0 ⟨[], [(Str.ofString "key", .ref f)]⟩ >>= _) _ _ s
    refine wpAny_bind (wpAny_of_eq (show Builtin.Builtins.bindParams "min" ["key", "default"] 0 ⟨[], [(Str.ofString "key", .ref f)]⟩ = pure [some (.ref f), none] from rfl) ?_)
    refine wpAny_bind (wpAny_pure ?_)
    refine wpAny_bind (wpAny_pyIter_list hls ?_)
    refine wpAny_bind (wpAny_newList ?_ (Nat.zero_le _))
    rw [hname]
    have hS : (s.heap.push { cls := .type "list_iterator", data := .fields #[.ref l, .int 0 0] }).objs.size = s.heap.objs.size + 1 := size_push' ..
    have hSI : (s.heap.push { cls := .type "list_iterator", data := .fields #[.ref l, .int 0 0] }).objs.size ≠ s.heap.objs.size := by rw [hS]; exact Nat.ne_of_gt (Nat.lt_succ_self _)
    have hlI : l ≠ s.heap.objs.size := Nat.ne_of_lt hll
    have fI : FpOk X pins H s.heap.objs.size := I.fpOk (Nat.le_refl _) (I.hok.fresh (Nat.le_refl _))
    have fS : FpOk X pins H (s.heap.push { cls := .type "list_iterator", data := .fields #[.ref l, .int 0 0] }).objs.size := I.fpOk (by rw [hS]; exact Nat.le_succ _) (I.hok.fresh (by rw [hS]; exact Nat.le_succ _))
    refine wpAny_pure ⟨plainId_quiet PySem.F.plain_min_loop _, ?_⟩
    have kp : ∀ b o, s.heap.get? b = some o → ((s.heap.push { cls := .type "list_iterator", data := .fields #[.ref l, .int 0 0] }).push (seqObj "list" #[] 0)).get? b = some o := fun b x e => Heap.get?_push_of_some _ (Heap.get?_push_of_some _ e)
    have I1 := I.kept (t' := s.toks) kp
    have gI' : ((s.heap.push { cls := .type "list_iterator", data := .fields #[.ref l, .int 0 0] }).push (seqObj "list" #[] 0)).get? s.heap.objs.size = some { cls := .type "list_iterator", data := .fields #[.ref l, .int 0 0] } :=
      Heap.get?_push_of_some _ (Heap.get?_push_size _ rfl)
    have gS : ((s.heap.push { cls := .type "list_iterator", data := .fields #[.ref l, .int 0 0] }).push (seqObj "list" #[] 0)).get? (s.heap.push { cls := .type "list_iterator", data := .fields #[.ref l, .int 0 0] }).objs.size = some (seqObj "list" #[] 0) := Heap.get?_push_size _ rfl
    have p2 : ((s.heap.push { cls := .type "list_iterator", data := .fields #[.ref l, .int 0 0] }).push (seqObj "list" #[] 0)).IsList l its.toArray := (p.keeps kp).isList
    generalize hSe : (s.heap.push { cls := .type "list_iterator", data := .fields #[.ref l, .int 0 0] }).objs.size = S at *
    generalize hIe : s.heap.objs.size = J at *
    generalize hhe : (s.heap.push { cls := .type "list_iterator", data := .fields #[.ref l, .int 0 0] }).push (seqObj "list" #[] 0) = h0 at *
    have W := Walks.list (prog := X.prog) (w := X.w) (A := X.A.in1) hh J l hlI its.toArray
    have hlen : 0 < its.toArray.size := by rw [List.size_toArray, ← rr.length, rs.length]; exact Nat.succ_pos _
    refine codeAny_builtin PySem.F.entry_min_loop ?_
    rw [Around.under_plainId PySem.F.plain_min_loop _]
    show wpAny _ X.A.in1 (seqItems? (.ref S) >>= _) _ _ _
    refine wpAny_bind (wpAny_seqItems gS rfl ?_)
    show wpAny _ X.A.in1 (tryCatch (pyNext (.ref J)) _ >>= _) _ _ _
    refine wpAny_bind (wpAny_tryCatch (W.item 0 _ _ _ hlen ⟨⟨_, gI', rfl, rfl⟩, p2⟩ fun v h' tk' hP hst' hk' => ?_))
    have ev : v = ux := by
      have : its.toArray[0]? = some ux := by simpa using eux
      rw [this] at hP; cases hP; rfl
    subst ev
    have it2 : h'.IsListIter J l (0 + 1) := hst'.1
    have I2 := I1.turnedL (t' := tk') hk' (fun b hb => by rw [List.mem_singleton.mp hb]; exact fI)
    have gS' := hk' S _ (by simpa using hSI) gS
    obtain ⟨oI, hoI, coI, doI⟩ := id it2
    have fl : ∀ b ∈ [J, S], FpOk X pins H b := fun b hb => by
      rcases List.mem_cons.mp hb with rfl | hb
      · exact fI
      · rw [List.mem_singleton.mp hb]; exact fS
    have I3 := I2.pinned (fp := [J, S]) fl fun b hb => by
      rcases List.mem_cons.mp hb with rfl | hb
      · exact ⟨oI, hoI, fun v e => by rw [doI] at e; cases e⟩
      · rw [List.mem_singleton.mp hb]; exact ⟨_, gS', fun v e => by cases e⟩
    show wpAny _ X.A.in1 (tryCatch (holding [v] (call (.ref f) [v])) _ >>= _) _ _ _
    refine wpAny_bind (wpAny_tryCatch (wpAny_holding (wpAny_mono (call_in1 C F B I3 (.cons rux .nil) rfl hr (.cons rx' .nil) (Out.bind o)) (fun r s'' q2 => ?_) fun _ _ z => z)))
    obtain ⟨z, h1, M1, rho1, H1, vy, I4, st, hr1, ry, ruy, o1⟩ := q2
    have pI := I4.pin (J, oI) (List.mem_append_right _ (List.mem_append_right _ (mem_pinsAt (by simp) hoI)))
    have pS := I4.pin (S, seqObj "list" #[] 0) (List.mem_append_right _ (List.mem_append_right _ (mem_pinsAt (by simp) gS')))
    have I5 := I4.unpinned
    have fI' : FpOk X pins H1 J := ⟨pI.2.1, fI.2⟩
    have fS' : FpOk X pins H1 S := ⟨pS.2.1, fS.2⟩
    have s1 := Heap.SameBut.update s''.heap S (Obj.mapSeq fun _ => #[v, r])
    obtain ⟨c2, hc2⟩ : ∃ c2, (s''.heap.update S (Obj.mapSeq fun _ => #[v, r])).get? S = some (seqObj "list" #[v, r] c2) := ⟨_, get?_update_seq pS.1 fun _ => #[v, r]⟩
    show wpAny _ X.A.in1 (updateSeq S (fun _ => #[v, r]) >>= _) _ _ _
    refine wpAny_bind ?_
    refine wpAny_updateSeq pS.1 rfl ?_
    rw [hname]
    have I6 := I5.turnedL (t' := s''.toks) (same_but s1) (fun b hb => by rw [List.mem_singleton.mp hb]; exact fS')
    refine wpAny_pure ⟨plainId_quiet PySem.F.plain_min_loop _, min_loop C F B (wt := wtOf (y :: ys) px) (all := y :: ys) (Q := Q) (EX := EX) hSI (fun v u H1 s1 J1 r1 q1 => ?_) ys 1 M1 rho1 H1 h1 _ y z vx vy v r c2 rfl (Nat.succ_le_succ (Nat.zero_le _)) I6 fI' fS' ⟨oI, (s1.2 J (Ne.symm hSI)).trans pI.1, coI, doI⟩ hc2 (fun st2 => hl (st.trans st2)) hr1 (rx'.step st hr) ry rux ruy o1⟩
    exact ⟨v, H1, J1, r1, q1⟩
  · exact (show False from o).elim
/-- min(e, key = g) -/
theorem me_minKey (C : Cxt w (k + 1) X) (F : FnM X.prog X.w w X.mg X.base CX0 exF k f fd ps m) (B : Bd w.K fd ps [] 1 [] ix) {EX : XC} {e : Expr} {me : ME} {z : Str} {p1 p2 kp cpos : Pos} (hg : Gl X "min") (hm : X.mg "min" = none) (he : PE X e (tM w EX me)) (hg2 : Gl X z) (hm2 : X.mg z = some (.ref f)) (hd2 : (z == ("__debug__" : Str)) = false := by decide)
    (hst : starEach [e] X.env = [(false, eval e X.env)] := by rfl) (hb : backTo cpos (starEach [e] X.env) = (false, eval e X.env) :: backTo cpos (starEach [] X.env) := by rfl) (hpl : (backTo cpos (starEach [e] X.env)).any (·.1) = false := by rfl)
    (hall : (backToKw cpos (keywordEach [⟨some "key", .Name z p2, kp⟩] X.env)).all (·.1.isSome) = true := by rfl) (hnone : (backToKw cpos (keywordEach [⟨some "key", .Name z p2, kp⟩] X.env)).any (·.1.isNone) = false := by rfl) (hks : (backToKw cpos (keywordEach [⟨some "key", .Name z p2, kp⟩] X.env)).filterMap (·.1) = [Str.ofString "key"] := by rfl) :
    PE X (.Call (.Name "min" p1) [e] [⟨some "key", .Name z p2, kp⟩] cpos) (tM w EX (mBt (bMinKey m ix) (maCons me maNil))) := by
  have hc : CallRK X (.builtin "min") [Str.ofString "key"] (fun vs zs H Q => zs = [V.ref f] ∧ ∃ M rho h px v, vs = [v] ∧ HR w M rho H h ∧ VR w M rho H px v ∧ Out w EX M rho H (bMinKey m ix h [px]) (KV w Q)) := by
    intro pins s σ H xs zs us ws Q I r1 r2 ⟨ez, M, rho, h, px, v, ev, hr, rx, o⟩
    subst ez; subst ev
    cases r1 with
    | cons a b =>
      cases b
      cases r2 with
      | cons c d =>
        cases d
        cases c
        exact min_run C F B I hr rx a o
  refine PE.imp (pe_callBK hc hg hm (by decide +kernel) (pa_cons he pa_nil hst) (pk_cons (pe_glob (v := .ref f) hg2 hm2 rfl hd2) pk_nil) (by decide) (by decide) hb hpl hall hnone hks) fun σ H Q hh => ?_
  obtain ⟨M, rho, env, h, er, hr, o⟩ := hh
  refine tM.of er hr (Out.bind (Out.bind o)) fun x h1 M1 rho1 H1 v st1 er1 hr1 o1 rv => ?_
  refine ⟨rfl, M1, rho1, h1, x, v, rfl, hr1, rv, ?_⟩
  exact ((Out.bind o1).now hr1).now hr1
end
end MC

end
section
set_option maxRecDepth 100000
set_option maxHeartbeats 4000000
namespace MC
open PySem PySem.Spec PyProof.Rows L2

def insI (x : Int) : List Int → List Int
  | [] => [x]
  | y :: r => bif decide (x ≤ y) then x :: y :: r else y :: insI x r
def isort : List Int → List Int
  | [] => []
  | x :: r => insI x (isort r)
theorem insI_perm (x : Int) : ∀ l : List Int, (insI x l).Perm (x :: l)
  | [] => .refl _
  | y :: r => by
    unfold insI
    by_cases h : x ≤ y
    · rw [decide_eq_true h]; exact .refl _
    · rw [decide_eq_false h]
      exact ((insI_perm x r).cons y).trans (.swap x y r)
theorem isort_perm : ∀ l : List Int, (isort l).Perm l
  | [] => .refl _
  | x :: r => (insI_perm x (isort r)).trans ((isort_perm r).cons x)
theorem insI_sorted (x : Int) : ∀ l : List Int, l.Pairwise (· ≤ ·) → (insI x l).Pairwise (· ≤ ·)
  | [], _ => List.pairwise_singleton _ _
  | y :: r, h => by
    unfold insI
    have h2 := List.pairwise_cons.mp h
    by_cases e : x ≤ y
    · rw [decide_eq_true e]
      refine List.pairwise_cons.mpr ⟨fun z hz => ?_, h⟩
      rcases List.mem_cons.mp hz with rfl | hz
      · exact e
      · exact Int.le_trans e (h2.1 z hz)
    · rw [decide_eq_false e]
      refine List.pairwise_cons.mpr ⟨fun z hz => ?_, insI_sorted x r h2.2⟩
      rcases List.mem_cons.mp ((insI_perm x r).mem_iff.mp hz) with rfl | hz
      · omega
      · exact h2.1 z hz
theorem isort_sorted : ∀ l : List Int, (isort l).Pairwise (· ≤ ·)
  | [] => .nil
  | x :: r => insI_sorted x _ (isort_sorted r)
theorem sorted_eq : ∀ {l m : List Int}, l.Perm m → l.Pairwise (· ≤ ·) → m.Pairwise (· ≤ ·) → l = m
  | [], m, p, _, _ => by rw [List.nil_perm.mp p]
  | x :: l, [], p, _, _ => by have := p.length_eq; simp at this
  | x :: l, y :: m, p, hl, hm => by
    have h1 := List.pairwise_cons.mp hl
    have h2 := List.pairwise_cons.mp hm
    have e : x = y := by
      have a : x ∈ y :: m := p.mem_iff.mp List.mem_cons_self
      have b : y ∈ x :: l := p.mem_iff.mpr List.mem_cons_self
      have c : y ≤ x := by
        rcases List.mem_cons.mp a with q | q
        · rw [q]; exact Int.le_refl _
        · exact h2.1 x q
      have d : x ≤ y := by
        rcases List.mem_cons.mp b with q | q
        · rw [q]; exact Int.le_refl _
        · exact h1.1 y q
      omega
    subst e
    rw [sorted_eq (List.Perm.cons_inv p) h1.2 h2.2]
def keysD (h : PH) : PV → Option (List PV)
  | .ref n => match h[n]? with
    | some (.dic _ kvs) => some (kvs.map (·.1))
    | _ => none
  | _ => none
def bSorted : OC := fun h xs => match xs with
  | [x] => match lstP h x with
    | some ys => match intsP ys with
      | some is => .ok (.ref h.length) (h ++ [.lst ((isort is).map PV.int)])
      | none => .stuck
    | none => match keysD h x with
      | some ys => match intsP ys with
        | some is => bif decide (is.length < 64) then .ok (.ref h.length) (h ++ [.lst ((isort is).map PV.int)]) else .stuck
        | none => .stuck
      | none => .stuck
  | _ => .stuck
section
variable {w : Wo} {EX : XC} {X : Cx} {k : Nat} {M : Addr → Prop} {rho : List Addr} {H : Hp} {h : PH}
theorem intsP_eq : ∀ {ys : List PV} {is : List Int}, intsP ys = some is → ys = is.map PV.int
  | [], is, e => by cases e; rfl
  | y :: ys, is, e => by
    cases y <;> (unfold intsP at e) <;> try (cases e)
    rename_i i
    split at e
    · rename_i js ej
      cases e
      rw [List.map_cons, intsP_eq ej]
    · cases e
theorem vrs_ints : ∀ {is : List Int} {vs : List V}, VRs w M rho H (is.map PV.int) vs → vs = is.map V.int
  | [], vs, r => by cases r; rfl
  | i :: is, vs, r => by
    cases r with
    | cons a b => cases a; rw [List.map_cons, vrs_ints b]
theorem ints_vrs : ∀ is : List Int, VRs w M rho H (is.map PV.int) (is.map V.int)
  | [] => .nil
  | i :: is => .cons (.int i) (ints_vrs is)
theorem keys_ints : ∀ {kvs : List (PV × PV)} {ks : List (Key × V)} {is : List Int}, KRs w M rho H kvs ks → kvs.map (·.1) = is.map PV.int → ks.map (·.1) = is.map Sum.inl
  | _, _, [], .nil, e => rfl
  | _, _, _ :: _, .nil, e => by cases e
  | _, _, [], .cons _ _ _, e => by cases e
  | _, _, i :: is, .cons (k := q) hk hx hr, e => by
    rw [List.map_cons, List.map_cons] at e
    injection e with e1 e2
    cases e1
    cases hk
    rw [List.map_cons, List.map_cons, keys_ints hr e2]
theorem b_sorted (C : Cxt w k X) : CallR X (.builtin "sorted") (rA w EX bSorted) := by
  have fin : ∀ {is : List Int} {Q : VK} {M : Addr → Prop} {rho : List Addr} {H : Hp} {h : PH}, HR w M rho H h → Out w EX M rho H (.ok (.ref h.length) (h ++ [.lst ((isort is).map PV.int)])) (KV w Q) → ∀ (ns : List Int) (p : Addr), ns.Perm is → ns.Pairwise (· ≤ ·) → H p = none → Q (.ref p) (upd H p (.lst (ns.map V.int))) := by
    intro is Q M rho H h hr o ns p hp hs hn
    have e : ns = isort is := sorted_eq (hp.trans (isort_perm is).symm) hs (isort_sorted is)
    subst e
    exact KV.lst hr o (ints_vrs _) p hn
  intro pins s σ H vs us Q I r hh
  obtain ⟨M, rho, h, px, hr, rs, o⟩ := hh
  unfold bSorted at o
  split at o
  · rename_i x
    obtain ⟨v, rfl, rv⟩ := vrs1 rs
    split at o
    · rename_i ys e0
      split at o
      · rename_i is e1
        obtain ⟨a, ws, rfl, rw', q⟩ := lst_ok hr rv e0
        rw [intsP_eq e1] at rw'
        have := vrs_ints rw'
        subst this
        exact cr_sortedI pins s σ H _ us Q I r ⟨a, is, rfl, by rw [C.hK]; exact q, fin hr o⟩
      · exact (show False from o).elim
    · split at o
      · rename_i ys e0
        split at o
        · rename_i is e1
          obtain ⟨hl, o⟩ := Out.bif o
          cases x <;> try (cases e0)
          rename_i n
          simp only [keysD] at e0
          split at e0
          · rename_i lk kvs e2
            cases e0
            cases rv with
            | @ref _ a ha =>
              obtain ⟨b, hb, ks, h1, sa⟩ := hr.ob _ _ e2
              rw [ha] at hb; cases hb
              have rd : Rd H a (.dK ks) := by
                cases lk with
                | false => exact .inl h1
                | true => exact .inr h1
              exact call_sortedDI C.calm pins s σ H _ us Q I r ⟨a, ks, is, rfl, rd, keys_ints sa (intsP_eq e1), of_decide_eq_true hl, fin hr o⟩
          · cases e0
        · exact (show False from o).elim
      · exact (show False from o).elim
  · exact (show False from o).elim
end
end MC

end
section
set_option maxRecDepth 100000
set_option maxHeartbeats 4000000
namespace MC
open PySem PySem.Spec PyProof.Rows L2

/-- a class's own special method -/
structure SpM (P : Program) (W : World) (w : Wo) (mg : Str → Option Value) (base : Heap) (c : Nat) (nm : Str) (k n : Nat) (m : MF) (ix : List Nat) : Prop where
  ex : ∃ A f fd ps, w.cl c = some A ∧ PySem.W.findIn w.K (.ref A) nm = some (some (.ref f)) ∧ PySem.W.isFn w.K (.ref f) = true ∧ FnM P W w mg base CX0 exF k f fd ps m ∧ Bd w.K fd ps [] n [] ix
def bLenI (c : Nat) (m : MF) (ix : List Nat) : OC := fun h xs => match xs with
  | [x] => match fldsOf h x with
    | some (d, _) => bif d == c then (callG takeBack m (gI ix [x]) h).bind fun v h1 => match v with
      | .int n => bif decide (0 ≤ n) && decide (n < 9223372036854775808) then .ok (.int n) h1 else .stuck
      | _ => .stuck else .stuck
    | none => .stuck
  | _ => .stuck
def bReprI (c : Nat) (m : MF) (ix : List Nat) : OC := fun h xs => match xs with
  | [x] => match fldsOf h x with
    | some (d, _) => bif d == c then (callG takeBack m (gI ix [x]) h).bind fun v h1 => match v with
      | .str n => .ok (.str n) h1
      | _ => .stuck else .stuck
    | none => .stuck
  | _ => .stuck
section
variable {w : Wo} {EX : XC} {X : Cx} {k c : Nat} {m : MF} {ix : List Nat} {M : Addr → Prop} {rho : List Addr} {H : Hp} {h : PH}
theorem b_lenI (C : Cxt w (k + 1) X) (S : SpM X.prog X.w w X.mg X.base c "__len__" k 1 m ix) : CallR X (.builtin "len") (rA w EX (bLenI c m ix)) := by
  obtain ⟨A, f, fd, ps, hA, hs, hf, F, B⟩ := S.ex
  intro pins s σ H vs us Q I r hh
  obtain ⟨M, rho, h, px, hr, rs, o⟩ := hh
  unfold bLenI at o
  split at o
  · rename_i x
    obtain ⟨v, rfl, rv⟩ := vrs1 rs
    split at o
    · rename_i d fs ef
      obtain ⟨hd, o2⟩ := Out.bif o
      have hd := beq_iff_eq.mp hd
      subst hd
      obtain ⟨a, D, dx, gs, rfl, q1, q2, q3⟩ := flds_ok hr rv ef
      rw [hA] at q1
      cases q1
      cases r with
      | cons ra rb =>
        cases rb
        obtain rfl := (show _ = Value.ref a from ra)
        obtain ⟨mA, J, _⟩ := ins_get I.hok q2
        obtain ⟨od, J, _⟩ := J.look
        obtain ⟨m0, hF⟩ := I.fr
        refine PySem.W.len_K hF I.ok.mod.kin J (by rw [C.hK]; exact hs) (by rw [C.hK]; exact hf) (wpAny_mono (call_in1 C F B (us := [.ref a]) (vs := [.ref a]) I (.cons rfl .nil) rfl hr (.cons rv .nil) (Out.bind o2)) (fun u s' q => ?_) fun _ _ z => z)
        obtain ⟨y, h1, M1, rho1, H1, vy, I1, st, hr1, ry, ru, o1⟩ := q
        split at o1
        · rename_i n
          obtain ⟨hb, o1⟩ := Out.bif o1
          rw [Bool.and_eq_true] at hb
          cases ry
          obtain ⟨t, rfl⟩ := (show ∃ t, u = Value.int n t from ru)
          refine ⟨⟨of_decide_eq_true hb.1, by have := of_decide_eq_true hb.2; omega⟩, .int n, H1, I1.tok _, ⟨_, rfl⟩, o1.now hr1 _ (.int n)⟩
        · exact (show False from o1).elim
    · exact (show False from o).elim
  · exact (show False from o).elim
theorem b_reprI (C : Cxt w (k + 1) X) (S : SpM X.prog X.w w X.mg X.base c "__repr__" k 1 m ix) : CallR X (.builtin "repr") (rA w EX (bReprI c m ix)) := by
  obtain ⟨A, f, fd, ps, hA, hs, hf, F, B⟩ := S.ex
  intro pins s σ H vs us Q I r hh
  obtain ⟨M, rho, h, px, hr, rs, o⟩ := hh
  unfold bReprI at o
  split at o
  · rename_i x
    obtain ⟨v, rfl, rv⟩ := vrs1 rs
    split at o
    · rename_i d fs ef
      obtain ⟨hd, o2⟩ := Out.bif o
      have hd := beq_iff_eq.mp hd
      subst hd
      obtain ⟨a, D, dx, gs, rfl, q1, q2, q3⟩ := flds_ok hr rv ef
      rw [hA] at q1
      cases q1
      cases r with
      | cons ra rb =>
        cases rb
        obtain rfl := (show _ = Value.ref a from ra)
        obtain ⟨mA, J, _⟩ := ins_get I.hok q2
        obtain ⟨od, J, _⟩ := J.look
        obtain ⟨m0, hF⟩ := I.fr
        refine PySem.W.repr_K C.room.in1.units0 hF I.ok.mod.kin J (by rw [C.hK]; exact hs) (by rw [C.hK]; exact hf) (wpAny_mono (call_in1 C F B (us := [.ref a]) (vs := [.ref a]) I (.cons rfl .nil) rfl hr (.cons rv .nil) (Out.bind o2)) (fun u s' q => ?_) fun _ _ z => z)
        obtain ⟨y, h1, M1, rho1, H1, vy, I1, st, hr1, ry, ru, o1⟩ := q
        split at o1
        · rename_i z
          cases ry
          obtain ⟨t, rfl⟩ := (show ∃ t, u = Value.str ⟨z.toArray⟩ t from ru)
          exact ⟨.str ⟨z.toArray⟩, H1, I1, ⟨_, rfl⟩, o1.now hr1 _ (.str z)⟩
        · exact (show False from o1).elim
    · exact (show False from o).elim
  · exact (show False from o).elim
variable {n : Nat} {f A : Addr} {op : OC} {m : Nm} {pos apos : Pos} {e o : Expr} {es : List Expr} {ks : List Str} {kws : List Keyword} {ma mk : MA} {mo : ME} {pl : Sem Bool}
theorem me_methZ {z : Str} (hz : z = nmS m) (C : Cxt w k X) (c : Nat) (hA : w.cl c = some A) (hc : Cls w.K A) (hm : Meth w.K A (nmS m) f) (B : Clb X w EX (.ref f) n [] op) (ho : PE X o (tM w EX mo)) (ha : PA X (e :: es) (tA w EX ma))
    (hst : starEach (e :: es) X.env = (false, eval e X.env) :: starEach es X.env := by rfl) (hpl : (backTo pos (starEach es X.env)).any (·.1) = false := by rfl)
    (ht : eval (.Call (.Attribute o z apos) (e :: es) [] pos) X.env = (do
      let ov ← eval o X.env
      standAt apos.atName
      let (f, first) ← holding [ov] (getMethod ov z pl)
      callWith pos f first (backTo pos (starEach (e :: es) X.env)) (backToKw pos (keywordEach [] X.env))) := by rfl) :
    PE X (.Call (.Attribute o z apos) (e :: es) [] pos) (tM w EX (mMe c m op n mo ma)) := by
  subst hz
  exact me_meth C c hA hc hm B ho ha hst hpl ht
theorem me_meth0Z {z : Str} (hz : z = nmS m) (C : Cxt w k X) (c : Nat) (hA : w.cl c = some A) (hc : Cls w.K A) (hm : Meth w.K A (nmS m) f) (B : Clb X w EX (.ref f) 1 [] op) (ho : PE X o (tM w EX mo))
    (ht : eval (.Call (.Attribute o z apos) [] [] pos) X.env = (do
      let ov ← eval o X.env
      standAt apos.atName
      let (f, first) ← holding [ov] (getMethod ov z pl)
      callWith pos f first (backTo pos (starEach [] X.env)) (backToKw pos (keywordEach [] X.env))) := by rfl) :
    PE X (.Call (.Attribute o z apos) [] [] pos) (tM w EX (mMe c m op 1 mo maNil)) := by
  subst hz
  exact me_meth0 C c hA hc hm B ho ht
theorem me_methK0Z {z : Str} (hz : z = nmS m) (C : Cxt w k X) (c : Nat) (hA : w.cl c = some A) (hc : Cls w.K A) (hm : Meth w.K A (nmS m) f) (B : Clb X w EX (.ref f) 1 ks op) (ho : PE X o (tM w EX mo)) (hkw : PK X kws (tA w EX mk)) (j : Nat) (hj : ks.length = j := by rfl)
    (hall : (backToKw pos (keywordEach kws X.env)).all (·.1.isSome) = true := by rfl) (hks : (backToKw pos (keywordEach kws X.env)).filterMap (·.1) = ks := by rfl)
    (hpl : ((backTo pos (starEach [] X.env)).any (·.1) || (backToKw pos (keywordEach kws X.env)).any (·.1.isNone)) = false := by rfl)
    (ht : eval (.Call (.Attribute o z apos) [] kws pos) X.env = (do
      let ov ← eval o X.env
      standAt apos.atName
      let (f, first) ← holding [ov] (getMethod ov z pl)
      callWith pos f first (backTo pos (starEach [] X.env)) (backToKw pos (keywordEach kws X.env))) := by rfl) :
    PE X (.Call (.Attribute o z apos) [] kws pos) (tM w EX (mMeK c m op 1 j mo maNil mk)) := by
  subst hz
  exact me_methK0 C c hA hc hm B ho hkw j hj hall hks hpl ht
theorem meth_mk {K : PySem.W.Frag} {C f : Addr} {z : Str} (m : Nm) (hz : z = nmS m) (h1 : PySem.W.findIn K (.ref C) z = some (some (.ref f))) (h2 : PySem.W.isFn K (.ref f) = true) (h3 : PySem.W.keepIn K (.ref f) = true) : Meth K C (nmS m) f := by
  subst hz
  exact ⟨h1, h2, h3⟩
/-- a tuple of the written part -/
theorem gtup {a : Addr} {its : Array Value} {n : Nat} {sl : Array (Option Value)} {vs : List V} {xs : List PV} {H : Hp} (h : w.K.lookup a = some ⟨.type "tuple", none, .seq its n, sl⟩) (hl : its.size ≤ 1000) (hv : Vals vs its.toList) (hx : VRs w M rho H xs vs) : VR w M rho H (.tup xs) (.ref a) :=
  .tup (.inr ⟨_, its, n, h, rfl, rfl, by rw [sizeLine_eq]; omega, hv⟩) hx
end
end MC

end
section
set_option maxRecDepth 100000
set_option maxHeartbeats 4000000
namespace MC
open PySem PySem.Spec PyProof.Rows L2

def findT (s : List Nat) : List (List Nat × PV) → Option PV
  | [] => none
  | (k, v) :: r => bif k == s then some v else findT s r
/-- the i-th global is a written dict with these rows -/
structure KTab (w : Wo) (W : World) (i : Nat) (rows : List (List Nat × PV)) : Prop where
  ex : ∃ d es n, w.gv i = some (.ref d) ∧ KDict w.K W d es n ∧ ∀ s : List Nat, (findT s rows = none ∧ PySem.W.nsIn w.K d ⟨s.toArray⟩ = some none) ∨
    ∃ y u v, findT s rows = some y ∧ PySem.W.nsIn w.K d ⟨s.toArray⟩ = some (some u) ∧ RelV v u ∧ ∀ M rho H, VR w M rho H y v
def opKIn (neg : Bool) (i : Nat) (rows : List (List Nat × PV)) : O2 := fun h x y => match x, y with
  | .str s, .gl j => bif j == i then .ok (.bl (negB neg (findT s rows).isSome)) h else .stuck
  | _, _ => .stuck
def opKIx (i : Nat) (rows : List (List Nat × PV)) : O2 := fun h x y => match x, y with
  | .gl j, .str s => bif j == i then (match findT s rows with
    | some v => .ok v h
    | none => .stuck) else .stuck
  | _, _ => .stuck
section
variable {w : Wo} {EX : XC} {X : Cx} {k : Nat} {rows : List (List Nat × PV)} {i : Nat}
theorem o_kin (C : Cxt w k X) (T : KTab w X.w i rows) : OpR X (compareOp .In) (r2 w EX (opKIn false i rows)) := by
  intro pins s σ H x y v u Q I rx ry ⟨M, rho, h, px, py, hr, vx, vy, o⟩
  obtain ⟨d, es, n, e1, D, e2⟩ := T.ex
  unfold opKIn at o
  split at o
  · rename_i z j
    obtain ⟨hj, o2⟩ := Out.bif o
    have hj := beq_iff_eq.mp hj
    subst hj
    cases vx
    cases vy with
    | gl eg =>
      rw [e1] at eg
      cases eg
      refine op_in_kd (by rw [C.hK]; exact D) pins s σ H _ _ v u Q I rx ry ?_
      rcases e2 z with ⟨f1, f2⟩ | ⟨y, u', v', f1, f2, _⟩
      · rw [f1] at o2; exact ⟨_, none, rfl, rfl, by rw [C.hK]; exact f2, o2.now hr _ (.bl _)⟩
      · rw [f1] at o2; exact ⟨_, some u', rfl, rfl, by rw [C.hK]; exact f2, o2.now hr _ (.bl _)⟩
  · exact (show False from o).elim
theorem o_knotin (C : Cxt w k X) (T : KTab w X.w i rows) : OpR X (compareOp .NotIn) (r2 w EX (opKIn true i rows)) := by
  intro pins s σ H x y v u Q I rx ry ⟨M, rho, h, px, py, hr, vx, vy, o⟩
  obtain ⟨d, es, n, e1, D, e2⟩ := T.ex
  unfold opKIn at o
  split at o
  · rename_i z j
    obtain ⟨hj, o2⟩ := Out.bif o
    have hj := beq_iff_eq.mp hj
    subst hj
    cases vx
    cases vy with
    | gl eg =>
      rw [e1] at eg
      cases eg
      refine op_notIn_kd (by rw [C.hK]; exact D) pins s σ H _ _ v u Q I rx ry ?_
      rcases e2 z with ⟨f1, f2⟩ | ⟨y, u', v', f1, f2, _⟩
      · rw [f1] at o2; exact ⟨_, none, rfl, rfl, by rw [C.hK]; exact f2, o2.now hr _ (.bl _)⟩
      · rw [f1] at o2; exact ⟨_, some u', rfl, rfl, by rw [C.hK]; exact f2, o2.now hr _ (.bl _)⟩
  · exact (show False from o).elim
theorem o_kix (C : Cxt w k X) (T : KTab w X.w i rows) : IxR X (r2 w EX (opKIx i rows)) := by
  intro value slice pins s σ H x y v u Q I rx ry ⟨M, rho, h, px, py, hr, vx, vy, o⟩ hs
  obtain ⟨d, es, n, e1, D, e2⟩ := T.ex
  unfold opKIx at o
  split at o
  · rename_i j z
    obtain ⟨hj, o2⟩ := Out.bif o
    have hj := beq_iff_eq.mp hj
    subst hj
    cases vy
    cases vx with
    | gl eg =>
      rw [e1] at eg
      cases eg
      have D' : KDict X.K X.w d es n := by rw [C.hK]; exact D
      rcases e2 z with ⟨f1, f2⟩ | ⟨y, u', v', f1, f2, f3, f4⟩
      · rw [f1] at o2; exact (show False from o2).elim
      · rw [f1] at o2
        cases rx
        refine tail_any (T := "dict") (kd_type D' I) PySem.F.slot_dict_getitem.lookup ?_ hs
        exact op_item_kd D' pins s σ H (.ref d) _ (.ref d) u Q I (show RelV (V.ref d) (Value.ref d) from rfl) ry ⟨_, u', v', rfl, rfl, by rw [C.hK]; exact f2, f3, (show Out w EX M rho H (.ok y h) (KV w Q) from o2).now hr _ (f4 _ _ _)⟩
  · exact (show False from o).elim
theorem me_kix (C : Cxt w k X) (T : KTab w X.w i rows) {a b : Expr} {ma mb : ME} {pos : Pos} (ha : PE X a (tM w EX ma)) (hb : PE X b (tM w EX mb)) (hs : PlainIx b := by exact fun _ _ => rfl) : PE X (.Subscript a b pos) (tM w EX (mOp (opKIx i rows) ma mb)) :=
  PE.imp (pe_ix (o_kix C T) ha hb hs) fun _ _ _ h => tM_op h

def mCallV (i : Nat) (tab : List (Nat × MF)) (n : Nat) (ma : MA) : ME := fun env h => match env[i]? with
  | some (some (.gl j)) => match tab.lookup j with
    | some m => (ma env h).bind fun xs h1 => bif xs.length == n then callG takeBack m (gI (List.range n) (xs ++ [])) h1 else .stuck
    | none => .stuck
  | _ => .stuck
/-- the defs of the table -/
def FTab (P : Program) (W : World) (w : Wo) (mg : Str → Option Value) (base : Heap) (k n : Nat) (tab : List (Nat × MF)) : Prop := ∀ p ∈ tab, ∃ f fd ps, w.gv p.1 = some (.ref f) ∧ PySem.W.keepIn w.K (.ref f) = true ∧ FnM P W w mg base CX0 exF k f fd ps p.2 ∧ Bd w.K fd ps [] n [] (List.range n)
theorem lookup_memF {n : Nat} {m : MF} : ∀ {l : List (Nat × MF)}, l.lookup n = some m → (n, m) ∈ l
  | [], e => by cases e
  | (j, c) :: r, e => by
    rw [List.lookup_cons] at e
    cases q : n == j with
    | true => rw [q] at e; cases e; rw [beq_iff_eq.mp q]; exact List.mem_cons_self
    | false => rw [q] at e; exact List.mem_cons_of_mem _ (lookup_memF e)
theorem me_callV (C : Cxt w k X) {n : Nat} {tab : List (Nat × MF)} (F : FTab X.prog X.w w X.mg X.base k n tab) (i : Nat) {x : Str} {p pos : Pos} {e : Expr} {es : List Expr} {ma : MA} (ha : PA X (e :: es) (tA w EX ma)) (hN : X.N[i]? = some x := by rfl) (hv : Vis X.env.scope x := by first | exact Or.inl rfl | exact Or.inr (Or.inl rfl) | exact Or.inr (Or.inr rfl))
    (hdb : (x == ("__debug__" : Str)) = false := by decide) (hcd : (x == ("__classdict__" : Str)) = false := by decide)
    (he : starEach (e :: es) X.env = (false, eval e X.env) :: starEach es X.env := by rfl) (hpl : (backTo pos (starEach es X.env)).any (·.1) = false := by rfl) : PE X (.Call (.Name x p) (e :: es) [] pos) (tM w EX (mCallV i tab n ma)) := by
  refine ⟨fun pins s σ H Q I h => ?_⟩
  obtain ⟨M, rho, env, hh, er, hr, o⟩ := h
  unfold mCallV at o
  split at o
  · rename_i j ej
    split at o
    · rename_i m em
      obtain ⟨f, fd, ps, g1, g2, g3, g4⟩ := F _ (lookup_memF em)
      obtain ⟨v, ev, rv⟩ := er.get ej
      cases rv with
      | gl eg =>
        rw [g1] at eg
        cases eg
        have B := clb_fn (EX := EX) (ks := []) C g3 pass0 g2 g4 (dv := []) (dp := []) .nil (fun _ _ _ => .nil) tb_ok
        refine wpAny_Call_Name_kw (thn ((pe_var (pos := p) hN hv hdb hcd).run pins s σ H (fun v H1 => v = .ref f ∧ H1 = H) I ⟨.ref f, ev, rfl, rfl⟩) fun u s1 ⟨v, H1, I1, r1, q1⟩ => ?_)
        obtain ⟨rfl, rfl⟩ := q1
        cases r1
        refine PySem.W.callWith_K (h₀ := X.base) I1.ok.mod.kin B.kp (thn (ha.run pos pins s1 σ _ _ I1 (tA.of er hr (Out.bind o) fun xs h1 M1 rho1 H1 vs st1 er1 hr1 o1 rs => (⟨M1, rho1, h1, xs, hr1, rs, o1⟩ : ∃ M1 rho1 h1 xs, HR w M1 rho1 H1 h1 ∧ VRs w M1 rho1 H1 xs vs ∧ Out w EX M1 rho1 H1 (bif xs.length == n then callG takeBack m (gI (List.range n) (xs ++ [])) h1 else .stuck) (KV w Q)))) fun us s2 ⟨vs, H2, I2, r, q⟩ => ⟨I2.kIn, ?_⟩) he hpl
        obtain ⟨M1, rho1, h1, xs, hr1, rs, o1⟩ := q
        exact clb_at B rfl I2 r hr1 rs o1
    · exact (show False from o).elim
  · exact (show False from o).elim
end
/-- the globals by number -/
def gvOf (l : List (Nat × Addr)) : Nat → Option V := fun i => (l.lookup i).map V.ref
theorem gvn_of {l : List (Nat × Addr)} : ∀ i v, gvOf l i = some v → v ≠ .non := fun i v e => by
  unfold gvOf at e
  obtain ⟨a, _, rfl⟩ := Option.map_eq_some_iff.mp e
  exact fun z => nomatch z
/-- the rows of a written dict -/
def rowE (r : Int × Str × Tok × Value) : DictEntry := ⟨r.1, .str r.2.1 r.2.2.1, r.2.2.2⟩
def findR (s : Str) : List (Int × Str × Tok × Value) → Option Value
  | [] => none
  | r :: t => bif r.2.1 == s then some r.2.2.2 else findR s t
theorem nsIn_rows {K : PySem.W.Frag} {d : Addr} {n : Nat} {sl : Array (Option Value)} {rs : List (Int × Str × Tok × Value)} {c : Value} {od : Option Addr} (h : K.lookup d = some ⟨c, od, .dict (rs.map rowE).toArray n, sl⟩) (s : Str) : PySem.W.nsIn K d s = some (findR s rs) := by
  unfold PySem.W.nsIn
  rw [h]
  have key : ∀ rs : List (Int × Str × Tok × Value), ((rs.map rowE).find? (·.key.isStr s)).map (·.val) = findR s rs := by
    intro rs
    induction rs with
    | nil => rfl
    | cons r t ih =>
      rw [List.map_cons, List.find?_cons]
      have e : (rowE r).key.isStr s = (r.2.1 == s) := rfl
      rw [e]
      unfold findR
      cases q : r.2.1 == s with
      | true => rfl
      | false => exact ih
  have none : (rs.map rowE).any (·.refKey) = false := by
    rw [List.any_eq_false]
    intro e he
    obtain ⟨r, _, rfl⟩ := List.mem_map.mp he
    exact Bool.false_ne_true
  simp only [List.toList_toArray]
  have k := key rs
  cases q : (rs.map rowE).find? (·.key.isStr s) with
  | some e => rw [q] at k; rw [← k]; rfl
  | none => rw [q] at k; simp only [none]; rw [← k]; rfl
inductive RowsOk (w : Wo) : List (Int × Str × Tok × Value) → List (List Nat × PV) → Prop
  | nil : RowsOk w [] []
  | cons {h : Int} {z : Str} {t : Tok} {u : Value} {k : List Nat} {y : PV} {v : V} {r r'} : z = ⟨k.toArray⟩ → RelV v u → (∀ M rho H, VR w M rho H y v) → RowsOk w r r' → RowsOk w ((h, z, t, u) :: r) ((k, y) :: r')
theorem RowsOk.find {w : Wo} (s : List Nat) : ∀ {rs rows}, RowsOk w rs rows → (findT s rows = none ∧ findR ⟨s.toArray⟩ rs = none) ∨ ∃ y u v, findT s rows = some y ∧ findR ⟨s.toArray⟩ rs = some u ∧ RelV v u ∧ ∀ M rho H, VR w M rho H y v
  | _, _, .nil => .inl ⟨rfl, rfl⟩
  | _, _, .cons (z := z) (k := k) hz hv hy ht => by
    subst hz
    unfold findT findR
    have e : ((⟨k.toArray⟩ : Str) == ⟨s.toArray⟩) = (k == s) := by
      by_cases q : k = s
      · rw [q]; simp
      · rw [beq_eq_false_iff_ne.mpr q]
        exact beq_eq_false_iff_ne.mpr fun z => q (S_inj z)
    simp only [e]
    cases q : k == s with
    | true => exact .inr ⟨_, _, _, rfl, rfl, hv, hy⟩
    | false => exact RowsOk.find s ht
theorem ktab_of {w : Wo} {W : World} {i : Nat} {d : Addr} {n : Nat} {rs : List (Int × Str × Tok × Value)} {rows : List (List Nat × PV)} (hg : w.gv i = some (.ref d)) (h : w.K.lookup d = some ⟨.type "dict", none, .dict (rs.map rowE).toArray n, #[]⟩) (hl : PySem.W.KeysLit W.params (rs.map rowE)) (hd : (d == sysModules) = false) (ok : RowsOk w rs rows) : KTab w W i rows :=
  ⟨d, _, n, hg, ⟨h, by simpa using hl, hd⟩, fun s => by
    rw [nsIn_rows h]
    rcases ok.find s with ⟨a, b⟩ | ⟨y, u, v, a, b, c, e⟩
    · exact .inl ⟨a, by rw [b]⟩
    · exact .inr ⟨y, u, v, a, by rw [b], c, e⟩⟩
end MC

end
section
set_option maxRecDepth 100000
set_option maxHeartbeats 4000000
namespace MC
open PySem PySem.Spec PyProof.Rows L2

def strI (i : Int) : List Nat := (Str.ofString (toString i)).cps.toList
theorem strI_eq (i : Int) : (⟨(strI i).toArray⟩ : Str) = Str.ofString (toString i) := by unfold strI; simp
def bigI : Nat := 1920
def fitI (i : Int) : Bool := decide (i.natAbs.log2 < bigI)
def bStrI : OC := fun h xs => match xs with
  | [.int i] => bif fitI i then .ok (.str (strI i)) h else .stuck
  | _ => .stuck
def bBool : OC := fun h xs => match xs with
  | [.int i] => .ok (.bl (i != 0)) h
  | [.bl b] => .ok (.bl b) h
  | _ => .stuck
def maxL : Int → List Int → Int
  | m, [] => m
  | m, x :: r => maxL (if x > m then x else m) r
def minLi : Int → List Int → Int
  | m, [] => m
  | m, x :: r => minLi (if x < m then x else m) r
def bMax1 : OC := fun h xs => match xs with
  | [x] => match lstP h x with
    | some ys => match intsP ys with
      | some (i :: is) => .ok (.int (maxL i is)) h
      | _ => .stuck
    | none => .stuck
  | _ => .stuck
def bMin1 : OC := fun h xs => match xs with
  | [x] => match lstP h x with
    | some ys => match intsP ys with
      | some (i :: is) => .ok (.int (minLi i is)) h
      | _ => .stuck
    | none => .stuck
  | _ => .stuck
theorem maxL_ok : ∀ (m : Int) (l : List Int), (maxL m l ∈ m :: l) ∧ ∀ y ∈ m :: l, y ≤ maxL m l
  | m, [] => ⟨List.mem_cons_self, fun y h => by rw [List.mem_singleton.mp h]; exact Int.le_refl _⟩
  | m, x :: r => by
    obtain ⟨h1, h2⟩ := maxL_ok (if x > m then x else m) r
    show maxL (if x > m then x else m) r ∈ m :: x :: r ∧ ∀ y ∈ m :: x :: r, y ≤ maxL (if x > m then x else m) r
    generalize maxL (if x > m then x else m) r = z at *
    by_cases e : x > m
    · rw [if_pos e] at h1 h2
      refine ⟨List.mem_cons_of_mem _ h1, fun y hy => ?_⟩
      rcases List.mem_cons.mp hy with rfl | hy
      · have := h2 x List.mem_cons_self; omega
      · exact h2 y hy
    · rw [if_neg e] at h1 h2
      refine ⟨?_, fun y hy => ?_⟩
      · rcases List.mem_cons.mp h1 with q | q
        · rw [q]; exact List.mem_cons_self
        · exact List.mem_cons_of_mem _ (List.mem_cons_of_mem _ q)
      · rcases List.mem_cons.mp hy with rfl | hy
        · exact h2 y List.mem_cons_self
        · rcases List.mem_cons.mp hy with rfl | hy
          · have := h2 m List.mem_cons_self; omega
          · exact h2 y (List.mem_cons_of_mem _ hy)
theorem minL_ok : ∀ (m : Int) (l : List Int), (minLi m l ∈ m :: l) ∧ ∀ y ∈ m :: l, minLi m l ≤ y
  | m, [] => ⟨List.mem_cons_self, fun y h => by rw [List.mem_singleton.mp h]; exact Int.le_refl _⟩
  | m, x :: r => by
    obtain ⟨h1, h2⟩ := minL_ok (if x < m then x else m) r
    show minLi (if x < m then x else m) r ∈ m :: x :: r ∧ ∀ y ∈ m :: x :: r, minLi (if x < m then x else m) r ≤ y
    generalize minLi (if x < m then x else m) r = z at *
    by_cases e : x < m
    · rw [if_pos e] at h1 h2
      refine ⟨List.mem_cons_of_mem _ h1, fun y hy => ?_⟩
      rcases List.mem_cons.mp hy with rfl | hy
      · have := h2 x List.mem_cons_self; omega
      · exact h2 y hy
    · rw [if_neg e] at h1 h2
      refine ⟨?_, fun y hy => ?_⟩
      · rcases List.mem_cons.mp h1 with q | q
        · rw [q]; exact List.mem_cons_self
        · exact List.mem_cons_of_mem _ (List.mem_cons_of_mem _ q)
      · rcases List.mem_cons.mp hy with rfl | hy
        · exact h2 y List.mem_cons_self
        · rcases List.mem_cons.mp hy with rfl | hy
          · have := h2 m List.mem_cons_self; omega
          · exact h2 y (List.mem_cons_of_mem _ hy)
section
variable {w : Wo} {EX : XC} {X : Cx} {k : Nat} {M : Addr → Prop} {rho : List Addr} {H : Hp} {h : PH}
theorem b_strI : CallR X (.type "str") (rA w EX bStrI) := by
  refine CallR.imp call_str_int fun xs H Q hh => rA1 hh fun M rho h ps hr rs o => ?_
  unfold bStrI at o
  split at o
  · rename_i i
    obtain ⟨v, rfl, rv⟩ := vrs1 rs
    cases rv
    obtain ⟨hf, o⟩ := Out.bif o
    exact ⟨i, rfl, of_decide_eq_true hf, o.now hr _ (by rw [← strI_eq]; exact .str _)⟩
  · exact (show False from o).elim
theorem b_bool : CallR X (.type "bool") (rA w EX bBool) := by
  refine CallR.imp call_bool1 fun xs H Q hh => rA1 hh fun M rho h ps hr rs o => ?_
  unfold bBool at o
  split at o
  · rename_i i
    obtain ⟨v, rfl, rv⟩ := vrs1 rs
    cases rv
    exact .inl ⟨i, rfl, o.now hr _ (.bl _)⟩
  · rename_i b
    obtain ⟨v, rfl, rv⟩ := vrs1 rs
    cases rv
    exact .inr ⟨b, rfl, o.now hr _ (.bl _)⟩
  · exact (show False from o).elim
theorem b_max1 (C : Cxt w k X) : CallR X (.builtin "max") (rA w EX bMax1) := by
  refine CallR.imp (cr_max C.calm) fun xs H Q hh => rA1 hh fun M rho h ps hr rs o => ?_
  unfold bMax1 at o
  split at o
  · obtain ⟨v, rfl, rv⟩ := vrs1 rs
    split at o
    · rename_i ys e0
      split at o
      · rename_i i is e1
        obtain ⟨a, ws, rfl, rw', q⟩ := lst_ok hr rv e0
        have := ints_ok rw' e1
        subst this
        refine ⟨a, i :: is, rfl, by rw [C.hK]; exact q, Nat.succ_pos _, fun m hm hle => ?_⟩
        obtain ⟨h1, h2⟩ := maxL_ok i is
        have e : m = maxL i is := by have a := hle _ h1; have b := h2 m hm; omega
        rw [e]
        exact o.now hr _ (.int _)
      · exact (show False from o).elim
    · exact (show False from o).elim
  · exact (show False from o).elim
theorem b_min1 (C : Cxt w k X) : CallR X (.builtin "min") (rA w EX bMin1) := by
  refine CallR.imp (cr_min C.calm) fun xs H Q hh => rA1 hh fun M rho h ps hr rs o => ?_
  unfold bMin1 at o
  split at o
  · obtain ⟨v, rfl, rv⟩ := vrs1 rs
    split at o
    · rename_i ys e0
      split at o
      · rename_i i is e1
        obtain ⟨a, ws, rfl, rw', q⟩ := lst_ok hr rv e0
        have := ints_ok rw' e1
        subst this
        refine ⟨a, i :: is, rfl, by rw [C.hK]; exact q, Nat.succ_pos _, fun m hm hle => ?_⟩
        obtain ⟨h1, h2⟩ := minL_ok i is
        have e : m = minLi i is := by have a := hle _ h1; have b := h2 m hm; omega
        rw [e]
        exact o.now hr _ (.int _)
      · exact (show False from o).elim
    · exact (show False from o).elim
  · exact (show False from o).elim

def rgOk (a b : Int) : Bool := inR a && inR b && decide ((b - a).toNat ≤ LIM)
def mLstRg1 (m : ME) : ME := fun env h => (m env h).bind fun x h1 => match x with
  | .int n => bif rgOk 0 n then .ok (.ref h1.length) (h1 ++ [.lst (seqI 0 n.toNat)]) else .stuck
  | _ => .stuck
def mTupRg1 (m : ME) : ME := fun env h => (m env h).bind fun x h1 => match x with
  | .int n => bif rgOk 0 n then .ok (.tup (seqI 0 n.toNat)) h1 else .stuck
  | _ => .stuck
def mLstRg2 (m m2 : ME) : ME := fun env h => (m env h).bind fun x h1 => (m2 env h1).bind fun y h2 => match x, y with
  | .int a, .int b => bif rgOk a b then .ok (.ref h2.length) (h2 ++ [.lst (seqI a (b - a).toNat)]) else .stuck
  | _, _ => .stuck
theorem rgOk_ok {a b : Int} (h : rgOk a b = true) : RgOk a b := by
  unfold rgOk at h
  rw [Bool.and_eq_true, Bool.and_eq_true] at h
  obtain ⟨h1, h2⟩ := inR_ok h.1.1
  obtain ⟨h3, h4⟩ := inR_ok h.1.2
  exact ⟨h1, h2, h3, h4, of_decide_eq_true h.2⟩
theorem rg_vrs (a b : Int) : VRs w M rho H (seqI a (b - a).toNat) (rgV a b) := by
  unfold seqI rgV
  generalize List.range (b - a).toNat = l
  induction l with
  | nil => exact .nil
  | cons x r ih => exact .cons (.int _) ih
theorem me_lstRg1 (C : Cxt w k X) {e : Expr} {m : ME} {p pos : Pos} (hg : Gl X "list") (hm : X.mg "list" = none) (he : PRg X e (tRg1 (tM w EX m))) (na : starEach [e] X.env = (false, eval e X.env) :: starEach [] X.env := by rfl) : PE X (.Call (.Name "list" p) [e] [] pos) (tM w EX (mLstRg1 m)) := by
  refine PE.imp (pe_listRg C.calm hg hm he (na := na)) fun σ H Q hh => ?_
  obtain ⟨M, rho, env, h, er, hr, o⟩ := hh
  refine tM.of er hr (Out.bind o) fun x h1 M1 rho1 H1 v st1 er1 hr1 o1 rv => ?_
  split at o1
  · rename_i n
    obtain ⟨hb, o1⟩ := Out.bif o1
    cases rv
    refine ⟨n, rfl, rgOk_ok hb, ?_⟩
    have := rg_vrs (w := w) (M := M1) (rho := rho1) (H := H1) 0 n
    rw [Int.sub_zero] at this
    exact KV.lst hr1 o1 this
  · exact (show False from o1).elim
theorem me_tupRg1 (C : Cxt w k X) {e : Expr} {m : ME} {p pos : Pos} (hg : Gl X "tuple") (hm : X.mg "tuple" = none) (he : PRg X e (tRg1 (tM w EX m))) (na : starEach [e] X.env = (false, eval e X.env) :: starEach [] X.env := by rfl) : PE X (.Call (.Name "tuple" p) [e] [] pos) (tM w EX (mTupRg1 m)) := by
  refine PE.imp (pe_tupRg C.calm hg hm he (na := na)) fun σ H Q hh => ?_
  obtain ⟨M, rho, env, h, er, hr, o⟩ := hh
  refine tM.of er hr (Out.bind o) fun x h1 M1 rho1 H1 v st1 er1 hr1 o1 rv => ?_
  split at o1
  · rename_i n
    obtain ⟨hb, o1⟩ := Out.bif o1
    cases rv
    refine ⟨n, rfl, rgOk_ok hb, ?_⟩
    have := rg_vrs (w := w) (M := M1) (rho := rho1) (H := H1) 0 n
    rw [Int.sub_zero] at this
    exact KV.tup hr1 o1 this
  · exact (show False from o1).elim
theorem me_lstRg2 (C : Cxt w k X) {e : Expr} {m m2 : ME} {p pos : Pos} (hg : Gl X "list") (hm : X.mg "list" = none) (he : PRg X e (tRg2 (tM w EX m) (tM w EX m2))) (na : starEach [e] X.env = (false, eval e X.env) :: starEach [] X.env := by rfl) : PE X (.Call (.Name "list" p) [e] [] pos) (tM w EX (mLstRg2 m m2)) := by
  refine PE.imp (pe_listRg C.calm hg hm he (na := na)) fun σ H Q hh => ?_
  obtain ⟨M, rho, env, h, er, hr, o⟩ := hh
  refine tM.of er hr (Out.bind o) fun x h1 M1 rho1 H1 v st1 er1 hr1 o1 rv => ?_
  refine tM.of er1 hr1 (Out.bind o1) fun y h2 M2 rho2 H2 u st2 er2 hr2 o2 ru => ?_
  split at o2
  · rename_i a b
    obtain ⟨hb, o2⟩ := Out.bif o2
    cases rv
    cases ru
    exact ⟨a, b, rfl, rfl, rgOk_ok hb, KV.lst hr2 o2 (rg_vrs a b)⟩
  · exact (show False from o2).elim

def fmtP : PV → Option (List Nat)
  | .str s => bif decide (s.length ≤ LIM) then some s else none
  | .int i => bif fitI i then some (strI i) else none
  | _ => none
def mFmt (m : ME) : ME := fun env h => (m env h).bind fun x h1 => match fmtP x with
  | some s => .ok (.str s) h1
  | none => .stuck
def mJs : List ME → List Nat → ME
  | [], acc => fun _ h => .ok (.str acc) h
  | m :: ms, acc => fun env h => (m env h).bind fun x h1 => match x with
    | .str s => bif decide (acc.length + s.length ≤ LIM) then mJs ms (acc ++ s) env h1 else .stuck
    | _ => .stuck
theorem me_fmt {e : Expr} {m : ME} {pos : Pos} (he : PE X e (tM w EX m)) : PE X (.FormattedValue e (-1) none pos) (tM w EX (mFmt m)) := by
  refine PE.imp (pe_fmt he) fun σ H Q hh => ?_
  obtain ⟨M, rho, env, h, er, hr, o⟩ := hh
  refine tM.of er hr (Out.bind o) fun x h1 M1 rho1 H1 v st1 er1 hr1 o1 rv => ?_
  cases x <;> try exact (show False from o1).elim
  · rename_i i
    have o2 : Out w EX M1 rho1 H1 (match (bif fitI i then some (strI i) else none) with
      | some s => .ok (.str s) h1
      | none => .stuck) (KV w Q) := o1
    cases e : fitI i with
    | false => rw [e] at o2; exact (show False from o2).elim
    | true =>
      rw [e] at o2
      cases rv
      exact .inr ⟨i, rfl, of_decide_eq_true e, (show Out w EX M1 rho1 H1 (.ok (.str (strI i)) h1) (KV w Q) from o2).now hr1 _ (by rw [← strI_eq]; exact .str _)⟩
  · rename_i s
    have o2 : Out w EX M1 rho1 H1 (match (bif decide (s.length ≤ LIM) then some s else none) with
      | some s => .ok (.str s) h1
      | none => .stuck) (KV w Q) := o1
    by_cases e : s.length ≤ LIM
    · rw [decide_eq_true e] at o2
      cases rv
      refine .inl ⟨_, rfl, ?_, (show Out w EX M1 rho1 H1 (.ok (.str s) h1) (KV w Q) from o2).now hr1 _ (.str s)⟩
      show (S s).length ≤ _
      rw [S_len, lim_eq]; exact e
    · rw [decide_eq_false e] at o2; exact (show False from o2).elim
theorem js_reads : ∀ (ms : List ME) (acc : List Nat) {σ : L2.St} {H : Hp} {Q : VK}, tM w EX (mJs ms acc) σ H Q → tJs (ms.map (tM w EX)) ⟨acc.toArray⟩ σ H fun out H1 => Q (.str out) H1
  | [], acc, σ, H, Q, ⟨M, rho, env, h, er, hr, o⟩ => o.now hr _ (.str acc)
  | m :: ms, acc, σ, H, Q, ⟨M, rho, env, h, er, hr, o⟩ => by
    refine tM.of er hr (Out.bind o) fun x h1 M1 rho1 H1 v st1 er1 hr1 o1 rv => ?_
    split at o1
    · rename_i s
      obtain ⟨hb, o1⟩ := Out.bif o1
      cases rv
      have e : (⟨acc.toArray⟩ : Str) ++ (⟨s.toArray⟩ : Str) = ⟨(acc ++ s).toArray⟩ := by
        show (⟨acc.toArray ++ s.toArray⟩ : Str) = _
        simp
      refine ⟨_, rfl, ?_, ?_⟩
      · rw [e]
        show (S (acc ++ s)).length ≤ _
        rw [S_len, lim_eq, List.length_append]
        exact of_decide_eq_true hb
      · rw [e]
        exact js_reads ms (acc ++ s) ⟨M1, rho1, env, h1, er1, hr1, o1⟩
    · exact (show False from o1).elim
theorem me_join {e1 e2 : Expr} {es : List Expr} {pos : Pos} (ms : List ME) (h : PJ X (e1 :: e2 :: es) (ms.map (tM w EX))) : PE X (.JoinedStr (e1 :: e2 :: es) pos) (tM w EX (mJs ms [])) :=
  PE.imp (pe_joined h) fun σ H Q hh => js_reads ms [] hh
end
end MC

end
section
set_option maxRecDepth 100000
set_option maxHeartbeats 4000000
namespace MC
open PySem PySem.Spec PyProof.Rows L2 SkE
def trueT : List Nat := [84, 114, 117, 101]
def falseT : List Nat := [70, 97, 108, 115, 101]
def noneT : List Nat := [78, 111, 110, 101]
def reprS (s : List Nat) : List Nat := (reprText (S s)).cps.toList
def bReprA : OC := fun h xs => match xs with
  | [.non] => .ok (.str noneT) h
  | [.bl b] => .ok (.str (bif b then trueT else falseT)) h
  | [.int i] => bif fitI i then .ok (.str (strI i)) h else .stuck
  | [.str s] => bif decide ((reprText (S s)).length ≤ LIM) then .ok (.str (reprS s)) h else .stuck
  | _ => bRepr h xs
section
variable {w : Wo} {EX : XC} {X : Cx} {k : Nat} {M : Addr → Prop} {rho : List Addr} {H : Hp} {h : PH}
theorem b_reprA (C : Cxt w k X) : CallR X (.builtin "repr") (rA w EX bReprA) := by
  intro pins s σ H xs us Q I r hh
  obtain ⟨M, rho, h, ps, hr, rs, o⟩ := hh
  unfold bReprA at o
  split at o
  · obtain ⟨v, rfl, rv⟩ := vrs1 rs
    cases rv
    obtain ⟨u, rfl, ru⟩ := vals1 r
    obtain rfl : u = Value.none := ru
    exact PySem.P.repr_of_none ⟨.str _, H, I.tok _, ⟨_, rfl⟩, o.now hr _ (.str noneT)⟩
  · rename_i b
    obtain ⟨v, rfl, rv⟩ := vrs1 rs
    cases rv
    obtain ⟨u, rfl, ru⟩ := vals1 r
    obtain rfl : u = Value.bool b := ru
    refine PySem.P.repr_of_bool ⟨.str _, H, I.tok _, ⟨_, rfl⟩, ?_⟩
    have := o.now hr _ (.str (bif b then trueT else falseT))
    cases b <;> exact this
  · rename_i i
    obtain ⟨v, rfl, rv⟩ := vrs1 rs
    cases rv
    obtain ⟨hf, o⟩ := Out.bif o
    obtain ⟨u, rfl, t, rfl⟩ := vals1 r
    exact PySem.P.repr_of_int (of_decide_eq_true hf) ⟨.str _, H, I.tok _, ⟨_, rfl⟩, o.now hr _ (by rw [← strI_eq]; exact .str _)⟩
  · rename_i z
    obtain ⟨v, rfl, rv⟩ := vrs1 rs
    cases rv
    obtain ⟨hf, o⟩ := Out.bif o
    obtain ⟨u, rfl, t, rfl⟩ := vals1 r
    refine PySem.P.repr_of_str ⟨.str _, H, I.tok _, ⟨_, rfl⟩, ?_⟩ (by rw [lim_eq]; exact of_decide_eq_true hf)
    have := o.now hr _ (.str (reprS z))
    unfold reprS at this
    rw [show (⟨(reprText (S z)).cps.toList.toArray⟩ : Str) = reprText (S z) from S_of _] at this
    exact this
  · exact b_repr C pins s σ H xs us Q I r ⟨M, rho, h, ps, hr, rs, o⟩
end
end MC

end
section
set_option maxRecDepth 100000
set_option maxHeartbeats 4000000
namespace MC
open PySem PySem.Spec PyProof.Rows L2
open PySem.W (Looks)
/-- may such a value stand on the right side -/
def rsOk (c : Nat) : Nat ⊕ Nat → Bool
  | .inl n => decide (n < 7)
  | .inr e => e == c
def opEqI (c : Nat) (m : MF) (ix : List Nat) (neg : Bool) : O2 := fun h x y => match fldsOf h x, kindP h y with
  | some (d, _), some q => bif d == c && rsOk c q then (callG takeBack m (gI ix [x, y]) h).bind fun v h1 => match v with
      | .bl b => .ok (.bl (negB neg b)) h1
      | _ => .stuck else .stuck
  | _, _ => .stuck
theorem sub_kind {K : PySem.W.Frag} {C : Addr} : ∀ n, n < 7 → PySem.W.subIn K (.type (kindN n)) (.ref C) = some false
  | 0, _ => by kernel_rfl
  | 1, _ => by kernel_rfl
  | 2, _ => by kernel_rfl
  | 3, _ => by kernel_rfl
  | 4, _ => by kernel_rfl
  | 5, _ => by kernel_rfl
  | 6, _ => by kernel_rfl
  | n + 7, h => absurd h (by omega)
section
variable {w : Wo} {EX : XC} {X : Cx} {k c : Nat} {m : MF} {ix : List Nat} {M : Addr → Prop} {rho : List Addr} {H : Hp} {h : PH} {tb cs : List (Nat × Bool)}
/-- the type of the right side, and that it does not go first -/
theorem right_side (C : Cxt w k X) {pins : List (Addr × Obj)} {σ : L2.St} {s : Shared} (I : Inv X pins σ H s) (hr : HR w M rho H h) {y : PV} {v : V} {u : Value} (ry : VR w M rho H y v) (ru : RelV v u) {A : Addr} (hA : w.cl c = some A) (hc : ClsI w.K A) {q : Nat ⊕ Nat} (ek : kindP h y = some q)
    (hq : rsOk c q = true) : ∃ t, Looks (model X.prog X.w) s.heap (typeOf u) t ∧ PySem.W.notFirst X.K A t = true := by
  rcases kind_ok hr ry ek with ⟨n, rfl, ty⟩ | ⟨n, D, rfl, hD, ty⟩
  · rw [← C.hK] at ty
    obtain ⟨P, z, hp, _⟩ := kit_of I ru ty
    refine ⟨_, z.ty _ _ I.kIn hp, ?_⟩
    unfold PySem.W.notFirst
    rw [sub_kind n (of_decide_eq_true hq)]
    simp
  · have e := beq_iff_eq.mp hq
    subst e
    rw [hA] at hD
    cases hD
    have ty := ty hc
    rw [← C.hK] at ty
    obtain ⟨P, z, hp, _⟩ := kit_of I ru ty
    exact ⟨Value.ref A, z.ty _ _ I.kIn hp, by simp [PySem.W.notFirst]⟩
/-- a def called from within, in the same room -/
theorem call_in0 {n : Nat} {f : Addr} {fd : FuncData} {ps : List Str} {pins : List (Addr × Obj)} {σ : L2.St} {s : Shared} (C : Cxt w (k + 1) X) (F : FnM X.prog X.w w X.mg X.base CX0 exF k f fd ps m) (B : Bd w.K fd ps [] n [] ix) {xs : List PV} {vs : List V} {us : List Value} {kk : KC PV} {E : Value → Shared → Prop} (I : Inv X pins σ H s) (r : Vals vs us) (lu : us.length = n)
    (hr : HR w M rho H h) (rx : VRs w M rho H xs vs) {EX : XC} (o : Out w EX M rho H (callG takeBack m (gI ix xs) h) kk) :
    wpAny (model X.prog X.w) X.A (call (.ref f) us) (fun u s' => ∃ x h1 M1 rho1 H1 v, Inv X pins σ H1 s' ∧ Step M rho H M1 rho1 H1 ∧ HR w M1 rho1 H1 h1 ∧ VR w M1 rho1 H1 x v ∧ RelV v u ∧ kk x h1 M1 rho1 H1) E s := by
  have e0 : Env0 X.prog X.w w.K X.mg X.base X.A X.stack s H := by rw [← C.hK]; exact I.env0
  have bt := B.to s us [] (by rw [← C.hK]; exact I.kIn) lu rfl
  have hlen : (gI ix us).length = ps.length := by
    rw [gI_len, B.len]
    intro i hi
    have := B.lo i hi
    simpa [lu] using this
  rw [List.append_nil, List.append_nil] at bt
  obtain ⟨rho', as, hc, r3, hr3, o3⟩ := callG_ok (EX2 := EXF) tb_ok hr (rx.gI ix) o
  have r2 := gI_vals r ix
  refine wpAny_call (codeAny_mono (F.run X.A X.stack s H ⟨us, []⟩ (gI ix us) (gI ix vs) (fun v H1 => ∃ x h1 M1 rho1, Step M rho H M1 rho1 H1 ∧ HR w M1 rho1 H1 h1 ∧ VR w M1 rho1 H1 x v ∧ kk x h1 M1 rho1 H1) (fun _ _ _ => False) (C.room.mono (Nat.le_succ k)) C.grd e0 bt r2 (by rw [r2.length]; exact hlen)
    ⟨M, rho', as, hc, r3, hr3, o3.imp fun v g M1 rho1 H1 st1 hr1 q V rv => ?_⟩) fun rs s' q => ?_)
  · obtain ⟨M2, rho2, u, h2, st2, hr2, ru, kq⟩ := q V rv
    exact ⟨u, h2, M2, rho2, st2, hr2, ru, kq⟩
  · cases rs with
    | error e => exact (show False from q).elim
    | ok fl =>
      cases fl with
      | ret u =>
        obtain ⟨v, H1, I1, ru, x, h1, M1, rho1, a1, a2, a3, a4⟩ := I.after q
        exact ⟨x, h1, M1, rho1, H1, v, I1, a1, a2, a3, ru, a4⟩
      | next => exact (show False from q).elim
      | brk => exact (show False from q).elim
      | cont => exact (show False from q).elim
theorem o_eqI (C : Cxt w (k + 1) X) (S : SpM X.prog X.w w X.mg X.base c "__eq__" k 2 m ix) (hci : ∀ A, w.cl c = some A → ClsI w.K A) : OpR X (compareOp .Eq) (r2 w EX (opEqI c m ix false)) := by
  obtain ⟨A, f, fd, ps, hA, hs, hf, F, B⟩ := S.ex
  intro pins s σ H x y v u Q I rx ry ⟨M, rho, h, px, py, hr, vx, vy, o⟩
  unfold opEqI at o
  split at o
  · rename_i d fs q ef ek
    obtain ⟨hd, o2⟩ := Out.bif o
    rw [Bool.and_eq_true] at hd
    have hd1 := beq_iff_eq.mp hd.1
    subst hd1
    obtain ⟨a, D, dx, gs, rfl, q1, q2, q3⟩ := flds_ok hr vx ef
    rw [hA] at q1
    cases q1
    obtain rfl := (show _ = Value.ref a from rx)
    obtain ⟨mA, J, _⟩ := ins_get I.hok q2
    obtain ⟨od, J, _⟩ := J.look
    obtain ⟨m0, hF⟩ := I.fr
    obtain ⟨t, ht, hn⟩ := right_side C I hr vy ry hA (hci _ hA) ek hd.2
    refine PySem.W.cmp_K (op := .Eq) (tb := t) C.room.units0 hF I.ok.mod.kin J ht hn (by rw [C.hK]; exact hs) (by rw [C.hK]; exact hf) ?_
    refine wpAny_mono (call_in0 C F B (us := [.ref a, u]) (vs := [.ref a, y]) I (.cons rfl (.cons ry .nil)) rfl hr (.cons vx (.cons vy .nil)) (Out.bind o2)) (fun u1 s' q => ?_) fun _ _ z => z
    obtain ⟨z, h1, M1, rho1, H1, vz, I1, st, hr1, rz, ru, o1⟩ := q
    split at o1
    · rename_i b
      cases rz
      obtain rfl := (show u1 = Value.bool b from ru)
      exact ⟨.bl b, H1, I1, rfl, o1.now hr1 _ (.bl b)⟩
    · exact (show False from o1).elim
  · exact (show False from o).elim
end
end MC

end
section
set_option maxRecDepth 100000
set_option maxHeartbeats 4000000
namespace PySem.W
open PySem PySem.Calls PyProof.Rows Builtin Builtin.ObjectAttr Builtin.Getset_descriptor
theorem ne_bind (self : Value) : bindSpecial (.builtin "object.__ne__") self = pure (.builtin "object.__ne__", [self]) := F.cmp_object.ne.bind self
section
variable {prog : Program} {w : World} {A : Around} {E : Value → Shared → Prop} {h₀ h : Heap} {g : Array GenState} {d : Drawn} {t : Nat} {os : OsState} {K : Frag} {x C L f : Addr} {m : Str → Option Value} {ox : Obj} {od : Option Obj} {y tb : Value}
theorem objNe_own (X : K.In h) (I : InstAt h x ox C od) (hs : findIn K (.ref C) "__eq__" = some (some (.ref f))) (hf : isFn K (.ref f) = true) (hu : A.units < cLine) {Q : Fin → Shared → Prop}
    (hcall : wpAny (model prog w) A (call (.ref f) [.ref x, y]) (fun v s' => ∃ b, v = .bool b ∧ Q (.done (.ret (.bool (!b)))) s') E ⟨h, g, d, t, os⟩) :
    wpAny (model prog w) A (Builtin.«object.__ne__» ⟨[.ref x, y], []⟩) Q E ⟨h, g, d, t, os⟩ := by
  unfold Builtin.«object.__ne__»
  repeat (first
    | with_reducible refine wpAny_cRoomFor hu ?_
    | (refine wpAny_bind (m := callSpecialIfBound? (.ref x) (Str.ofString "__eq__") [y])
        (ifBound_K X I hs hf (wpAny_mono hcall (fun r s' hr => by
          obtain ⟨b, rfl, hq⟩ := hr
          repeat (first | exact hq | exact wpAny_pure hq | exact wpAny_truthy_bool hq | (refine wpAny_bind (m := truthy (.bool _)) (wpAny_truthy_bool ?_)) | wp_step)) fun _ _ e => e)))
    | wp_step)
theorem ifBound_ne {M : Model} {Q : Option Value → Shared → Prop} {s : Shared} (X : K.In s.heap) (I : InstAt s.heap x ox C od) (hn : findIn K (.ref C) "__ne__" = some (some (.builtin "object.__ne__")))
    (h : wpAny M A (call (.builtin "object.__ne__") [.ref x, y]) (fun v => Q (some v)) E s) : wpAny M A (callSpecialIfBound? (.ref x) "__ne__" [y]) Q E s := by
  simp only [callSpecialIfBound?, bindSpecialIfBound?]
  refine wpAny_holding (wpAny_bind (wpAny_bind (wpAny_bind (I.type.here ((looks_findIn X hn).here ?_)))))
  simp only [ne_bind]
  refine wpAny_bind (wpAny_askSetting (wpAny_ite ?_))
  have fin : wpAny M A (call (.builtin "object.__ne__") ([.ref x] ++ [y]) >>= fun v => pure (some v)) Q E s := wpAny_bind (wpAny_mono h (fun v s' h' => wpAny_pure h') fun _ _ h' => h')
  split
  · exact wpAny_bind (wpAny_pure (wpAny_pure fin))
  · exact wpAny_tryCatch (wpAny_bind (wpAny_pure (wpAny_pure fin)))
theorem ne_K {Q : Value → Shared → Prop} {s : Shared} (hu : A.units + 1 < cLine) (F : Fr h₀ L s.heap m) (X₀ : K.In h₀) (I : InstAt s.heap x ox C od) (hb : Looks (model prog w) s.heap (typeOf y) tb) (hn : notFirst K C tb = true)
    (hne : findIn K (.ref C) "__ne__" = some (some (.builtin "object.__ne__"))) (hob : subIn K (.ref C) (.type "object") = some true)
    (hs : findIn K (.ref C) "__eq__" = some (some (.ref f))) (hf : isFn K (.ref f) = true)
    (h : wpAny (model prog w) A.in1 (call (.ref f) [.ref x, y]) (fun v s' => ∃ b, v = .bool b ∧ Q (.bool (!b)) s') E s) : wpAny (model prog w) A (richCompare .NotEq (.ref x) y) Q E s := by
  have X := X₀.keeps F.keep
  have one : wpAny (model prog w) A (tryCompare (.ref x) "__ne__" y) (fun r s' => ∃ v, r = some v ∧ Q v s') E s := by
    unfold tryCompare
    refine wpAny_bind (ifBound_ne X I hne (wpAny_call (codeAny_call_builtin PySem.F.cmp_object.ne.plain PySem.F.cmpEntry_ne (check_slot PySem.F.cmpKind_ne PySem.F.cmpSplit_ne (I.type.andThen (looks_subIn X hob)) (PySem.F.cmpArgs_ne _ _) ?_))))
    obtain ⟨hp, g, d, t, os⟩ := s
    refine objNe_own (A := A.in1) X I hs hf hu (wpAny_mono h (fun v s' hv => ?_) fun _ _ e => e)
    obtain ⟨b, rfl, hq⟩ := hv
    first | exact ⟨b, rfl, wpAny_pure hq⟩ | exact wpAny_pure ⟨_, rfl, hq⟩ | exact ⟨_, rfl, wpAny_pure ⟨_, rfl, hq⟩⟩
  unfold richCompare
  simp only [oneThing_ref]
  refine wpAny_holding (wpAny_bind (wpAny_cRoomFor (by omega) ?_))
  refine wpAny_bind (I.type.here (wpAny_bind (hb.here ?_)))
  split
  · rename_i q
    have e : subIn K tb (.ref C) = some false := by
      rcases Bool.or_eq_true_iff.mp hn with e | e
      · rw [beq_iff_eq.mp e] at q; simp at q
      · exact beq_iff_eq.mp e
    refine wpAny_bind ((looks_subIn X e).here ?_)
    simp only [Bool.false_eq_true, if_false]
    refine wpAny_bind (wpAny_mono one (fun r s' z => ?_) fun _ _ e => e)
    obtain ⟨v, rfl, hq⟩ := z
    exact wpAny_pure hq
  · refine wpAny_bind (wpAny_pure ?_)
    simp only [Bool.false_eq_true, if_false]
    refine wpAny_bind (wpAny_mono one (fun r s' z => ?_) fun _ _ e => e)
    obtain ⟨v, rfl, hq⟩ := z
    exact wpAny_pure hq
end
end PySem.W
namespace MC
open PySem PySem.Spec PyProof.Rows L2
section
variable {w : Wo} {EX : XC} {X : Cx} {k c : Nat} {m : MF} {ix : List Nat}
theorem o_neI (C : Cxt w (k + 1) X) (S : SpM X.prog X.w w X.mg X.base c "__eq__" k 2 m ix) (hci : ∀ A, w.cl c = some A → ClsI w.K A) (hne : ∀ A, w.cl c = some A → PySem.W.findIn w.K (.ref A) "__ne__" = some (some (.builtin "object.__ne__"))) : OpR X (compareOp .NotEq) (r2 w EX (opEqI c m ix true)) := by
  obtain ⟨A, f, fd, ps, hA, hs, hf, F, B⟩ := S.ex
  intro pins s σ H x y v u Q I rx ry ⟨M, rho, h, px, py, hr, vx, vy, o⟩
  unfold opEqI at o
  split at o
  · rename_i d fs q ef ek
    obtain ⟨hd, o2⟩ := Out.bif o
    rw [Bool.and_eq_true] at hd
    have hd1 := beq_iff_eq.mp hd.1
    subst hd1
    obtain ⟨a, D, dx, gs, rfl, q1, q2, q3⟩ := flds_ok hr vx ef
    rw [hA] at q1
    cases q1
    obtain rfl := (show _ = Value.ref a from rx)
    obtain ⟨mA, J, _⟩ := ins_get I.hok q2
    obtain ⟨od, J, _⟩ := J.look
    obtain ⟨m0, hF⟩ := I.fr
    obtain ⟨t, ht, hn⟩ := right_side C I hr vy ry hA (hci _ hA) ek hd.2
    refine PySem.W.ne_K (tb := t) C.room.in1.units0 hF I.ok.mod.kin J ht hn (by rw [C.hK]; exact hne _ hA) (by rw [C.hK]; exact (hci _ hA).hm) (by rw [C.hK]; exact hs) (by rw [C.hK]; exact hf) ?_
    refine wpAny_mono (call_in1 C F B (us := [.ref a, u]) (vs := [.ref a, y]) I (.cons rfl (.cons ry .nil)) rfl hr (.cons vx (.cons vy .nil)) (Out.bind o2)) (fun u1 s' q => ?_) fun _ _ z => z
    obtain ⟨z, h1, M1, rho1, H1, vz, I1, st, hr1, rz, ru, o1⟩ := q
    split at o1
    · rename_i b
      cases rz
      obtain rfl := (show u1 = Value.bool b from ru)
      exact ⟨b, rfl, .bl (!b), H1, I1, rfl, o1.now hr1 _ (.bl (!b))⟩
    · exact (show False from o1).elim
  · exact (show False from o).elim
end
end MC

end
section
set_option maxRecDepth 100000
set_option maxHeartbeats 4000000
namespace PySem.W
open PySem PySem.Calls PyProof.Rows Builtin Builtin.ObjectAttr Builtin.Getset_descriptor
section
variable {prog : Program} {w : World} {A : Around} {E : Value → Shared → Prop} {s : Shared} {K : Frag} {x C L f : Addr} {h₀ : Heap} {m : Str → Option Value} {ox : Obj} {od : Option Obj}
/-- an int that a len may give -/
def LenB (Q : Bool → Shared → Prop) (v : Value) (s' : Shared) : Prop := ∃ (n : Int) (t : Tok), v = .int n t ∧ 0 ≤ n ∧ n < 9223372036854775808 ∧ Q (n != 0) { s' with toks := s'.toks + 1 }
theorem truthy_len {Q : Bool → Shared → Prop} (F : Fr h₀ L s.heap m) (X₀ : K.In h₀) (I : InstAt s.heap x ox C od) (hb : findIn K (.ref C) "__bool__" = some none) (hs : findIn K (.ref C) "__len__" = some (some (.ref f))) (hf : isFn K (.ref f) = true)
    (h : wpAny (model prog w) A.in1 (call (.ref f) [.ref x]) (LenB Q) E s) : wpAny (model prog w) A (truthy (.ref x)) Q E s := by
  have X := X₀.keeps F.keep
  have key : wpAny (model prog w) A (runValue (.builtin "len" ⟨[.ref x], []⟩)) (fun r s' => ∃ (n : Int) (t : Tok), r = .int n t ∧ Q (n != 0) s') E s := by
    refine wpAny_runValue (codeAny_builtin entry_len ?_)
    rw [Around.under_plainId plain_len _]
    unfold Builtin.«len»
    refine wpAny_bind (m := oneArg "len" _) (wpAny_pure ?_)
    refine wpAny_bind (m := callSpecial? (.ref x) (Str.ofString "__len__")) (special_fn X I hs (beq_iff_eq.mp hf) (wpAny_mono h (fun r s' hr => ?_) fun _ _ y => y))
    obtain ⟨n, t, rfl, h0, h1, hq⟩ := hr
    refine wpAny_bind (wpAny_holding (wpAny_pure ?_))
    refine wpAny_bind (wpAny_letGo ?_)
    show wpAny _ _ (if n < 0 then _ else _) _ _ _
    rw [if_neg (by omega)]
    show wpAny _ _ (if n ≥ 2 ^ 63 then _ else _) _ _ _
    rw [if_neg (by omega)]
    refine wpAny_bind (wpAny_mkInt (wpAny_pure ?_))
    exact ⟨n, _, rfl, hq⟩
  unfold truthy
  refine wpAny_bind (m := callSpecial? (.ref x) (Str.ofString "__bool__")) (wpAny_bind (wpAny_bind (I.type.here ((looks_findIn X hb).here (wpAny_pure ?_)))))
  refine wpAny_bind (wpAny_bind (I.type.here ((looks_findIn X hs).here ?_)))
  show wpAny _ _ (if (some (Value.ref f)).isNone = true then _ else _) _ _ _
  rw [if_neg (by simp)]
  exact wpAny_bind (wpAny_mono key (fun r s' hr => by
    obtain ⟨n, t, rfl, hq⟩ := hr
    exact wpAny_pure hq) fun _ _ y => y)
theorem new_bool (v : Value) : MeetsIn prog w (Builtin.«bool.__new__» ⟨[.type "bool", v], []⟩) (fun A R s => wpAny (model prog w) A.in1 (truthy v) (fun b s1 => R (.ok (.ret (.bool b))) s1) (fun e s1 => R (.error e) s1) s) :=
  .of_wp fun A R s h => by
    obtain ⟨hp, g, d, tk, os⟩ := s
    have f1 := PySem.F.conv_sub_bool
    unfold Builtin.«bool.__new__»
    repeat (first
      | (refine wpAny_bind (m := truthy v) (wpAny_mono h (fun b s1 hR => ?_) fun _ _ z => z); exact wpAny_pure ⟨_, rfl, hR⟩)
      | assumption
      | wp_step)
theorem bool_own {v : Value} {Q : Value → Shared → Prop} (h : wpAny (model prog w) A.in1.in1 (truthy v) (fun b s1 => Q (.bool b) s1) E s) : wpAny (model prog w) A (call (.type "bool") [v]) Q E s := by
  refine callType_newIn PySem.F.called_bool PySem.F.newNe_bool (PySem.F.typeCall_bool_1 v) (PySem.F.newCall_bool_1 v) (fun obj => PySem.F.args_object_init_2 obj v) PySem.F.entry_bool_new (new_bool v) ?_
  refine wpAny_mono h (fun b s1 hq => ?_) fun _ _ z => z
  exact ⟨rfl, hq⟩
end
end PySem.W
namespace MC
open PySem PySem.Spec PyProof.Rows L2
def bBoolI (c : Nat) (m : MF) (ix : List Nat) : OC := fun h xs => match xs with
  | [x] => match fldsOf h x with
    | some (d, _) => bif d == c then (callG takeBack m (gI ix [x]) h).bind fun v h1 => match v with
      | .int n => bif decide (0 ≤ n) && decide (n < 9223372036854775808) then .ok (.bl (n != 0)) h1 else .stuck
      | _ => .stuck else .stuck
    | none => .stuck
  | _ => .stuck
section
variable {w : Wo} {EX : XC} {X : Cx} {k c : Nat} {m : MF} {ix : List Nat} {M : Addr → Prop} {rho : List Addr} {H : Hp} {h : PH}
/-- a def called from within, in a room of its own -/
theorem call_inA {n : Nat} {f : Addr} {fd : FuncData} {ps : List Str} {pins : List (Addr × Obj)} {σ : L2.St} {s : Shared} {A : Around} (hK : X.K = w.K) (room : Room k A) (grd : A.guards = some []) (e0 : Env0 X.prog X.w X.K X.mg X.base A X.stack s H) (F : FnM X.prog X.w w X.mg X.base CX0 exF k f fd ps m) (B : Bd w.K fd ps [] n [] ix) {xs : List PV} {vs : List V} {us : List Value} {kk : KC PV} {E : Value → Shared → Prop} (I : Inv X pins σ H s) (r : Vals vs us) (lu : us.length = n)
    (hr : HR w M rho H h) (rx : VRs w M rho H xs vs) {EX : XC} (o : Out w EX M rho H (callG takeBack m (gI ix xs) h) kk) :
    wpAny (model X.prog X.w) A (call (.ref f) us) (fun u s' => ∃ x h1 M1 rho1 H1 v, Inv X pins σ H1 s' ∧ Step M rho H M1 rho1 H1 ∧ HR w M1 rho1 H1 h1 ∧ VR w M1 rho1 H1 x v ∧ RelV v u ∧ kk x h1 M1 rho1 H1) E s := by
  rw [hK] at e0
  have bt := B.to s us [] (by rw [← hK]; exact I.kIn) lu rfl
  have hlen : (gI ix us).length = ps.length := by
    rw [gI_len, B.len]
    intro i hi
    have := B.lo i hi
    simpa [lu] using this
  rw [List.append_nil, List.append_nil] at bt
  obtain ⟨rho', as, hc, r3, hr3, o3⟩ := callG_ok (EX2 := EXF) tb_ok hr (rx.gI ix) o
  have r2 := gI_vals r ix
  refine wpAny_call (codeAny_mono (F.run A X.stack s H ⟨us, []⟩ (gI ix us) (gI ix vs) (fun v H1 => ∃ x h1 M1 rho1, Step M rho H M1 rho1 H1 ∧ HR w M1 rho1 H1 h1 ∧ VR w M1 rho1 H1 x v ∧ kk x h1 M1 rho1 H1) (fun _ _ _ => False) room grd e0 bt r2 (by rw [r2.length]; exact hlen)
    ⟨M, rho', as, hc, r3, hr3, o3.imp fun v g M1 rho1 H1 st1 hr1 q V rv => ?_⟩) fun rs s' q => ?_)
  · obtain ⟨M2, rho2, u, h2, st2, hr2, ru, kq⟩ := q V rv
    exact ⟨u, h2, M2, rho2, st2, hr2, ru, kq⟩
  · cases rs with
    | error e => exact (show False from q).elim
    | ok fl =>
      cases fl with
      | ret u =>
        obtain ⟨v, H1, I1, ru, x, h1, M1, rho1, a1, a2, a3, a4⟩ := I.after q
        exact ⟨x, h1, M1, rho1, H1, v, I1, a1, a2, a3, ru, a4⟩
      | next => exact (show False from q).elim
      | brk => exact (show False from q).elim
      | cont => exact (show False from q).elim
theorem b_boolI (C : Cxt w (k + 3) X) (S : SpM X.prog X.w w X.mg X.base c "__len__" k 1 m ix) (hnb : ∀ A, w.cl c = some A → PySem.W.findIn w.K (.ref A) "__bool__" = some none) : CallR X (.type "bool") (rA w EX (bBoolI c m ix)) := by
  obtain ⟨A, f, fd, ps, hA, hs, hf, F, B⟩ := S.ex
  intro pins s σ H vs us Q I r hh
  obtain ⟨M, rho, h, px, hr, rs, o⟩ := hh
  unfold bBoolI at o
  split at o
  · rename_i x
    obtain ⟨v, rfl, rv⟩ := vrs1 rs
    split at o
    · rename_i d fs ef
      obtain ⟨hd, o2⟩ := Out.bif o
      have hd := beq_iff_eq.mp hd
      subst hd
      obtain ⟨a, D, dx, gs, rfl, q1, q2, q3⟩ := flds_ok hr rv ef
      rw [hA] at q1
      cases q1
      cases r with
      | cons ra rb =>
        cases rb
        obtain rfl := (show _ = Value.ref a from ra)
        obtain ⟨mA, J, _⟩ := ins_get I.hok q2
        obtain ⟨od, J, _⟩ := J.look
        obtain ⟨m0, hF⟩ := I.fr
        refine PySem.W.bool_own (PySem.W.truthy_len hF I.ok.mod.kin J (by rw [C.hK]; exact hnb _ hA) (by rw [C.hK]; exact hs) (by rw [C.hK]; exact hf) (wpAny_mono (call_inA C.hK C.room.in1.in1.in1 C.grd I.env0.in1.in1.in1 F B (us := [.ref a]) (vs := [.ref a]) I (.cons rfl .nil) rfl hr (.cons rv .nil) (Out.bind o2)) (fun u s' q => ?_) fun _ _ z => z))
        obtain ⟨y, h1, M1, rho1, H1, vy, I1, st, hr1, ry, ru, o1⟩ := q
        split at o1
        · rename_i n
          obtain ⟨hb, o1⟩ := Out.bif o1
          rw [Bool.and_eq_true] at hb
          cases ry
          obtain ⟨t, rfl⟩ := (show ∃ t, u = Value.int n t from ru)
          exact ⟨n, t, rfl, of_decide_eq_true hb.1, of_decide_eq_true hb.2, .bl (n != 0), H1, I1.tok _, rfl, o1.now hr1 _ (.bl (n != 0))⟩
        · exact (show False from o1).elim
    · exact (show False from o).elim
  · exact (show False from o).elim
end
end MC

end
section
set_option maxRecDepth 100000
set_option maxHeartbeats 4000000
namespace MC
open PySem PySem.Spec PyProof.Rows L2

def eqK (a b : PV) : Bool := match nkP a, nkP b with
  | some x, some y => decide (x = y)
  | _, _ => false
def lookT (x : PV) : List (PV × PV) → Option PV
  | [] => none
  | (k, v) :: r => bif eqK k x then some v else lookT x r
/-- a key that is a tuple, not too deep -/
def isKeyT : PV → Bool
  | .tup xs => match nkPs xs with
    | some ks => decide ((NestedKey.tup ks).depth ≤ 8)
    | none => false
  | _ => false
def putT (k x : PV) (kvs : List (PV × PV)) : List (PV × PV) := bif (lookT k kvs).isSome then kvs.map (fun p => bif eqK p.1 k then (p.1, x) else p) else kvs ++ [(k, x)]
section
variable {w : Wo} {EX : XC} {X : Cx} {k : Nat} {M : Addr → Prop} {rho : List Addr} {H : Hp} {h : PH} {pins : List (Addr × Obj)} {σ : L2.St} {s : Shared}
mutual
theorem VR.nested (I : Inv X pins σ H s) (hK : X.K = w.K) : ∀ {x : PV} {v : V} {nk : NestedKey} {u : Value}, VR w M rho H x v → nkP x = some nk → RelV v u → NestedIs s.heap nk u
  | _, _, _, _, .non, e, r => by cases e; cases r; exact .none
  | _, _, _, _, .bl b, e, r => by cases e; cases r; exact .bool rfl
  | _, _, _, _, .int i, e, r => by cases e; obtain ⟨t, rfl⟩ := r; exact .int _ _
  | _, _, _, _, .str i, e, r => by cases e; obtain ⟨t, rfl⟩ := r; exact .text _ _
  | _, _, _, _, .tup (xs := xs) q s, e, r => by
    cases r
    unfold nkP at e
    cases e1 : nkPs xs with
    | none => rw [e1] at e; cases e
    | some ks =>
      rw [e1] at e; cases e
      rw [← hK] at q
      obtain ⟨its, rv, p, hz⟩ := I.tuple q
      obtain ⟨o, h1, h2, n, h3⟩ := p
      exact .tup h1 h2 h3 (by simpa using VRs.nested I hK s e1 rv)
  | _, _, _, _, .scr _ _, e, r => by cases e
  | _, _, _, _, .rdic _ _ _, e, r => by cases e
  | _, _, _, _, .ins _ _ _ _, e, r => by cases e
  | _, _, _, _, .ref _, e, r => by cases e
  | _, _, _, _, .gl _, e, r => by cases e
theorem VRs.nested (I : Inv X pins σ H s) (hK : X.K = w.K) : ∀ {x : List PV} {v : List V} {nk : List NestedKey} {u : List Value}, VRs w M rho H x v → nkPs x = some nk → Vals v u → NestedAll s.heap nk u
  | _, _, _, _, .nil, e, r => by cases e; cases r; exact .nil
  | _, _, _, _, .cons (x := x) (xs := xs) a b, e, r => by
    unfold nkPs at e
    cases e1 : nkP x with
    | none => rw [e1] at e; cases e
    | some y =>
      cases e2 : nkPs xs with
      | none => rw [e1, e2] at e; cases e
      | some ys =>
        rw [e1, e2] at e; cases e
        cases r with
        | cons r1 r2 => exact .cons (VR.nested I hK a e1 r1) (VRs.nested I hK b e2 r2)
end
theorem isKeyT_ok {x : PV} {v : V} (hx : isKeyT x = true) (r : VR w M rho H x v) : ∃ nk a, nkP x = some nk ∧ nk.depth ≤ 8 ∧ v = .ref a := by
  cases r <;> try (exact (Bool.false_ne_true hx).elim)
  rename_i xs vs a q rs
  cases e : nkPs xs with
  | none => simp [isKeyT, e] at hx
  | some ks =>
    simp only [isKeyT, e] at hx
    exact ⟨_, a, by simp only [nkP, e], of_decide_eq_true hx, rfl⟩
theorem lookT_ok {x : PV} {nk : NestedKey} (hx : nkP x = some nk) : ∀ {kvs : List (PV × PV)} {xs : List (NestedKey × Addr × Value)}, TRs w M rho H kvs xs →
    (lookT x kvs = none ∧ atKey xs nk = none) ∨ ∃ y p v, lookT x kvs = some y ∧ atKey xs nk = some p ∧ RelV v p.2 ∧ VR w M rho H y v
  | _, _, .nil => .inl ⟨rfl, rfl⟩
  | _, _, .cons (k := kk) (x := y) (nk := nk') (a := a) (u := u) (v := v) (fs := fs) (gs := gs) h1 h2 h3 h4 h5 h6 => by
    have e : eqK kk x = decide (nk' = nk) := by unfold eqK; rw [h1, hx]
    unfold lookT
    by_cases q : nk' = nk
    · rw [e, decide_eq_true q, cond_true]
      exact .inr ⟨y, (a, u), v, rfl, by simp [atKey, q], h5, h4⟩
    · rw [e, decide_eq_false q, cond_false]
      rcases lookT_ok hx h6 with ⟨z1, z2⟩ | ⟨y', p, v', z1, z2, z3⟩
      · exact .inl ⟨z1, by simpa [atKey, q] using z2⟩
      · exact .inr ⟨y', p, v', z1, by simpa [atKey, q] using z2, z3⟩
theorem TRs.app : ∀ {as bs : List (PV × PV)} {cs ds : List (NestedKey × Addr × Value)}, TRs w M rho H as cs → TRs w M rho H bs ds → TRs w M rho H (as ++ bs) (cs ++ ds)
  | _, _, _, _, .nil, s => s
  | _, _, _, _, .cons a b c d e t, s => .cons a b c d e (TRs.app t s)
theorem TRs.put {q x : PV} {nk : NestedKey} {a : Addr} {u : Value} {v : V} {kvs : List (PV × PV)} {xs : List (NestedKey × Addr × Value)} (hq : nkP q = some nk) (hd : nk.depth ≤ 8) (rq : VR w M rho H q (.ref a)) (rx : VR w M rho H x v) (ru : RelV v u) (r : TRs w M rho H kvs xs) :
    TRs w M rho H (putT q x kvs) (storedH xs nk a u) := by
  have rep : ∀ {kvs : List (PV × PV)} {xs : List (NestedKey × Addr × Value)}, TRs w M rho H kvs xs → TRs w M rho H (kvs.map fun p => bif eqK p.1 q then (p.1, x) else p) (xs.map (putAt nk u)) := by
    intro kvs xs r
    induction r with
    | nil => exact .nil
    | @cons kk y nk' a' u' v' fs gs h1 h2 h3 h4 h5 h6 ih =>
      rw [List.map_cons, List.map_cons]
      have e : eqK kk q = decide (nk' = nk) := by unfold eqK; rw [h1, hq]
      unfold putAt
      by_cases z : nk' = nk
      · simp only [e, z, decide_true, cond_true, if_true]
        exact .cons (by rw [← z]; exact h1) hd h3 rx ru ih
      · simp only [e, z, decide_false, cond_false, if_false]
        exact .cons h1 h2 h3 h4 h5 ih
  unfold putT storedH
  rcases lookT_ok hq r with ⟨z1, z2⟩ | ⟨y, p, v', z1, z2, _⟩
  · rw [z1, z2]
    exact r.app (.cons hq hd rq rx ru .nil)
  · rw [z1, z2]
    exact rep r
/-- the dict's entries, as the library tells them -/
theorem tdo_keyed {a : Addr} {xs : List (NestedKey × Addr × Value)} {kvs : List (PV × PV)} (I : Inv X pins σ H s) (C : Cxt w k X) (rd : Rd H a (TDO w.W a xs)) (nd : (xs.map (·.1)).Nodup) (r : TRs w M rho H kvs xs) :
    s.heap.DictOfH (nestedKind X.prog X.w) a xs := by
  have ks : ∀ x ∈ xs, (nestedKind X.prog X.w).is s.heap x.1 x.2.1 := by
    clear nd rd
    induction r with
    | nil => intro x hx; cases hx
    | @cons kk y nk' a' u' v' fs gs q1 q2 q3 q4 q5 q6 ih =>
      intro x hx
      rcases List.mem_cons.mp hx with e | hx
      · subst e
        exact ⟨q3.nested I C.hK q1 rfl, q2⟩
      · exact ih x hx
  obtain ⟨⟨o, es, ep, h1, h2, h3, h4⟩, _⟩ := rd.ok I.hok
  refine ⟨o, es, ep, h1, h2, h3, ?_, ks, nd⟩
  rw [h4, C.hW]
  rfl
theorem dk_nil {a : Addr} (I : Inv X pins σ H s) (e : Rd H a (.dK [])) : (a == sysModules) = false ∧ s.heap.DictOfH (nestedKind X.prog X.w) a [] := by
  obtain ⟨_, hd, vs, kv, o, es, ep, h1, h2, h3, h4, h5, h6⟩ := dk_rd I.hok e
  refine ⟨hd, o, es, ep, h1, h2, h3, ?_, (fun x hx => nomatch hx), List.nodup_nil⟩
  cases kv
  have := h5.length
  simpa using this
/-- a dict of tuple keys, an empty one of any kind -/
def ditP (h : PH) (n : Nat) : Option (List (PV × PV)) := match h[n]? with
  | some (.dit _ kvs) => some kvs
  | some (.dic _ []) => some []
  | _ => none
theorem ditP_ok (I : Inv X pins σ H s) (C : Cxt w k X) (hr : HR w M rho H h) {n : Nat} {a : Addr} {kvs : List (PV × PV)} (ha : rho[n]? = some a) (e : ditP h n = some kvs) :
    ∃ xs, (a == sysModules) = false ∧ xs.length ≤ sizeLine ∧ TRs w M rho H kvs xs ∧ s.heap.DictOfH (nestedKind X.prog X.w) a xs := by
  unfold ditP at e
  split at e
  · rename_i lk ks e0
    cases e
    obtain ⟨b, hb, xs, h1, h2, h3, h4, h5⟩ := hr.ob _ _ e0
    rw [ha] at hb; cases hb
    refine ⟨xs, h2, h3, h5, tdo_keyed I C ?_ h4 h5⟩
    cases lk with
    | false => exact .inl h1
    | true => exact .inr h1
  · rename_i lk e0
    cases e
    obtain ⟨b, hb, ks, h1, sa⟩ := hr.ob _ _ e0
    rw [ha] at hb; cases hb
    cases sa
    obtain ⟨z1, z2⟩ := dk_nil I (a := a) (by
      cases lk with
      | false => exact .inl h1
      | true => exact .inr h1)
    exact ⟨[], z1, Nat.zero_le _, .nil, z2⟩
  · cases e
theorem nk_room (C : Cxt w k X) : (nestedKind X.prog X.w).room X.A.in1 := by
  have hu := C.units
  show X.A.units + 1 + 8 < cLine
  omega
end

def opInT (neg : Bool) : O2 := fun h x y => match y with
  | .ref n => bif isKeyT x then (match ditP h n with
    | some kvs => .ok (.bl (negB neg (lookT x kvs).isSome)) h
    | none => opIn neg h x y) else opIn neg h x y
  | _ => opIn neg h x y
section
variable {w : Wo} {EX : XC} {X : Cx} {k : Nat} {M : Addr → Prop} {rho : List Addr} {H : Hp} {h : PH} {pins : List (Addr × Obj)} {σ : L2.St} {s : Shared}
theorem opInT_or {neg : Bool} {px py : PV} {y : V} (hr : HR w M rho H h) (vy : VR w M rho H py y) {kk : KC PV} (o : Out w EX M rho H (opInT neg h px py) kk) :
    (∃ n a kvs, py = .ref n ∧ y = .ref a ∧ rho[n]? = some a ∧ isKeyT px = true ∧ ditP h n = some kvs ∧ Out w EX M rho H (.ok (.bl (negB neg (lookT px kvs).isSome)) h) kk) ∨ Out w EX M rho H (opIn neg h px py) kk := by
  unfold opInT at o
  split at o
  · rename_i n
    cases hk : isKeyT px with
    | false => rw [hk] at o; exact .inr o
    | true =>
      rw [hk, cond_true] at o
      split at o
      · rename_i kvs e
        cases vy with
        | ref ha => exact .inl ⟨n, _, kvs, rfl, rfl, ha, rfl, e, o⟩
      · exact .inr o
  · exact .inr o
theorem o_inT (C : Cxt w k X) : OpR X (compareOp .In) (r2 w EX (opInT false)) := by
  intro pins s σ H x y v u Q I rx ry ⟨M, rho, h, px, py, hr, vx, vy, o⟩
  rcases opInT_or hr vy o with ⟨n, a, kvs, rfl, rfl, ha, hk, e, o⟩ | o
  · obtain ⟨nk, b, z1, z2, rfl⟩ := isKeyT_ok hk vx
    obtain ⟨xs, y1, y2, y3, y4⟩ := ditP_ok I C hr ha e
    cases rx; cases ry
    refine wpAny_in_heap (nk_room C) ⟨vx.nested I C.hK z1 rfl, z2⟩ y1 y4 ⟨.bl _, H, I.tok _, rfl, ?_⟩
    rcases lookT_ok z1 y3 with ⟨e1, e2⟩ | ⟨y, p, v, e1, e2, _⟩
    · rw [e1] at o; rw [e2]; exact o.now hr _ (.bl _)
    · rw [e1] at o; rw [e2]; exact o.now hr _ (.bl _)
  · exact o_in C pins s σ H x y v u Q I rx ry ⟨M, rho, h, px, py, hr, vx, vy, o⟩
theorem o_notinT (C : Cxt w k X) : OpR X (compareOp .NotIn) (r2 w EX (opInT true)) := by
  intro pins s σ H x y v u Q I rx ry ⟨M, rho, h, px, py, hr, vx, vy, o⟩
  rcases opInT_or hr vy o with ⟨n, a, kvs, rfl, rfl, ha, hk, e, o⟩ | o
  · obtain ⟨nk, b, z1, z2, rfl⟩ := isKeyT_ok hk vx
    obtain ⟨xs, y1, y2, y3, y4⟩ := ditP_ok I C hr ha e
    cases rx; cases ry
    refine wpAny_notIn_heap (nk_room C) ⟨vx.nested I C.hK z1 rfl, z2⟩ y1 y4 ⟨.bl _, H, I.tok _, rfl, ?_⟩
    rcases lookT_ok z1 y3 with ⟨e1, e2⟩ | ⟨y, p, v, e1, e2, _⟩
    · rw [e1] at o; rw [e2]; exact o.now hr _ (.bl _)
    · rw [e1] at o; rw [e2]; exact o.now hr _ (.bl _)
  · exact o_notin C pins s σ H x y v u Q I rx ry ⟨M, rho, h, px, py, hr, vx, vy, o⟩

def opIxT : O2 := fun h x y => match x with
  | .ref n => bif isKeyT y then (match ditP h n with
    | some kvs => match lookT y kvs with
      | some v => .ok v h
      | none => .stuck
    | none => .stuck) else opIx h x y
  | _ => opIx h x y
theorem o_ixT (C : Cxt w k X) : IxR X (r2 w EX opIxT) := by
  intro value slice pins s σ H x y v u Q I rx ry ⟨M, rho, h, px, py, hr, vx, vy, o⟩ hs
  unfold opIxT at o
  split at o
  · rename_i n
    cases hk : isKeyT py with
    | false => rw [hk, cond_false] at o; exact o_ix C value slice pins s σ H x y v u Q I rx ry ⟨M, rho, h, _, py, hr, vx, vy, o⟩ hs
    | true =>
      rw [hk, cond_true] at o
      split at o
      · rename_i kvs e
        cases vx with
        | ref ha =>
          obtain ⟨nk, b, z1, z2, rfl⟩ := isKeyT_ok hk vy
          obtain ⟨xs, y1, y2, y3, y4⟩ := ditP_ok I C hr ha e
          cases rx; cases ry
          rcases lookT_ok z1 y3 with ⟨e1, e2⟩ | ⟨z, p, v, e1, e2, e3, e4⟩
          · rw [e1] at o; exact (show False from o).elim
          · rw [e1] at o
            refine tail_any (T := "dict") y4.typeIs PySem.F.slot_dict_getitem.lookup (wpAny_getItem_heap (nk_room C) ⟨vy.nested I C.hK z1 rfl, z2⟩ y4 e2 ⟨v, H, I.tok _, e3, ?_⟩) hs
            exact (show Out w EX M rho H (.ok z h) (KV w Q) from o).now hr _ e4
      · exact (show False from o).elim
  · exact o_ix C value slice pins s σ H x y v u Q I rx ry ⟨M, rho, h, px, py, hr, vx, vy, o⟩ hs
theorem me_ixT (C : Cxt w k X) {a b : Expr} {ma mb : ME} {pos : Pos} (ha : PE X a (tM w EX ma)) (hb : PE X b (tM w EX mb)) (hs : PlainIx b := by exact fun _ _ => rfl) : PE X (.Subscript a b pos) (tM w EX (mOp opIxT ma mb)) :=
  PE.imp (pe_ix (o_ixT C) ha hb hs) fun _ _ _ h => tM_op h

def oSetIxT : O3 := fun h o i v => match o with
  | .ref n => bif isKeyT i then (match h[n]? with
    | some (.dit false kvs) => bif decide (kvs.length < LIM) then .ok () (h.set n (.dit false (putT i v kvs))) else .stuck
    | some (.dic false []) => .ok () (h.set n (.dit false [(i, v)]))
    | _ => .stuck) else oSetIxD h o i v
  | _ => oSetIxD h o i v
theorem tdo_ok {P : Program} {a : Addr} {xs : List (NestedKey × Addr × Value)} {H : Hp} {h : Heap} (hW : X.w = w.W) (d : h.DictOfH (nestedKind X.prog X.w) a xs) : ObjOk P X.w H h a (TDO w.W a xs) := by
  obtain ⟨o, es, ep, h1, h2, h3, h4, _⟩ := d
  refine ⟨⟨o, es, ep, h1, h2, h3, ?_⟩, ⟨o, h1⟩, ?_⟩
  · rw [h4, hW]; rfl
  · rintro g1 g2 ⟨o, es, ep, q1, q2, q3, q4⟩ k
    exact ⟨o, es, ep, k o q1, q2, q3, q4⟩
theorem p_setIxT (C : Cxt w k X) : PSet X (r3 w EX oSetIxT) := by
  intro pins s σ H o j v ov iv u Q I ro ri rv ⟨M, rho, h, po, pi, pv, hr, so, si, sv, oo⟩
  unfold oSetIxT at oo
  split at oo
  · rename_i n
    cases hk : isKeyT pi with
    | false => rw [hk, cond_false] at oo; exact p_setIxD C pins s σ H o j v ov iv u Q I ro ri rv ⟨M, rho, h, _, pi, pv, hr, so, si, sv, oo⟩
    | true =>
      rw [hk, cond_true] at oo
      obtain ⟨nk, b, z1, z2, rfl⟩ := isKeyT_ok hk si
      cases so with
      | @ref _ a ha =>
        cases ri; cases ro
        have go : ∀ (kvs : List (PV × PV)) (xs : List (NestedKey × Addr × Value)), TRs w M rho H kvs xs → s.heap.DictOfH (nestedKind X.prog X.w) a xs → (a == sysModules) = false → xs.length < sizeLine → Mut (H a) → (∀ p u, H a ≠ some (.frz p u)) →
            (∀ (H' : Hp), H' = upd H a (TDO w.W a (storedH xs nk b u)) → Step M rho H M rho H' → HR w M rho H' (h.set n (.dit false (putT pi pv kvs))) → Q H') →
            wpAny (model X.prog X.w) X.A (setItem (.ref a) (.ref b) u) (fun _ s' => ∃ H', Inv X pins σ H' s' ∧ Q H') X.xe s := by
          intro kvs xs y3 y4 y1 yl mu nf q
          refine wpAny_setItem_heap (hsz := Nat.le_of_lt yl) (nk_room C) ⟨si.nested I C.hK z1 rfl, z2⟩ y4 fun h' y4' sb => ?_
          have hex : ∃ q, h'.get? a = some q := by obtain ⟨q, _, _, hq, _⟩ := id y4'; exact ⟨q, hq⟩
          have I' := d_write (t' := s.toks + (nestedKind X.prog X.w).draws nk) I mu sb hex (tdo_ok (w := w) C.hW y4')
          have st := Step.write hr (o := TDO w.W a (storedH xs nk b u)) ha nf
          refine ⟨_, I', q _ rfl st (hr.write ha nf ⟨_, upd_same, y1, ?_, ?_, (y3.put z1 z2 si sv rv).step st hr⟩)⟩
          · have : (storedH xs nk b u).length ≤ xs.length + 1 := by
              unfold storedH
              split
              · rw [List.length_map]; omega
              · rw [List.length_append, List.length_singleton]; omega
            omega
          · obtain ⟨_, _, _, _, _, _, _, _, z⟩ := y4'; exact z
        split at oo
        · rename_i kvs e0
          obtain ⟨hc, oo⟩ := Out.bif oo
          obtain ⟨b', hb', xs, h1, h2, h3, h4, h5⟩ := hr.ob _ _ e0
          rw [ha] at hb'; cases hb'
          have h1' : H a = some (TDO w.W a xs) := h1
          refine go kvs xs h5 (tdo_keyed I C (.inl h1') h4 h5) h2 (by rw [h5.length, lim_eq]; exact of_decide_eq_true hc) (by rw [h1']; exact True.intro) (fun p u z => by rw [h1'] at z; cases z) fun H' eH st hr' => ?_
          exact oo _ _ _ st hr'
        · rename_i e0
          obtain ⟨b', hb', ks, h1, sa⟩ := hr.ob _ _ e0
          rw [ha] at hb'; cases hb'
          cases sa
          have h1' : H a = some (.dK []) := h1
          obtain ⟨q1, q2⟩ := dk_nil I (.inl h1')
          refine go [] [] .nil q2 q1 (by show 0 < sizeLine; decide) (by rw [h1']; exact True.intro) (fun p u z => by rw [h1'] at z; cases z) fun H' eH st hr' => ?_
          exact oo _ _ _ st hr'
        · exact (show False from oo).elim
  · exact p_setIxD C pins s σ H o j v ov iv u Q I ro ri rv ⟨M, rho, h, po, pi, pv, hr, so, si, sv, oo⟩
end
end MC

end
section
set_option maxRecDepth 100000
set_option maxHeartbeats 4000000
namespace MC
open PySem PySem.Spec PyProof.Rows L2

def mDictT (mk mv : ME) : ME := fun env h => (mk env (h ++ [.dic false []])).bind fun k h1 => (mv env h1).bind fun v h2 => match h2[h.length]? with
  | some (.dic false []) => bif isKeyT k then .ok (.ref h.length) (h2.set h.length (.dit false [(k, v)])) else .stuck
  | _ => .stuck
section
variable {w : Wo} {EX : XC} {X : Cx} {k : Nat} {M : Addr → Prop} {rho : List Addr} {H : Hp} {h : PH} {pins : List (Addr × Obj)} {σ : L2.St} {s : Shared}
theorem nk_room0 (C : Cxt w k X) : (nestedKind X.prog X.w).room X.A := by
  have hu := C.units
  show X.A.units + 8 < cLine
  omega
theorem me_dictT (C : Cxt w k X) {pos : Pos} {kx vx : Expr} {mk mv : ME} (hk : PE X kx (tM w EX mk)) (hv : PE X vx (tM w EX mv)) : PE X (.Dict [some kx] [vx] pos) (tM w EX (mDictT mk mv)) := by
  refine ⟨fun pins s σ H Q I q => ?_⟩
  obtain ⟨M, rho, env, h, er, hr, o⟩ := q
  have hn := I.hok.fresh (Nat.le_refl s.heap.objs.size)
  have I1 := I.laid (a := s.heap.objs.size) (o := .dK []) (h' := s.heap.push { cls := .type "dict", data := .dict #[] }) (t' := s.toks) (fun _ _ q => Heap.get?_push_of_some _ q) (Nat.le_refl _) (dk_empty s.heap I.big)
  have st := Step.alloc (M := M) (rho := rho) (o := .dK []) hn
  have hr1 := hr.alloc hn (po := .dic false []) ⟨[], upd_same, .nil⟩
  have hi : (rho ++ [s.heap.objs.size])[h.length]? = some s.heap.objs.size := by
    rw [List.getElem?_append_right (by rw [hr.len]; exact Nat.le_refl _), hr.len, Nat.sub_self]; rfl
  have hn2 := pairTrees_length [some kx] [vx] X.env pos rfl rfl
  rw [arm_eval_Dict, zip_pairTrees [some kx] [vx] X.env pos rfl rfl, dictDisplay_pairs _ (by intro e; rw [e] at hn2; simp at hn2) (by rw [hn2]; simp)]
  refine wpAny_bind (wpAny_standAt (wpAny_bind (wpAny_subDictH (knd := nestedKind X.prog X.w) (Q := fun d s' => wpAny (model X.prog X.w) X.A (pure (Value.ref d)) (EP X pins σ Q) X.xe s') (nk_room0 C) (by rw [hn2]; simp) ?_)))
  refine thn ((pps_cons hk hv pps_nil).run pins _ σ _ (fun ps H2 => ∃ kb v, ps = [(V.ref kb, v)] ∧ ∃ (nk : NestedKey) (kp vp : PV) (M2 : Addr → Prop) (rho2 : List Addr) (h2 : PH), nkP kp = some nk ∧ nk.depth ≤ 8 ∧ HR w M2 rho2 H2 h2 ∧ VR w M2 rho2 H2 kp (.ref kb) ∧ VR w M2 rho2 H2 vp v ∧ rho2[h.length]? = some s.heap.objs.size ∧ h2[h.length]? = some (.dic false []) ∧ Out w EX M2 rho2 H2 (.ok (.ref h.length) (h2.set h.length (.dit false [(kp, vp)]))) (KV w Q)) I1 ?_) fun vs s2 ⟨ps, H2, I2, rel, kb, v, eps, nk, kp, vp, M2, rho2, h2, z1, z2, hr2, rk, rv, ha, e0, o2⟩ => ?_
  · refine tM.of (er.step st hr) hr1 (Out.bind (o.step st)) fun kp h3 M3 rho3 H3 kv st3 er3 hr3 o3 rk => ?_
    refine tM.of er3 hr3 (Out.bind o3) fun vp h4 M4 rho4 H4 vv st4 er4 hr4 o4 rv => ?_
    split at o4
    · rename_i e0
      obtain ⟨hc, o4⟩ := Out.bif o4
      obtain ⟨nk, a, z1, z2, rfl⟩ := isKeyT_ok hc rk
      exact ⟨a, vv, rfl, nk, kp, vp, M4, rho4, h4, z1, z2, hr4, rk.step st4 hr3, rv, st4.ext _ _ (st3.ext _ _ hi), e0, o4⟩
    · exact (show False from o4).elim
  · subst eps
    cases rel with
    | @cons p q ps qs hpq t =>
      cases t
      obtain ⟨r1, r2⟩ := hpq
      obtain ⟨q1, q2⟩ := q
      cases (show q1 = Value.ref kb from r1)
      obtain ⟨b', hb', ks, h1, sa⟩ := hr2.ob _ _ e0
      rw [ha] at hb'; cases hb'
      cases sa
      have h1' : H2 s.heap.objs.size = some (.dK []) := h1
      obtain ⟨y1, y2⟩ := dk_nil I2 (.inl h1')
      refine ⟨[(nk, kb, q2)], ⟨rfl, rfl, ⟨rk.nested I2 C.hK z1 rfl, z2⟩, trivial⟩, y2, fun h' tk y4' sb => ?_⟩
      have hex : ∃ q, h'.get? s.heap.objs.size = some q := by obtain ⟨q, _, _, hq, _⟩ := id y4'; exact ⟨q, hq⟩
      have nf : ∀ p u, H2 s.heap.objs.size ≠ some (.frz p u) := fun p u z => by rw [h1'] at z; cases z
      have I' := d_write (t' := tk) I2 (by rw [h1']; exact True.intro) sb hex (tdo_ok (w := w) C.hW y4')
      have st2 := Step.write hr2 (o := TDO w.W s.heap.objs.size (storedAllH [] [(nk, kb, q2)])) ha nf
      refine wpAny_pure ⟨.ref s.heap.objs.size, _, I', rfl, ?_⟩
      refine o2 _ _ _ st2 (hr2.write ha nf ⟨_, upd_same, y1, by show 1 ≤ sizeLine; decide, by obtain ⟨_, _, _, _, _, _, _, _, z⟩ := y4'; exact z, ?_⟩) _ (.ref (st2.ext _ _ ha))
      exact (TRs.cons z1 z2 rk rv r2 .nil).step st2 hr2
end

section
variable {P : Program} {w : World} {K : PySem.W.Frag} {tg : Expr} {d : Addr} {o : Obj} {es : Array DictEntry} {ep : Nat} {X : Cx} {pins : List (Addr × Obj)} {σ : L2.St} {H : Hp} {s : Shared}
/-- the keys of the locked dict at d -/
def Itkn (W : World) (d : Addr) (o : Obj) (xs : List (NestedKey × Addr × Value)) : It :=
  ⟨fun i H => H d = some (.frz o (TDO W d xs)) ∧ i < xs.length, fun i H x H' => H' = H ∧ ∃ q, xs[i]? = some q ∧ x = .ref q.2.1, fun i H => H d = some (.frz o (TDO W d xs)) ∧ xs.length ≤ i⟩
/-- the pairs, each a new tuple -/
def Itin (W : World) (d : Addr) (o : Obj) (xs : List (NestedKey × Addr × Value)) (vs : List V) : It :=
  ⟨fun i H => H d = some (.frz o (TDO W d xs)) ∧ i < xs.length, fun i H x H' => ∃ T q v, xs[i]? = some q ∧ vs[i]? = some v ∧ x = .ref T ∧ H T = none ∧ H' = upd H T (.tup [.ref q.2.1, v]), fun i H => H d = some (.frz o (TDO W d xs)) ∧ xs.length ≤ i⟩
theorem frzN {W : World} {xs : List (NestedKey × Addr × Value)} (I : Inv X pins σ H s) (h : H d = some (.frz o (TDO W d xs))) :
    s.heap.get? d = some o ∧ o.ExactDict ∧ ∃ (es : Array DictEntry) (ep : Nat), o.data = .dict es ep ∧ es.size = xs.length ∧ ∀ (i : Nat) q, xs[i]? = some q → ∃ en : DictEntry, es[i]? = some en ∧ en.key = .ref q.2.1 ∧ en.val = q.2.2 := by
  obtain ⟨hd, ⟨o', es, ep, h1, h2, h3, h4⟩, _⟩ := I.hok d _ h
  rw [hd] at h1
  cases h1
  refine ⟨hd, h2, es, ep, h3, by have := congrArg List.length h4; simpa using this, fun i q e => ?_⟩
  have : es.toList[i]? = some ⟨q.1.hash W, .ref q.2.1, q.2.2⟩ := by rw [h4, List.getElem?_map, e]; rfl
  exact ⟨_, by simpa using this, rfl, rfl⟩
theorem turn_keysN {W : World} {xs : List (NestedKey × Addr × Value)} (it : Addr) (hod : o.data = .dict es ep) : Turn P w K tg (Itkn W d o xs) [it] it (fun i h => h.IsKeyIter it d i xs.length ep) where
  mem := by simp
  obj := fun i h st b hb => by
    have e : b = it := by simpa using hb
    subst e
    obtain ⟨oi, e, c, dd⟩ := st
    exact ⟨oi, e, fun v z => by rw [dd] at z; cases z⟩
  keep := fun i h h' st k => st.at fun oi e => k it (by simp) oi e
  item := by
    intro X hP hw hK hc i pins s σ H E I hf st hg
    subst hP hw hK
    obtain ⟨hd, hi⟩ := hg
    obtain ⟨f0, f1, f2, f3, f4, f5⟩ := hf it (by simp)
    obtain ⟨hgd, hx, es', ep', hdt, hsz, ent⟩ := frzN I hd
    obtain ⟨rfl, rfl⟩ := dict_ep hod hdt
    obtain ⟨q, hq⟩ : ∃ p, xs[i]? = some p := ⟨xs[i], List.getElem?_eq_getElem hi⟩
    obtain ⟨en, hen, hkey, hval⟩ := ent i q hq
    refine next_key_item st hgd hdt hsz hen fun h' st' sb => ?_
    have I1 : Inv X pins σ H { s with heap := h' } := I.turned (t' := s.toks) (fun b ob hb e => (sb.2 b hb).trans e) f0 f1 f3 f4 f5
    obtain ⟨oi, e, c, dd⟩ := id st'
    exact ⟨en.key, rfl, go_of (s := { s with heap := h' }) e c dd (by decide) ⟨.ref q.2.1, H, I1, hkey, ⟨rfl, q, hq, rfl⟩, st', fun b hb => (hf b hb).1⟩⟩
  done := by
    intro X hP hw hK hc i pins s σ H E I hf st hg
    subst hP hw hK
    obtain ⟨hd, hi⟩ := hg
    obtain ⟨f0, f1, f2, f3, f4, f5⟩ := hf it (by simp)
    obtain ⟨hgd, hx, es', ep', hdt, hsz, ent⟩ := frzN I hd
    obtain ⟨rfl, rfl⟩ := dict_ep hod hdt
    exact next_key_end (I.ok.hd hc) st hgd hdt hsz hi fun h' eb => ⟨rfl, I.turned (t' := s.toks) (fun b ob hb e => eb b ob hb e) f0 f1 f3 f4 f5⟩
  self := fun A i s Q E st h => by
    refine wpAny_pyIter_slot st.typeIs F.slot_dict_keyiterator_iter (wpAny_call_entry F.slot_dict_keyiterator_iter st.typeIs F.entry_dict_keyiterator_iter ?_ (F.args_dict_keyiterator_iter_1 _))
    show wpAny _ _ (ret (.ref it)) _ _ s
    exact wpAny_pure ⟨_, rfl, "dict_keyiterator", _, st.typeIs, F.slot_dict_keyiterator_next.lookup, h⟩
theorem turn_itemsN {W : World} {xs : List (NestedKey × Addr × Value)} {vs : List V} {elts : List Expr} {kk : Nat} {tpos : Pos} (it : Addr) (hod : o.data = .dict es ep) (hv : ∀ (i : Nat) q, xs[i]? = some q → ∃ v, vs[i]? = some v ∧ RelV v q.2.2) :
    Turn P w K (.Tuple elts kk tpos) (Itin W d o xs vs) [it] it (fun i h => ∃ ok ov, IsItemIter h it d i xs.length ep ok ov) where
  mem := by simp
  obj := fun i h st b hb => by
    have e : b = it := by simpa using hb
    subst e
    obtain ⟨ok, ov, e⟩ := st
    exact ⟨_, e, fun v z => nomatch z⟩
  keep := fun i h h' st k => let ⟨ok, ov, e⟩ := st; ⟨ok, ov, k it (by simp) _ e⟩
  item := by
    intro X hP hw hK hc i pins s σ H E I hf st hg
    subst hP hw hK
    obtain ⟨hd, hi⟩ := hg
    obtain ⟨hgd, hx, es', ep', hdt, hsz, ent⟩ := frzN I hd
    obtain ⟨rfl, rfl⟩ := dict_ep hod hdt
    obtain ⟨q, hq⟩ : ∃ p, xs[i]? = some p := ⟨xs[i], List.getElem?_eq_getElem hi⟩
    obtain ⟨en, hen, hkey, hval⟩ := ent i q hq
    obtain ⟨v, hv1, hv2⟩ := hv i q hq
    obtain ⟨ok, ov, he⟩ := st
    rw [← hsz] at he
    have hlt : it < s.heap.objs.size := Heap.lt_size he
    have hi' : i < es'.size := by rw [hsz]; exact hi
    have een : es'[i] = en := by
      have : es'[i]? = some es'[i] := Array.getElem?_eq_getElem hi'
      rw [this] at hen; exact Option.some.inj hen
    refine wpAny_pyNext_items_item_raw he ⟨o, hgd, hx, hdt⟩ hi' fun h' ho hT hz hk => ?_
    rw [een, hkey, hval] at ho hT
    refine ⟨_, rfl, wpAny_letOwnedTupleGo_items (s := { s with heap := h' }) ho fun h'' he' sb => ?_⟩
    have hT2 : h''.get? s.heap.objs.size = some { cls := .type "tuple", data := .seq #[Value.ref q.2.1, q.2.2] } := (sb.2 _ (Nat.ne_of_gt hlt)).trans hT
    have new : ObjOk X.prog X.w (upd H s.heap.objs.size (.tup [.ref q.2.1, v])) h'' s.heap.objs.size (.tup [.ref q.2.1, v]) :=
      ⟨by show 2 ≤ sizeLine; decide, [.ref q.2.1, q.2.2], .cons rfl (.cons hv2 .nil), ⟨_, hT2, rfl, _, rfl⟩⟩
    have I1 : Inv X pins σ (upd H s.heap.objs.size (.tup [.ref q.2.1, v])) { s with heap := h'' } :=
      I.turnedNew (t' := s.toks) (ch := [it]) (fun b ob hb e => (sb.2 b (by simpa using hb)).trans (hk b ob (by simpa using hb) e)) hf (Nat.le_refl _) new
    refine ⟨.ref s.heap.objs.size, _, I1, rfl, ⟨_, q, v, hq, hv1, rfl, I.hok.fresh (Nat.le_refl _), rfl⟩, ⟨.ref q.2.1, q.2.2, ?_⟩, fun b hb => ?_⟩
    · rw [hsz] at he'; exact he'
    · have e : b = it := by simpa using hb
      rw [e, upd_ne (Nat.ne_of_lt hlt)]
      exact (hf it (by simp)).1
  done := by
    intro X hP hw hK hc i pins s σ H E I hf st hg
    subst hP hw hK
    obtain ⟨hd, hi⟩ := hg
    obtain ⟨f0, f1, f2, f3, f4, f5⟩ := hf it (by simp)
    obtain ⟨hgd, hx, es', ep', hdt, hsz, ent⟩ := frzN I hd
    obtain ⟨rfl, rfl⟩ := dict_ep hod hdt
    obtain ⟨ok, ov, he⟩ := st
    rw [← hsz] at he hi
    exact wpAny_pyNext_items_end_raw (I.ok.hd hc) he ⟨o, hgd, hx, hdt⟩ hi fun h' eb => ⟨rfl, I.turned (t' := s.toks) (fun b ob hb e => eb b ob hb e) f0 f1 f3 f4 f5⟩
  self := fun A i s Q E st h => let ⟨_, _, e⟩ := st; PySem.W.kcp_self e h
end
section
variable {w : Wo} {EX : XC} {X : Cx} {k : Nat} {M : Addr → Prop} {rho : List Addr} {H : Hp} {h : PH} {pins : List (Addr × Obj)} {σ : L2.St} {s : Shared}
theorem TRs.at : ∀ {kvs : List (PV × PV)} {xs : List (NestedKey × Addr × Value)}, TRs w M rho H kvs xs → ∀ {i : Nat} {q : NestedKey × Addr × Value}, xs[i]? = some q → ∃ p x, kvs[i]? = some (p, x) ∧ nkP p = some q.1 ∧ q.1.depth ≤ 8 ∧ VR w M rho H p (.ref q.2.1) ∧ ∃ v, RelV v q.2.2 ∧ VR w M rho H x v
  | _, _, .nil, i, q, e => by simp at e
  | _, _, .cons h1 h2 h3 h4 h5 h6, i, q, e => by
    cases i with
    | zero => simp at e; subst e; exact ⟨_, _, rfl, h1, h2, h3, _, h5, h4⟩
    | succ i => simpa using TRs.at h6 (i := i) (q := q) (by simpa using e)
/-- values of the entries -/
theorem TRs.vals : ∀ {kvs : List (PV × PV)} {xs : List (NestedKey × Addr × Value)}, TRs w M rho H kvs xs → ∃ vs : List V, (∀ (i : Nat) q, xs[i]? = some q → ∃ v, vs[i]? = some v ∧ RelV v q.2.2) ∧ VRs w M rho H (kvs.map (·.2)) vs
  | _, _, .nil => ⟨[], (fun i q e => by simp at e), .nil⟩
  | _, _, .cons (v := v) h1 h2 h3 h4 h5 h6 => by
    obtain ⟨vs, g, r⟩ := TRs.vals h6
    refine ⟨v :: vs, fun i q e => ?_, .cons h4 r⟩
    cases i with
    | zero => simp at e; subst e; exact ⟨v, rfl, h5⟩
    | succ i => simpa using g i q (by simpa using e)
theorem gives_keysN {a : Addr} {o : Obj} {ks : List (PV × PV)} {xs : List (NestedKey × Addr × Value)} (hr0 : HR w M rho H h) (q : H a = some (.frz o (TDO w.W a xs))) (rv : TRs w M rho H ks xs) : Gives w M rho H (ks.map (·.1)) [] (Itkn w.W a o xs) := by
  refine ⟨fun {M1 rho1 H1 h1} st hr hw i => ?_⟩
  have q := st.frz _ _ _ q
  have rv := rv.step st hr0
  rw [List.length_map, ← rv.length]
  refine ⟨fun hi => ⟨q, hi⟩, fun hi => by subst hi; exact ⟨q, Nat.le_refl _⟩, fun v H' hi y => ?_⟩
  obtain ⟨e, q', ey, ev⟩ := y
  subst e; subst ev
  obtain ⟨p, x, e1, _, _, e2, _⟩ := rv.at ey
  exact ⟨fun _ _ e => e, p, by rw [List.getElem?_map, e1]; rfl, e2⟩
theorem gives_itemsN {a : Addr} {o : Obj} {ks : List (PV × PV)} {xs : List (NestedKey × Addr × Value)} {vs : List V} (hr0 : HR w M rho H h) (q : H a = some (.frz o (TDO w.W a xs))) (rv : TRs w M rho H ks xs) (rs : VRs w M rho H (ks.map (·.2)) vs) : Gives w M rho H (ks.map fun p => .tup [p.1, p.2]) [] (Itin w.W a o xs vs) := by
  refine ⟨fun {M1 rho1 H1 h1} st hr hw i => ?_⟩
  have q := st.frz _ _ _ q
  have rv := rv.step st hr0
  have rs := rs.step st hr0
  rw [List.length_map, ← rv.length]
  refine ⟨fun hi => ⟨q, hi⟩, fun hi => by subst hi; exact ⟨q, Nat.le_refl _⟩, fun v H' hi y => ?_⟩
  obtain ⟨T, q', u, ey, eu, ev, hn, e⟩ := y
  subst e; subst ev
  obtain ⟨p, x, e1, _, _, e2, _⟩ := rv.at ey
  obtain ⟨u', eu', ru⟩ := rs.get (i := i) (x := x) (by rw [List.getElem?_map, e1]; rfl)
  rw [eu] at eu'; cases eu'
  have sg : Step M1 rho1 H1 M1 rho1 (upd H1 T (.tup [.ref q'.2.1, u])) := Step.grow (same_upd hn)
  exact ⟨same_upd hn, .tup [p, x], by rw [List.getElem?_map, e1]; rfl, .tup (SqT.of upd_same) (.cons (e2.step sg hr) (.cons (ru.step sg hr) .nil))⟩
/-- a dict of the heap is locked -/
theorem lock_dit {n : Nat} {v : V} {kvs : List (PV × PV)} (I : Inv X pins σ H s) (hr : HR w M rho H h) (rv : VR w M rho H (.ref n) v) (e : h[n]? = some (.dit false kvs)) :
    ∃ a od xs, v = .ref a ∧ (a == sysModules) = false ∧ Inv X pins σ (upd H a (.frz od (TDO w.W a xs))) s ∧ Step M rho H M rho (upd H a (.frz od (TDO w.W a xs))) ∧ HR w M rho (upd H a (.frz od (TDO w.W a xs))) (h.set n (.dit true kvs)) ∧ TRs w M rho (upd H a (.frz od (TDO w.W a xs))) kvs xs := by
  cases rv with
  | @ref n a ha =>
    obtain ⟨a', ha', xs, q1, q2, q3, q4, q5⟩ := hr.ob _ _ e
    rw [ha] at ha'
    cases ha'
    have q1' : H a = some (TDO w.W a xs) := q1
    obtain ⟨od, I'⟩ := I.lock q1' True.intro
    have nf : ∀ p u, H a ≠ some (.frz p u) := fun p u z => by rw [q1'] at z; cases z
    have st := Step.write hr (o := .frz od (TDO w.W a xs)) ha nf
    have r2 := q5.step st hr
    exact ⟨a, od, xs, rfl, q2, I', st, hr.write ha nf ⟨xs, ⟨od, upd_same⟩, q2, q3, q4, r2⟩, r2⟩
/-- the keys, the pairs of a dict: it is locked, for good -/
def srcT (f : PV × PV → PV) (h : PH) : PV → R (List PV × Wt)
  | .ref n => match h[n]? with
    | some (.dit false kvs) => .ok (kvs.map f, []) (h.set n (.dit true kvs))
    | some (.dit true kvs) => .ok (kvs.map f, []) h
    | _ => .stuck
  | _ => .stuck
def pairP : PV × PV → PV := fun p => .tup [p.1, p.2]
def isDit (h : PH) : PV → Bool
  | .ref n => match h[n]? with
    | some (.dit _ _) => true
    | _ => false
  | _ => false
def miVT (m : ME) : MI := fun env h => (m env h).bind fun x h1 => bif isDit h1 x then srcT (·.1) h1 x else match srcV h1 x with
  | some p => .ok p h1
  | none => srcD h1 x
def miItemsT (m : ME) : MI := fun env h => (m env h).bind fun x h1 => bif isDit h1 x then srcT pairP h1 x else itemsD h1 x
theorem srcT_ok {f : PV × PV → PV} {x : PV} {v : V} {R : It → Hp → Prop} (I : Inv X pins σ H s) (hr : HR w M rho H h) (rv : VR w M rho H x v) (o : Out w EX M rho H (srcT f h x) (KI w R)) :
    ∃ a od xs kvs M1 rho1 H1 h1, v = .ref a ∧ (a == sysModules) = false ∧ Inv X pins σ H1 s ∧ HR w M1 rho1 H1 h1 ∧ H1 a = some (.frz od (TDO w.W a xs)) ∧ TRs w M1 rho1 H1 kvs xs ∧ KI w R (kvs.map f, []) h1 M1 rho1 H1 := by
  cases x <;> try exact (show False from o).elim
  rename_i n
  simp only [srcT] at o
  split at o
  · rename_i kvs e0
    obtain ⟨a, od, xs, rfl, hs, I', st, hr', rk⟩ := lock_dit I hr rv e0
    exact ⟨a, od, xs, kvs, _, _, _, _, rfl, hs, I', hr', upd_same, rk, o _ _ _ st hr'⟩
  · rename_i kvs e0
    cases rv with
    | @ref n a ha =>
      obtain ⟨a', ha', xs, ⟨od, q1⟩, q2, q3, q4, q5⟩ := hr.ob _ _ e0
      rw [ha] at ha'
      cases ha'
      exact ⟨a, od, xs, kvs, _, _, _, _, rfl, q2, I, hr, q1, q5, o.now hr⟩
  · exact (show False from o).elim
theorem mi_valT (C : Cxt w k X) {tg e : Expr} {m : ME} (he : PE X e (tM w EX m)) : PI X tg e (tI w EX (miVT m)) := by
  refine ⟨fun pins s σ H R I h => ?_⟩
  obtain ⟨M, rho, env, hh, er, hr, o⟩ := h
  refine thn (he.run pins s σ H (fun v H1 => ∃ M1 rho1 h1 x, HR w M1 rho1 H1 h1 ∧ VR w M1 rho1 H1 x v ∧ Out w EX M1 rho1 H1 (bif isDit h1 x then srcT (·.1) h1 x else match srcV h1 x with
    | some p => .ok p h1
    | none => srcD h1 x) (KI w R)) I (tM.of er hr (Out.bind o) fun x h1 M1 rho1 H1 v st1 er1 hr1 o1 rv => ⟨M1, rho1, h1, x, hr1, rv, o1⟩)) fun u s1 ⟨v, H1, I1, ru, M1, rho1, h1, x, hr1, rv, o1⟩ => ?_
  cases hd : isDit h1 x with
  | true =>
    rw [hd, cond_true] at o1
    obtain ⟨a, od, xs, kvs, M2, rho2, H2, h2, rfl, hs, I2, hr2, ha, rk, q⟩ := srcT_ok I1 hr1 rv o1
    obtain rfl : u = Value.ref a := ru
    obtain ⟨hgd, hx, es, ep, hdt, hsz, ent⟩ := frzN I2 ha
    refine iter_keys hs hgd hx hdt (pi_one (tk := s1.toks) I2 _ (turn_keysN _ hdt) ⟨_, Heap.get?_push_size _ rfl, rfl, ?_⟩ (q _ (gives_keysN hr2 ha rk)))
    rw [hsz] <;> rfl
  | false =>
    rw [hd, cond_false] at o1
    split at o1
    · rename_i p ep
      exact iter_val (xs := p.1) (wt := p.2) C I1 ru hr1 rv ep (o1.now hr1)
    · exact iter_dic I1 ru hr1 rv o1
theorem mi_itemsT (C : Cxt w k X) {e : Expr} {m : ME} {elts : List Expr} {kk : Nat} {tpos apos cpos : Pos} (he : PE X e (tM w EX m)) (hbase : attributeBase e "items" X.env (eval e X.env) = eval e X.env := by rfl) (hline : (apos.endLine == cpos.line) = true := by rfl) :
    PI X (.Tuple elts kk tpos) (.Call (.Attribute e "items" apos) [] [] cpos) (tI w EX (miItemsT m)) := by
  refine ⟨fun pins s σ H R I h => ?_⟩
  obtain ⟨M, rho, env, hh, er, hr, oo⟩ := h
  refine wpAny_Call_method (T := "dict") (id := "dict.items") hbase rfl hline F.plainAttrs_dict F.slot_dict_items F.type_dict_items (thn (he.run pins s σ H (fun v H1 => ∃ M1 rho1 h1 x, HR w M1 rho1 H1 h1 ∧ VR w M1 rho1 H1 x v ∧ Out w EX M1 rho1 H1 (bif isDit h1 x then srcT pairP h1 x else itemsD h1 x) (KI w R)) I (tM.of er hr (Out.bind oo) fun x h1 M1 rho1 H1 v st1 er1 hr1 o1 rv => ⟨M1, rho1, h1, x, hr1, rv, o1⟩)) fun u s1 ⟨v, H1, I1, ru, M1, rho1, h1, x, hr1, rv, o1⟩ => ?_)
  have go : ∀ {H1 : Hp} {h1 : PH} {d : Addr} {o : Obj} {gs : List (Key × V)} {kvs : List (PV × PV)}, Inv X pins σ H1 s1 → HR w M1 rho1 H1 h1 → H1 d = some (.frz o (.dK gs)) → KRs w M1 rho1 H1 kvs gs → KI w R (kvs.map (fun p => .tup [p.1, p.2]), []) h1 M1 rho1 H1 →
      s1.TypeIs (.ref d) "dict" ∧ (∀ b, Value.ref d = .ref b → ∃ ob, s1.heap.get? b = some ob ∧ ob.dict = none) ∧ wpAny (model X.prog X.w) X.A (callWith cpos (.builtin "dict.items") [.ref d] [] []) (fun it s2 => wpAny (model X.prog X.w) X.A (pyIter it) (PIE X pins σ (.Tuple elts kk tpos) R) X.xe s2) X.xe s1 := by
    intro H1 h1 d o gs kvs I1 hr1 hd rk q
    obtain ⟨hs, hgd, hx, es, ep, vs, hdt, hsz, kv, hm⟩ := I1.frzK hd
    have hl : gs.length = vs.length := Paired.length kv
    refine ⟨hm.dictOf.typeIs, hm.dictOf.mapOf.noDict, ?_⟩
    have I2 : Inv X pins σ H1 { s1 with heap := s1.heap.push { cls := .type "dict_items", data := .fields #[.ref d] } } := I1.kept (t' := s1.toks) fun b ob q => Heap.get?_push_of_some _ q
    have fin : wpAny (model X.prog X.w) X.A (pyIter (.ref s1.heap.objs.size)) (PIE X pins σ (.Tuple elts kk tpos) R) X.xe { s1 with heap := s1.heap.push { cls := .type "dict_items", data := .fields #[.ref d] } } := by
      refine wpAny_pyIter_items (d := d) (knd := mixKind X.prog X.w) ⟨_, Heap.get?_push_size _ rfl, rfl, rfl⟩ (hm.push _) (pi_one (tk := s1.toks) I2 _ (turn_items _ hdt) ⟨.none, .none, ?_⟩ (q _ (gives_items hr1 hd rk)))
      rw [hl]
      exact Heap.get?_push_size _ rfl
    exact method_meetsIn F.slot_dict_items F.entry_dict_items rfl (PySem.evalArgs_none ⟨rfl, hm.dictOf.typeIs, F.args_dict_items_1 _, _, meets_dict_items (mixKind X.prog X.w) d hs, ⟨vs, hm.dictOf⟩, fin⟩)
  cases hdi : isDit h1 x with
  | true =>
    rw [hdi, cond_true] at o1
    obtain ⟨a, od, xs, kvs, M2, rho2, H2, h2, rfl, hs, I2, hr2, ha, rk, q⟩ := srcT_ok I1 hr1 rv o1
    obtain rfl : u = Value.ref a := ru
    obtain ⟨hgd, hx, es, ep, hdt, hsz, ent⟩ := frzN I2 ha
    obtain ⟨vs, hv, rs⟩ := rk.vals
    have raw : s1.heap.DictRaw a es ep := ⟨od, hgd, hx, hdt⟩
    refine ⟨raw.typeIs, fun b q => ?_, ?_⟩
    · cases q; exact ⟨od, hgd, hx.2.1⟩
    have I3 : Inv X pins σ H2 { s1 with heap := s1.heap.push { cls := .type "dict_items", data := .fields #[.ref a] } } := I2.kept (t' := s1.toks) fun b ob q => Heap.get?_push_of_some _ q
    have fin : wpAny (model X.prog X.w) X.A (pyIter (.ref s1.heap.objs.size)) (PIE X pins σ (.Tuple elts kk tpos) R) X.xe { s1 with heap := s1.heap.push { cls := .type "dict_items", data := .fields #[.ref a] } } := by
      refine wpAny_pyIter_items_raw (d := a) ⟨_, Heap.get?_push_size _ rfl, rfl, rfl⟩ (raw.at fun o e => Heap.get?_push_of_some _ e) (pi_one (tk := s1.toks) I3 _ (turn_itemsN _ hdt hv) ⟨.none, .none, ?_⟩ (q _ (gives_itemsN hr2 ha rk rs)))
      rw [← hsz]
      exact Heap.get?_push_size _ rfl
    exact method_meetsIn F.slot_dict_items F.entry_dict_items rfl (PySem.evalArgs_none ⟨rfl, raw.typeIs, F.args_dict_items_1 _, _, meets_dict_items_raw a hs, ⟨es, ep, raw⟩, fin⟩)
  | false =>
    rw [hdi, cond_false] at o1
    cases x <;> try exact (show False from o1).elim
    rename_i n
    simp only [itemsD] at o1
    split at o1
    · rename_i kvs e0
      obtain ⟨a, od, ks, rfl, I', st, hr', rk⟩ := lock_dic I1 hr1 rv e0
      obtain rfl : u = Value.ref a := ru
      exact go I' hr' upd_same rk (o1 _ _ _ st hr')
    · rename_i kvs e0
      cases rv with
      | @ref n a ha =>
        obtain rfl : u = Value.ref a := ru
        obtain ⟨a', ha', ks, ⟨od, q1⟩, q2⟩ := hr1.ob _ _ e0
        rw [ha] at ha'
        cases ha'
        exact go I1 hr1 q1 q2 (o1.now hr1)
    · exact (show False from o1).elim
end
end MC

end
section
set_option maxRecDepth 100000
set_option maxHeartbeats 4000000
namespace MC
open PySem PySem.Spec PyProof.Rows L2

section
variable {P : Program} {w : World} {A : Around} {E : Value → Shared → Prop} {s : Shared}
/-- the empty set object that set() lays first -/
abbrev set0 (w : World) : Obj := { cls := .type "set", dict := none, data := .set #[] 0 (.fresh 0 0 (!w.params.followText "set-order")) }
/-- its __init__ over a list of ints -/
theorem set_init_list {l N : Addr} {its : Array Value} {ns : List Int} {g : Heap} {R : Result → Shared → Prop} {t : Nat} (hh : A.handled = none) (hl : g.IsList l its) (hit : IntsAre its.toList ns) (hb : ns.length + 1 < scanBound) (hN : g.get? N = some (set0 w)) (hlN : l ≠ N)
    (h : ∀ (h' : Heap) (tk c : Nat), SetR w h' N (fun j => decide (j ∈ ns)) c → c ≤ ns.length → (∀ b o, b ≠ N → g.get? b = some o → h'.get? b = some o) → R (.ok (.ret .none)) { s with heap := h', toks := tk }) :
    wpAny (model P w) A.in1 (Builtin.«set.__init__» ⟨[.ref N, .ref l], []⟩) (fun fin s' => match fin with
      | .done f => R (.ok f) s'
      | .again c' => c'.quiet = true ∧ codeAny (model P w) A c' R s') (fun e s' => R (.error e) s') { s with heap := g, toks := t } := by
  have sz : its.size = ns.length := by have q := IntsAre.length hit; rwa [Array.length_toList] at q
  obtain ⟨ol, hol, hcl, nl, hdl⟩ := hl
  obtain ⟨c1, c2, c3, c4⟩ := ol
  simp only at hcl hdl
  subst hcl; subst hdl
  have hsl := F.sub_list_set
  have hsf := F.sub_list_frozenset
  have hne : (Value.type "list" == Value.type "dict") = false := by decide
  have isl : g.IsList l its := ⟨_, hol, rfl, nl, rfl⟩
  unfold Builtin.«set.__init__» noKeywords Builtin.Frozenset.updateFrom
  generalize hPI : pyIter = PI
  wp_walk
  subst hPI
  refine wpAny_pyIter_list isl (wpAny_bind (wpAny_runValue ?_))
  have nN : N < g.objs.size := Heap.lt_size hN
  have nl' : l < g.objs.size := Heap.lt_size hol
  have h3 : A.in1.in1.handled = none := by simp [hh]
  have out : N ∉ [g.objs.size, l] := by
    simp only [List.mem_cons, List.not_mem_nil, or_false, not_or]
    exact ⟨Nat.ne_of_lt nN, Ne.symm hlN⟩
  have val : ∀ (i : Nat) (v : Value), its[i]? = some v → ∃ k t, ns[i]? = some k ∧ v = .int k t := fun i v hv => by
    have hi : i < ns.length := by rw [← sz]; exact (Array.getElem?_eq_some_iff.mp hv).1
    obtain ⟨t, e⟩ := IntsAre.int_at hit i v (by rw [Array.getElem?_toList]; exact hv)
    refine ⟨ns[i], t, List.getElem?_eq_getElem hi, ?_⟩
    rw [e, List.getD_eq_getElem?_getD, List.getElem?_eq_getElem hi] <;> rfl
  refine set_update_ints ((Walks.list h3 _ l (Nat.ne_of_lt nl') its).toS) N out ns sz hb val (its.size - 0) 0 _ (by omega) (Nat.zero_le _) ?_ ⟨0, Nat.le_refl 0, ?_⟩ ?_
  · exact ⟨⟨_, Heap.get?_push_size _ rfl, rfl, rfl⟩, isl.push _⟩
  · have e : (g.push { cls := .type "list_iterator", data := .fields #[.ref l, .int 0 0] }).get? N = some (set0 w) := Heap.get?_push_of_some _ hN
    exact setR_new_at e
  intro s' c' hm hc' hS'
  obtain ⟨h', g2, d', tk', os'⟩ := s'
  have e1 : g2 = s.gens := hm.gens
  have e2 : d' = s.drawn := hm.drawn
  have e3 : os' = s.os := hm.os
  subst e1; subst e2; subst e3
  show wpAny _ _ _ _ _ _
  refine wpAny_pure ?_
  show wpAny _ _ (ret Value.none) _ _ _
  rw [sz] at hc'
  refine wpAny_pure (h h' tk' c' hS' hc' fun b o hbN e => ?_)
  refine hm.heap b o (fun z => ?_) (Heap.get?_push_of_some _ e)
  rcases List.mem_cons.mp z with z | z
  · exact hbN z
  · rw [List.mem_singleton.mp z] at e
    exact Nat.lt_irrefl _ (Heap.lt_size e)
theorem call_set_lst {l : Addr} {its : Array Value} (ns : List Int) {Q : Value → Shared → Prop} (hh : A.handled = none) (hl : s.heap.IsList l its) (hit : IntsAre its.toList ns) (hb : ns.length + 1 < scanBound)
    (h : ∀ (h' : Heap) (tk c : Nat), SetR w h' s.heap.objs.size (fun j => decide (j ∈ ns)) c → c ≤ ns.length → (∀ b o, s.heap.get? b = some o → h'.get? b = some o) → Q (.ref s.heap.objs.size) { s with heap := h', toks := tk }) :
    wpAny (model P w) A (call (.type "set") [.ref l]) Q E s := by
  have lt : l < s.heap.objs.size := by obtain ⟨_, e, _⟩ := hl; exact Heap.lt_size e
  have hS : (s.heap.push (set0 w)).get? s.heap.objs.size = some (set0 w) := Heap.get?_push_size _ rfl
  have ft := F.called_set
  obtain ⟨c, tl, hmro⟩ := ft.mro
  have g1 := ft.made
  have g2 := ft.sub
  have g3 := ft.notType
  have g4 := ft.canCreate
  have g5 := F.typeCall_set_1 (.ref l)
  refine wpAny_call (codeAny_of_tree (show wpAny _ _ (callAny (.type "set") _) _ _ _ from wpAny_pure ⟨Code.quiet_builtin _ (by decide +kernel), codeAny_builtin F.entry_type_call ?_⟩))
  rw [Around.under_plain (weight_type_call_type "set" [.ref l] []) rfl]
  repeat (any_goals (first | assumption | wp_step))
  refine codeAny_mono (code_set_led1 (.ref l) (E := E) (Q₁ := fun obj s₁ => obj = .ref s.heap.objs.size ∧ s₁ = { s with heap := s.heap.push (set0 w) }) ⟨rfl, rfl⟩) fun r s₁ hr => ?_
  rcases r with e | fl
  · exact hr
  · cases fl <;> try exact hr.elim
    obtain ⟨rfl, rfl⟩ := hr
    have hT : Shared.TypeIs { s with heap := s.heap.push (set0 w) } (.ref s.heap.objs.size) "set" := ⟨_, hS, rfl⟩
    have g6 := ft.init.lookup
    have g7 := ft.init.bind (.ref s.heap.objs.size)
    repeat (any_goals (first | assumption | wp_step))
    refine codeAny_mono (codeAny_call_builtin (R := wants (fun r s₂ => r = .none ∧ Q (.ref s.heap.objs.size) s₂) E) ft.init.plain F.entry_set_init (check_set_init_1 hT ?_)) fun r₂ s₂ hr₂ => ?_
    · refine set_init_list (s := s) (t := s.toks) (R := wants (fun r s₂ => r = .none ∧ Q (.ref s.heap.objs.size) s₂) E) ?_ (hl.push _) hit hb hS (Nat.ne_of_lt lt) fun h' tk c z1 z2 z3 => ?_
      · simp [hh]
      · exact ⟨rfl, h h' tk c z1 z2 fun b o e => z3 b o (Nat.ne_of_lt (Heap.lt_size e)) (Heap.get?_push_of_some _ e)⟩
    · rcases r₂ with e | fl₂
      · exact hr₂
      · cases fl₂ <;> try exact hr₂.elim
        obtain ⟨rfl, hq⟩ := hr₂
        repeat (any_goals (first | assumption | wp_step))
end

def insU (x : Int) : List Int → List Int
  | [] => [x]
  | y :: r => bif decide (x < y) then x :: y :: r else bif decide (x = y) then y :: r else y :: insU x r
/-- ascending, each once -/
def usort : List Int → List Int
  | [] => []
  | x :: r => insU x (usort r)
theorem insU_mem (x z : Int) : ∀ l : List Int, z ∈ insU x l ↔ z = x ∨ z ∈ l
  | [] => by simp [insU]
  | y :: r => by
    unfold insU
    by_cases h : x < y
    · rw [decide_eq_true h, cond_true]; simp
    · rw [decide_eq_false h, cond_false]
      by_cases e : x = y
      · rw [decide_eq_true e, cond_true]; subst e; simp
      · rw [decide_eq_false e, cond_false, List.mem_cons, insU_mem x z r, List.mem_cons]
        constructor
        · rintro (a | a | a) <;> simp [a]
        · rintro (a | a | a) <;> simp [a]
theorem usort_mem (z : Int) : ∀ l : List Int, z ∈ usort l ↔ z ∈ l
  | [] => Iff.rfl
  | x :: r => by
    unfold usort
    rw [insU_mem, usort_mem z r, List.mem_cons]
theorem insU_sorted (x : Int) : ∀ l : List Int, l.Pairwise (· < ·) → (insU x l).Pairwise (· < ·)
  | [], _ => List.pairwise_singleton _ _
  | y :: r, h => by
    unfold insU
    have h2 := List.pairwise_cons.mp h
    by_cases e : x < y
    · rw [decide_eq_true e, cond_true]
      refine List.pairwise_cons.mpr ⟨fun z hz => ?_, h⟩
      rcases List.mem_cons.mp hz with rfl | hz
      · exact e
      · exact Int.lt_trans e (h2.1 z hz)
    · rw [decide_eq_false e, cond_false]
      by_cases e2 : x = y
      · rw [decide_eq_true e2, cond_true]; exact h
      · rw [decide_eq_false e2, cond_false]
        refine List.pairwise_cons.mpr ⟨fun z hz => ?_, insU_sorted x r h2.2⟩
        rcases (insU_mem x z r).mp hz with rfl | hz
        · omega
        · exact h2.1 z hz
theorem usort_sorted : ∀ l : List Int, (usort l).Pairwise (· < ·)
  | [] => .nil
  | x :: r => insU_sorted x _ (usort_sorted r)
theorem strict_eq : ∀ {l m : List Int}, l.Pairwise (· < ·) → m.Pairwise (· < ·) → (∀ z, z ∈ l ↔ z ∈ m) → l = m
  | [], [], _, _, _ => rfl
  | [], y :: m, _, _, e => absurd ((e y).mpr List.mem_cons_self) (by simp)
  | x :: l, [], _, _, e => absurd ((e x).mp List.mem_cons_self) (by simp)
  | x :: l, y :: m, hl, hm, e => by
    have h1 := List.pairwise_cons.mp hl
    have h2 := List.pairwise_cons.mp hm
    have exy : x = y := by
      rcases List.mem_cons.mp ((e x).mp List.mem_cons_self) with q | q
      · exact q
      · rcases List.mem_cons.mp ((e y).mpr List.mem_cons_self) with q2 | q2
        · exact q2.symm
        · have a := h2.1 x q
          have b := h1.1 y q2
          omega
    subst exy
    rw [strict_eq h1.2 h2.2 fun z => ?_]
    have ez := e z
    rw [List.mem_cons, List.mem_cons] at ez
    constructor
    · intro hz
      rcases ez.mp (.inr hz) with q | q
      · have := h1.1 z hz; omega
      · exact q
    · intro hz
      rcases ez.mpr (.inr hz) with q | q
      · have := h2.1 z hz; omega
      · exact q
/-- sorted(set(..)) of a list of ints -/
def mSortSet (m : ME) : ME := fun env h => (m env h).bind fun x h1 => match lstP h1 x with
  | some ys => match intsP ys with
    | some is => bif decide (is.length < 64) then .ok (.ref h1.length) (h1 ++ [.lst ((usort is).map PV.int)]) else .stuck
    | none => .stuck
  | none => .stuck
section
variable {w : Wo} {EX : XC} {X : Cx} {k : Nat}
theorem me_sortSet (C : Cxt w k X) {a : Expr} {m : ME} {p p2 q pos : Pos} (he : PE X a (tM w EX m)) (hg : Gl X "sorted") (hm : X.mg "sorted" = none) (hg2 : Gl X "set") (hm2 : X.mg "set" = none)
    (na : starEach [a] X.env = (false, eval a X.env) :: starEach [] X.env := by rfl) : PE X (.Call (.Name "sorted" p) [.Call (.Name "set" p2) [a] [] q] [] pos) (tM w EX (mSortSet m)) := by
  refine ⟨fun pins s σ H Q I hh => ?_⟩
  obtain ⟨M, rho, env, h, er, hr, o⟩ := hh
  refine Call_ (ld_blt I hg hm (u := .builtin "sorted") (by decide +kernel) ?_)
  refine PyProof.Rows.callWith_builtin1 (PyProof.Rows.args_cons ?_ rfl) rfl rfl
  refine Call_ (ld_blt I hg2 hm2 (u := .type "set") (by decide +kernel) ?_)
  refine PyProof.Rows.callWith_type1 (PyProof.Rows.args_cons (thn (he.run pins s σ H (fun v H1 => ∃ M1 rho1 h1 l is ns, v = .ref l ∧ HR w M1 rho1 H1 h1 ∧ SqL w.K H1 l ns ∧ ns = is.map V.int ∧ is.length < 64 ∧ Out w EX M1 rho1 H1 (.ok (.ref h1.length) (h1 ++ [.lst ((usort is).map PV.int)])) (KV w Q)) I (tM.of er hr (Out.bind o) fun x h1 M1 rho1 H1 v st1 er1 hr1 o1 rv => ?_)) fun v s1 ⟨x, H1, I1, r1, M1, rho1, h1, l, is, ns, ex, hr1, hq, en, hl, q1⟩ => PyProof.Rows.args_nil ?_) na) na rfl
  · split at o1
    · rename_i ys e0
      split at o1
      · rename_i is e1
        obtain ⟨hc, o1⟩ := Out.bif o1
        obtain ⟨a, ws, rfl, rw', q⟩ := lst_ok hr1 rv e0
        rw [intsP_eq e1] at rw'
        exact ⟨M1, rho1, h1, a, is, ws, rfl, hr1, q, vrs_ints rw', of_decide_eq_true hc, o1⟩
      · exact (show False from o1).elim
    · exact (show False from o1).elim
  · subst ex en
    cases r1
    rw [← C.hK] at hq
    obtain ⟨its, r, pl, hz⟩ := I1.list hq
    refine call_set_lst is (I1.ok.hd C.calm) pl.isList (by simpa using ints_of_vals r) (by unfold scanBound; omega) fun h' tk c R hc kk => ?_
    refine PyProof.Rows.args_nil ?_
    have hn : H1 s1.heap.objs.size = none := I1.hok.fresh (Nat.le_refl _)
    have I2 : Inv X pins σ (upd H1 s1.heap.objs.size (SetO X.w s1.heap.objs.size (fun j => decide (j ∈ is)) c)) { s1 with heap := h', toks := tk } := I1.laid kk (Nat.le_refl _) (setO_new R)
    refine cr_sortedSet C.calm pins _ σ _ [.ref s1.heap.objs.size] [.ref s1.heap.objs.size] Q I2 (.cons rfl .nil) ⟨_, _, c, rfl, upd_same, by omega, fun ns p hs hmm hlen hnp => ?_⟩
    have e : ns = usort is := strict_eq hs (usort_sorted is) fun z => by rw [hmm z, usort_mem]; simp
    subst e
    have st : Step M1 rho1 H1 M1 rho1 (upd H1 s1.heap.objs.size (SetO X.w s1.heap.objs.size (fun j => decide (j ∈ is)) c)) := Step.grow (same_upd hn)
    exact KV.lst (hr1.grow (same_upd hn)) (q1.step st) (ints_vrs _) p hnp
end
end MC

end
section
set_option maxRecDepth 100000
set_option maxHeartbeats 4000000
namespace MC
open PySem PySem.Spec PyProof.Rows L2

section
variable {w : Wo} {EX : XC} {X : Cx} {k : Nat} {M : Addr → Prop} {rho : List Addr} {H : Hp} {h : PH}
def upL (s : List Nat) : List Nat := (Txt.upper (S s)).cps.toList
def oUpper : OC := fun h xs => match xs with
  | [.str s] => bif decide (s.length ≤ 5592405) then .ok (.str (upL s)) h else .stuck
  | _ => .stuck
theorem o_upper : MtR X "str.upper" (rM w EX oUpper) := by
  refine MtR.imp mt_upper fun x xs H Q hh => ?_
  obtain ⟨M, rho, h, px, ps, hr, rx, rs, o⟩ := hh
  unfold oUpper at o
  split at o
  · rename_i s e
    cases e
    cases rs
    cases rx
    obtain ⟨hl, o⟩ := Out.bif o
    refine ⟨S s, rfl, rfl, by show (S s).length ≤ _; rw [S_len]; exact of_decide_eq_true hl, ?_⟩
    have := o.now hr _ (.str _)
    rw [show (⟨(upL s).toArray⟩ : Str) = Txt.upper (S s) from S_of _] at this
    exact this
  · exact (show False from o).elim
def oCount1 : OC := fun h xs => match xs with
  | [.str s, .str [c]] => .ok (.int (s.count c : Nat)) h
  | _ => .stuck
theorem cnt_count (c : Nat) : ∀ l : List Nat, cnt c l = (l.count c : Nat) := by
  intro l
  induction l with
  | nil => rfl
  | cons x l ih =>
    rw [cnt_cons, ih, List.count_cons]
    by_cases e : x = c
    · simp [e] <;> omega
    · simp [e]
theorem o_count1 : MtR X "str.count" (rM w EX oCount1) := by
  refine MtR.imp mt_count fun x xs H Q hh => ?_
  obtain ⟨M, rho, h, px, ps, hr, rx, rs, o⟩ := hh
  unfold oCount1 at o
  split at o
  · rename_i s c e
    cases e
    obtain ⟨v, rfl, rv⟩ := vrs1 rs
    cases rx
    cases rv
    refine ⟨S s, S [c], rfl, rfl, ?_⟩
    have e1 : Txt.count (S s) (S [c]) = (s.count c : Nat) := by
      have := count_cnt (S s) c
      rw [S_list, cnt_count] at this
      exact this
    rw [e1]
    exact o.now hr _ (.int _)
  · exact (show False from o).elim
end

def isDicT (h : PH) : PV → Bool
  | .ref n => match h[n]? with
    | some (.dic _ _) => true
    | some (.dit _ _) => true
    | _ => false
  | _ => false
def lookDT (h : PH) (x k d : PV) : R PV := match x with
  | .ref n => bif isKeyT k then (match ditP h n with
    | some kvs => .ok ((lookT k kvs).getD d) h
    | none => .stuck) else lookD h x k d
  | _ => .stuck
def mGet2T (mo mk md : ME) : ME := fun env h => (mo env h).bind fun x h1 => bif isDicT h1 x then (mk env h1).bind fun k h2 => (md env h2).bind fun d h3 => lookDT h3 x k d else .stuck
section
variable {w : Wo} {EX : XC} {X : Cx} {k : Nat} {M : Addr → Prop} {rho : List Addr} {H : Hp} {h : PH} {pins : List (Addr × Obj)} {σ : L2.St} {s : Shared}
theorem isDicT_at (C : Cxt w k X) (I : Inv X pins σ H s) (hr : HR w M rho H h) {x : PV} {v : V} (r : VR w M rho H x v) (e : isDicT h x = true) :
    ∃ a, v = .ref a ∧ s.TypeIs (.ref a) "dict" ∧ (∀ b, Value.ref a = .ref b → ∃ ob, s.heap.get? b = some ob ∧ ob.dict = none) := by
  cases r <;> try (exact (Bool.false_ne_true e).elim)
  rename_i n a ha
  simp only [isDicT] at e
  split at e
  · rename_i lk kvs e0
    obtain ⟨b, hb, ks, h1, sa⟩ := hr.ob n _ e0
    rw [ha] at hb; cases hb
    have isd : IsD H a := .inl ⟨ks, by
      cases lk with
      | false => exact .inl h1
      | true => exact .inr h1⟩
    obtain ⟨t1, t2, _⟩ := isD_at I isd
    exact ⟨a, rfl, t1, t2⟩
  · rename_i lk kvs e0
    obtain ⟨b, hb, xs, h1, h2, h3, h4, h5⟩ := hr.ob n _ e0
    rw [ha] at hb; cases hb
    have rd : Rd H a (TDO w.W a xs) := by
      cases lk with
      | false => exact .inl h1
      | true => exact .inr h1
    have d := tdo_keyed I C rd h4 h5
    refine ⟨a, rfl, d.typeIs, fun b q => ?_⟩
    cases q
    obtain ⟨o, _, _, q1, q2, _⟩ := d
    exact ⟨o, q1, q2.2.1⟩
  · cases e
theorem me_get2T (C : Cxt w k X) {o e f : Expr} {mo mk md : ME} {apos cpos : Pos} (ho : PE X o (tM w EX mo)) (he : PE X e (tM w EX mk)) (hf : PE X f (tM w EX md)) (m : M2 X o "get" apos e f cpos := by exact ⟨rfl, rfl, rfl, rfl⟩) : PE X (.Call (.Attribute o "get" apos) [e, f] [] cpos) (tM w EX (mGet2T mo mk md)) := by
  have hu := C.units
  refine ⟨fun pins s σ H Q I hh => ?_⟩
  obtain ⟨M, rho, env, h, er, hr, oo⟩ := hh
  refine wpAny_Call_method m.base m.few m.line PySem.F.plainAttrs_dict PySem.F.slot_dict_get PySem.F.type_dict_get (thn (ho.run pins s σ H (fun v H1 => ∃ M1 rho1 h1 x, ER w M1 rho1 H1 env σ ∧ HR w M1 rho1 H1 h1 ∧ VR w M1 rho1 H1 x v ∧ isDicT h1 x = true ∧ Out w EX M1 rho1 H1 ((mk env h1).bind fun k h2 => (md env h2).bind fun d h3 => lookDT h3 x k d) (KV w Q)) I (tM.of er hr (Out.bind oo) fun x h1 M1 rho1 H1 v st1 er1 hr1 o1 rv => ?_)) fun u s1 ⟨x, H1, I1, rx, M1, rho1, h1, px, er1, hr1, rv, hd, o1⟩ => ?_)
  · obtain ⟨hd, o1⟩ := Out.bif o1
    exact ⟨M1, rho1, h1, x, er1, hr1, rv, hd, o1⟩
  · obtain ⟨a, rfl, t1, t2⟩ := isDicT_at C I1 hr1 rv hd
    obtain rfl : u = Value.ref a := rx
    refine ⟨t1, t2, ?_⟩
    rw [m.trees]
    refine Calls.callWith_builtin rfl (Calls.evalArgs_plain (Calls.spliced_cons (thn (he.run pins s1 σ H1 (fun y H2 => ∃ M2 rho2 h2 py, ER w M2 rho2 H2 env σ ∧ HR w M2 rho2 H2 h2 ∧ VR w M2 rho2 H2 px (.ref a) ∧ VR w M2 rho2 H2 py y ∧ Out w EX M2 rho2 H2 ((md env h2).bind fun d h3 => lookDT h3 px py d) (KV w Q)) I1 (tM.of er1 hr1 (Out.bind o1) fun y h2 M2 rho2 H2 yv st2 er2 hr2 o2 ry => ⟨M2, rho2, h2, y, er2, hr2, rv.step st2 hr1, ry, o2⟩)) fun iv s2 ⟨y, H2, I2, riv, M2, rho2, h2, py, er2, hr2, rv2, ry, o2⟩ =>
      Calls.spliced_cons (thn (hf.run pins s2 σ H2 (fun z H3 => ∃ M3 rho3 h3 pz, HR w M3 rho3 H3 h3 ∧ VR w M3 rho3 H3 px (.ref a) ∧ VR w M3 rho3 H3 py y ∧ VR w M3 rho3 H3 pz z ∧ Out w EX M3 rho3 H3 (lookDT h3 px py pz) (KV w Q)) I2 (tM.of er2 hr2 (Out.bind o2) fun z h3 M3 rho3 H3 zv st3 er3 hr3 o3 rz => ⟨M3, rho3, h3, z, hr3, rv2.step st3 hr2, ry.step st3 hr2, rz, o3⟩)) fun fv s3 ⟨z, H3, I3, rfv, M3, rho3, h3, pz, hr3, rv3, ry3, rz, o3⟩ => Calls.spliced_nil ?_))))
    unfold lookDT at o3
    split at o3
    · rename_i n
      cases hk : isKeyT py with
      | false =>
        rw [hk, cond_false] at o3
        obtain ⟨a', ov, ea, g, q⟩ := lookD_ok hr3 rv3 ry3 rz o3
        cases ea
        exact d_get2 (by omega) I3 g riv rfv fun w' s4 I4 rw' => ⟨_, H3, I4, rw', q⟩
      | true =>
        rw [hk, cond_true] at o3
        split at o3
        · rename_i kvs e0
          obtain ⟨nk, b, z1, z2, rfl⟩ := isKeyT_ok hk ry3
          cases rv3 with
          | ref ha =>
            obtain ⟨xs, y1, y2, y3, y4⟩ := ditP_ok I3 C hr3 ha e0
            cases riv
            have key : (nestedKind X.prog X.w).is s3.heap nk b := ⟨ry3.nested I3 C.hK z1 rfl, z2⟩
            refine call_meetsIn F.slot_dict_get y4.typeIs F.entry_dict_get (F.args_dict_get_3 _ _ _) (meetsH_dict_get_default (nestedKind X.prog X.w) a b y1 fv) ⟨nk_room C, nk, xs, key, y4, ?_⟩
            rcases lookT_ok z1 y3 with ⟨e1, e2⟩ | ⟨y, p, v, e1, e2, e3, e4⟩
            · rw [e1] at o3; rw [e2]
              exact ⟨_, H3, I3.tok _, rfv, o3.now hr3 _ rz⟩
            · rw [e1] at o3; rw [e2]
              exact ⟨v, H3, I3.tok _, e3, o3.now hr3 _ e4⟩
        · exact (show False from o3).elim
    · exact (show False from o3).elim
end
end MC

end
section
set_option maxRecDepth 100000
set_option maxHeartbeats 4000000
namespace MC
open PySem PySem.Spec PyProof.Rows L2

def bListT : OC := fun h xs => match xs with
  | [x] => match x with
    | .ref n => match h[n]? with
      | some (.dit _ kvs) => .ok (.ref h.length) (h ++ [.lst (kvs.map (·.1))])
      | _ => bList h xs
    | _ => bList h xs
  | _ => .stuck
section
variable {w : Wo} {EX : XC} {X : Cx} {k : Nat} {M : Addr → Prop} {rho : List Addr} {H : Hp} {h : PH} {pins : List (Addr × Obj)} {σ : L2.St} {s : Shared}
theorem TRs.keys : ∀ {kvs : List (PV × PV)} {xs : List (NestedKey × Addr × Value)}, TRs w M rho H kvs xs → VRs w M rho H (kvs.map (·.1)) (xs.map fun x => V.ref x.2.1)
  | _, _, .nil => .nil
  | _, _, .cons _ _ h3 _ _ h6 => .cons h3 (TRs.keys h6)
theorem vals_keys : ∀ (xs : List (NestedKey × Addr × Value)), Vals (xs.map fun x => V.ref x.2.1) (xs.map fun x => Value.ref x.2.1)
  | [] => .nil
  | x :: xs => .cons rfl (vals_keys xs)
theorem b_listT (C : Cxt w k X) : CallR X (.type "list") (rA w EX bListT) := by
  intro pins s σ H vs us Q I r hh
  have old : rA w EX bList vs H Q → wpAny (model X.prog X.w) X.A (call (.type "list") us) (EP X pins σ Q) X.xe s := fun z => b_list C pins s σ H vs us Q I r z
  obtain ⟨M, rho, h, ps, hr, rs, o⟩ := hh
  unfold bListT at o
  split at o
  · rename_i x
    split at o
    · rename_i n
      split at o
      · rename_i lk kvs e0
        obtain ⟨v, rfl, rv⟩ := vrs1 rs
        obtain ⟨u, rfl, ru⟩ := vals1 r
        cases rv with
        | @ref _ a ha =>
          cases ru
          obtain ⟨b, hb, xs, h1, h2, h3, h4, h5⟩ := hr.ob _ _ e0
          rw [ha] at hb; cases hb
          have rd : Rd H a (TDO w.W a xs) := by
            cases lk with
            | false => exact .inl h1
            | true => exact .inr h1
          obtain ⟨o', es, ep, q1, q2, q3, q4, _⟩ := tdo_keyed I C rd h4 h5
          have sz : es.size = xs.length := size_of_entries q4
          refine PySem.W.kdl_call (KdlSrc.rawDict (d := a) (es := es) (ep := ep) h2) (I.ok.hd C.calm) ⟨o', q1, q2, q3⟩ (by rw [sz]; exact h3) fun h' tk acc c' kk hS hac => ?_
          obtain ⟨asz, aat⟩ := hac
          have ae : acc.toList = xs.map fun x => Value.ref x.2.1 := by
            refine List.ext_getElem? fun i => ?_
            rw [Array.getElem?_toList]
            by_cases hi : i < acc.size
            · rw [Array.getElem?_eq_getElem hi]
              obtain ⟨hj, e⟩ := aat i _ (Array.getElem?_eq_getElem hi)
              have q5 := entry_at q4 i
              rw [Array.getElem?_eq_getElem hj] at q5
              rw [List.getElem?_map]
              cases hx : xs[i]? with
              | none => rw [hx] at q5; cases q5
              | some y =>
                rw [hx] at q5
                have q6 := Option.some.inj q5
                rw [e, q6]
                rfl
            · rw [Array.getElem?_eq_none (by omega), List.getElem?_map, List.getElem?_eq_none (by omega)]
              rfl
          have hn : H s.heap.objs.size = none := I.hok.fresh (Nat.le_refl _)
          have hS' : h'.get? s.heap.objs.size = some { cls := .type "list", data := .seq (xs.map fun x => Value.ref x.2.1).toArray c' } := by
            rw [hS, ← ae]
          have I2 : Inv X pins σ (upd H s.heap.objs.size (.lst (xs.map fun x => V.ref x.2.1))) { s with heap := h', toks := tk } :=
            I.laid kk (Nat.le_refl _) ⟨by rw [List.length_map]; exact h3, _, c', vals_keys xs, hS'⟩
          exact ⟨.ref s.heap.objs.size, _, I2, rfl, KV.lst hr o h5.keys _ hn⟩
      · exact old ⟨M, rho, h, _, hr, rs, o⟩
    · exact old ⟨M, rho, h, _, hr, rs, o⟩
  · exact (show False from o).elim
end
end MC

end
section
set_option maxRecDepth 100000
set_option maxHeartbeats 4000000
namespace MC
open PySem PySem.Spec PyProof.Rows L2

abbrev IsZipF (h : Heap) (z TI TO : Addr) (f0 : Value) (f : Bool) : Prop :=
  h.get? z = some { cls := .type "zip", dict := none, data := .fields #[f0, .bool f, .bool false, .ref TI, .ref TO], slots := #[] }
def ZF (f0 : Value) : Prop := f0 = .none ∨ ∃ T : Nat, f0 = rawInt T
section
variable {prog : Program} {w : World} {A : Around} {E : Value → Shared → Prop} {s : Shared} {z TI TO i1 i2 : Addr} {fp1 fp2 : List Addr} {n1 n2 i : Nat} {P1 P2 : Nat → Value → Prop} {St1 St2 : Nat → Heap → Prop} {a1 a2 f0 : Value} {f : Bool}
theorem free_zip {Q : Bool → Shared → Prop} (hz : IsZipF s.heap z TI TO f0 f) (zf : ZF f0) (h1 : Q true s) (h2 : ∀ h', IsZipF h' z TI TO f0 true → Heap.SameBut z s.heap h' → Q false { s with heap := h' }) :
    wpAny (model prog w) A (Builtin.SmallTypes.ownedTupleIsFree (.ref z)) Q E s := by
  unfold Builtin.SmallTypes.ownedTupleIsFree
  rcases zf with rfl | ⟨T, rfl⟩
  · exact wpAny_bind (wpAny_field hz rfl (x := .none) rfl (wpAny_pure h1))
  · refine wpAny_bind (wpAny_field hz rfl (x := rawInt T) rfl ?_)
    show wpAny _ _ (loadIfAlive ((T : Int).toNat) >>= _) _ _ _
    rw [Int.toNat_natCast]
    refine wpAny_bind (show wpAny _ _ (loadIfAlive T) _ _ _ from fun _ _ _ => ?_)
    show wpAny _ _ _ _ _ _
    cases e : s.heap.get? T with
    | none => exact wpAny_pure h1
    | some o =>
      simp only [Option.isNone_some, Bool.false_eq_true, if_false]
      refine wpAny_bind (wpAny_field hz rfl (x := .bool f) rfl ?_)
      cases f with
      | true =>
        rw [if_neg (show ¬ ((Value.bool true != Value.bool true) = true) from Bool.false_ne_true)]
        exact wpAny_pure (h2 _ hz (Heap.SameBut.refl _ _))
      | false =>
        rw [if_pos (show (Value.bool false != Value.bool true) = true from rfl)]
        exact wpAny_bind (wpAny_setField_rec hz (by simp) fun h' hz' hs' => wpAny_pure (h2 h' hz' hs'))
/-- behind a turn -/
structure ZGo (s : Shared) (z TI TO i1 i2 : Addr) (St1 St2 : Nat → Heap → Prop) (i : Nat) (x1 x2 : Value) (h' : Heap) : Prop where
  zz : ∃ f0 f, ZF f0 ∧ IsZipF h' z TI TO f0 f
  to : ∃ b1 b2, IsTupOf2 h' TO b1 b2
  s1 : St1 (i + 1) h'
  s2 : St2 (i + 1) h'
  new : IsTupOf2 h' s.heap.objs.size x1 x2
  kept : ∀ c o, c ≠ z → c ≠ TO → c ≠ i1 → c ≠ i2 → s.heap.get? c = some o → h'.get? c = some o
theorem zipF_item {Q : Value → Shared → Prop} (S : ZipSep2 z TI TO i1 i2 fp1 fp2) (D1 : Draws prog w A i1 fp1 n1 P1 St1) (D2 : Draws prog w A i2 fp2 n2 P2 St2)
    (hz : IsZipF s.heap z TI TO f0 f) (zf : ZF f0) (hTI : IsTupOf2 s.heap TI (.ref i1) (.ref i2)) (hTO : IsTupOf2 s.heap TO a1 a2) (st1 : St1 i s.heap) (st2 : St2 i s.heap) (hlt1 : i < n1) (hlt2 : i < n2)
    (hQ : ∀ x1 x2 h' tk, P1 i x1 → P2 i x2 → ZGo s z TI TO i1 i2 St1 St2 i x1 x2 h' → Q (.ref s.heap.objs.size) { s with heap := h', toks := tk }) :
    wpAny (model prog w) A (Builtin.«zip.__next__» ⟨[.ref z], []⟩) (fun fin s' => ∃ v, fin = .done (.ret v) ∧ Q v s') E s := by
  obtain ⟨hp, g, d, tk0, os⟩ := s
  show wpAny _ _ (field (.ref z) 2 >>= _) _ _ _
  refine wpAny_bind (wpAny_field hz rfl (x := .bool false) rfl ?_)
  show wpAny _ _ (field (.ref z) 3 >>= _) _ _ _
  refine wpAny_bind (wpAny_field hz rfl (x := .ref TI) rfl ?_)
  refine wpAny_bind (wpAny_seqItems hTI rfl ?_)
  show wpAny _ _ (Builtin.SmallTypes.ownedTupleIsFree (.ref z) >>= _) _ _ _
  refine wpAny_bind (free_zip hz zf ?_ fun h0 hz0 hs0 => ?_)
  · -- the tuple is free
    simp only [if_true]
    refine wpAny_bind (wpAny_rule (wpAny_bind (wpAny_field hz rfl (x := .ref TO) rfl ?_)))
    refine wpAny_bind (wpAny_setField_rec hz (by simp) fun g0 hz0 hs0 => ?_)
    replace hz0 : IsZipF g0 z TI TO .ellipsis f := hz0
    replace hs0 : Heap.SameBut z hp g0 := hs0
    refine wpAny_bind ?_
    simp only [List.zipIdx_cons, List.zipIdx_nil, List.forIn_cons, List.forIn_nil]
    refine wpAny_bind (wpAny_bind (wpAny_onRaise ?_))
    show wpAny _ _ (Builtin.SmallTypes.nextOf (.ref i1) >>= _) _ _ ⟨g0, g, d, tk0, os⟩
    refine wpAny_bind (D1.item i _ _ _ hlt1 (D1.over st1 hs0 S.zf1) fun x1 p1 tk1 hx1 sn1 hp1 => wpAny_pure ?_)
    replace hp1 : Heap.SameBut i1 g0 p1 := hp1
    have u1 : IsTupOf2 p1 TO a1 a2 := hp1.extBut _ _ S.Ti1 (hs0.extBut _ _ S.TOz hTO)
    refine wpAny_bind (wpAny_seqItems (s := ⟨p1, g, d, tk1, os⟩) u1 rfl ?_)
    refine wpAny_bind (updateSeq_IsTupOf2 (s := ⟨p1, g, d, tk1, os⟩) u1 fun g1 hT1 hs1 => ?_)
    replace hT1 : IsTupOf2 g1 TO x1 a2 := hT1
    replace hs1 : Heap.SameBut TO p1 g1 := hs1
    refine wpAny_bind (wpAny_letGo (wpAny_pure ?_))
    refine wpAny_bind (wpAny_bind (wpAny_onRaise ?_))
    show wpAny _ _ (Builtin.SmallTypes.nextOf (.ref i2) >>= _) _ _ ⟨g1, g, d, tk1, os⟩
    refine wpAny_bind (D2.item i _ _ _ hlt2 (D2.over (D2.over (D2.over st2 hs0 S.zf2) hp1 S.sep1_2) hs1 S.Tf2) fun x2 p2 tk2 hx2 sn2 hp2 => wpAny_pure ?_)
    replace hp2 : Heap.SameBut i2 g1 p2 := hp2
    have u2 : IsTupOf2 p2 TO x1 a2 := hp2.extBut _ _ S.Ti2 hT1
    refine wpAny_bind (wpAny_seqItems (s := ⟨p2, g, d, tk2, os⟩) u2 rfl ?_)
    refine wpAny_bind (updateSeq_IsTupOf2 (s := ⟨p2, g, d, tk2, os⟩) u2 fun g2 hT2 hs2 => ?_)
    replace hT2 : IsTupOf2 g2 TO x1 x2 := hT2
    replace hs2 : Heap.SameBut TO p2 g2 := hs2
    refine wpAny_bind (wpAny_letGo (wpAny_pure (wpAny_pure ?_)))
    refine wpAny_bind (wpAny_seqItems (s := ⟨g2, g, d, tk2, os⟩) hT2 rfl (wpAny_bind (wpAny_newTuple ?_)))
    have sz : g2.objs.size = hp.objs.size := by rw [hs2.1, hp2.1, hs1.1, hp1.1, hs0.1]
    have hzz : IsZipF g2 z TI TO .ellipsis f := (hs2.extBut _ _ S.TOz.symm (hp2.extBut _ _ S.zi2 (hs1.extBut _ _ S.TOz.symm (hp1.extBut _ _ S.zi1 hz0))))
    have kk : ∀ c o, c ≠ z → c ≠ TO → c ≠ i1 → c ≠ i2 → hp.get? c = some o → g2.get? c = some o := fun c o cz cT c1 c2 e =>
      (hs2.extBut _ _ cT (hp2.extBut _ _ c2 (hs1.extBut _ _ cT (hp1.extBut _ _ c1 (hs0.extBut _ _ cz e)))))
    have j1 : St1 (i + 1) g2 := (D1.over (D1.over (D1.over sn1 hs1 S.Tf1) hp2 S.sep2_1) hs2 S.Tf1)
    have j2 : St2 (i + 1) g2 := (D2.over sn2 hs2 S.Tf2)
    have zlt : z < g2.objs.size := Heap.lt_size hzz
    show wpAny _ _ (Builtin.SmallTypes.ownedTupleHandOut (.ref z) (.ref g2.objs.size) >>= _) _ _ ⟨g2.push { cls := .type "tuple", data := .seq #[x1, x2] }, g, d, tk2, os⟩
    refine wpAny_bind ?_
    unfold Builtin.SmallTypes.ownedTupleHandOut
    have z6 : IsZipF (g2.push { cls := .type "tuple", data := .seq #[x1, x2] }) z TI TO .ellipsis f := Heap.get?_push_of_some _ hzz
    refine wpAny_bind (wpAny_setField_rec z6 (by simp) fun h7 z7 s7 => ?_)
    replace z7 : IsZipF h7 z TI TO (rawInt g2.objs.size) f := z7
    refine wpAny_setField_rec z7 (by simp) fun h8 z8 s8 => ?_
    replace z8 : IsZipF h8 z TI TO (rawInt g2.objs.size) false := z8
    replace s7 : Heap.SameBut z (g2.push { cls := .type "tuple", data := .seq #[x1, x2] }) h7 := s7
    replace s8 : Heap.SameBut z h7 h8 := s8
    have up : ∀ c o, c ≠ z → g2.get? c = some o → h8.get? c = some o := fun c o c1 e => s8.extBut _ _ c1 (s7.extBut _ _ c1 (Heap.get?_push_of_some _ e))
    have t8 : IsTupOf2 h8 g2.objs.size x1 x2 := s8.extBut _ _ (Nat.ne_of_gt zlt) (s7.extBut _ _ (Nat.ne_of_gt zlt) (Heap.get?_push_size _ rfl))
    refine wpAny_pure ⟨_, rfl, ?_⟩
    show Q (.ref g2.objs.size) ⟨h8, g, d, tk2, os⟩
    rw [sz] at t8 ⊢
    exact hQ x1 x2 h8 tk2 hx1 hx2 ⟨⟨_, _, .inr ⟨_, rfl⟩, z8⟩, ⟨_, _, up _ _ S.TOz hT2⟩, D1.frame _ _ _ j1 fun b hb o e => up b o (fun q => S.zf1 (q ▸ hb)) e, D2.frame _ _ _ j2 fun b hb o e => up b o (fun q => S.zf2 (q ▸ hb)) e, t8, fun c o cz cT c1 c2 e => up c o cz (kk c o cz cT c1 c2 e)⟩
  · -- it is out
    replace hs0 : Heap.SameBut z hp h0 := hs0
    simp only [Bool.false_eq_true, if_false]
    refine wpAny_bind ?_
    rw [← Array.forIn_toList]
    simp only [List.forIn_cons, List.forIn_nil]
    refine wpAny_bind (wpAny_bind (wpAny_holding ?_))
    show wpAny _ _ (Builtin.SmallTypes.nextOf (.ref i1) >>= _) _ _ ⟨h0, g, d, tk0, os⟩
    refine wpAny_bind (D1.item i _ _ _ hlt1 (D1.over st1 hs0 S.zf1) fun x1 p1 tk1 hx1 sn1 hp1 => wpAny_pure ?_)
    replace hp1 : Heap.SameBut i1 h0 p1 := hp1
    refine wpAny_pure ?_
    refine wpAny_bind (wpAny_bind (wpAny_holding ?_))
    show wpAny _ _ (Builtin.SmallTypes.nextOf (.ref i2) >>= _) _ _ ⟨p1, g, d, tk1, os⟩
    refine wpAny_bind (D2.item i _ _ _ hlt2 (D2.over (D2.over st2 hs0 S.zf2) hp1 S.sep1_2) fun x2 p2 tk2 hx2 sn2 hp2 => wpAny_pure ?_)
    replace hp2 : Heap.SameBut i2 p1 p2 := hp2
    refine wpAny_pure (wpAny_pure ?_)
    refine wpAny_bind (wpAny_newTuple (hsz := by show 2 ≤ sizeLine; decide) ?_)
    have sz : p2.objs.size = hp.objs.size := by rw [hp2.1, hp1.1, hs0.1]
    have hzz : IsZipF p2 z TI TO f0 true := hp2.extBut _ _ S.zi2 (hp1.extBut _ _ S.zi1 hz0)
    have kk : ∀ c o, c ≠ z → c ≠ i1 → c ≠ i2 → hp.get? c = some o → p2.get? c = some o := fun c o cz c1 c2 e => hp2.extBut _ _ c2 (hp1.extBut _ _ c1 (hs0.extBut _ _ cz e))
    refine wpAny_pure ⟨_, rfl, ?_⟩
    show Q (.ref p2.objs.size) ⟨p2.push { cls := .type "tuple", data := .seq #[x1, x2] }, g, d, tk2, os⟩
    have t8 : IsTupOf2 (p2.push { cls := .type "tuple", data := .seq #[x1, x2] }) p2.objs.size x1 x2 := Heap.get?_push_size _ rfl
    rw [sz] at t8 ⊢
    exact hQ x1 x2 _ tk2 hx1 hx2 ⟨⟨_, _, zf, Heap.get?_push_of_some _ hzz⟩, ⟨_, _, Heap.get?_push_of_some _ (kk _ _ S.TOz S.Ti1 S.Ti2 hTO)⟩, D1.frame _ _ _ (D1.over sn1 hp2 S.sep2_1) fun b hb o e => Heap.get?_push_of_some _ e, D2.frame _ _ _ sn2 fun b hb o e => Heap.get?_push_of_some _ e, t8, fun c o cz cT c1 c2 e => Heap.get?_push_of_some _ (kk c o cz c1 c2 e)⟩
theorem zipF_end {Q : Fin → Shared → Prop} (S : ZipSep2 z TI TO i1 i2 fp1 fp2) (D1 : Draws prog w A i1 fp1 n1 P1 St1) (D2 : Draws prog w A i2 fp2 n2 P2 St2)
    (hz : IsZipF s.heap z TI TO f0 f) (zf : ZF f0) (hTI : IsTupOf2 s.heap TI (.ref i1) (.ref i2)) (hTO : IsTupOf2 s.heap TO a1 a2) (st1 : St1 i s.heap) (st2 : St2 i s.heap) (hle1 : i ≤ n1) (hle2 : i ≤ n2) (hend : i = n1 ∨ i = n2)
    (hE : ∀ h' tk e, (∀ c o, c ≠ z → c ≠ TO → c ≠ i1 → c ≠ i2 → s.heap.get? c = some o → h'.get? c = some o) → (∃ o, h'.get? e = some o ∧ o.cls = .type "StopIteration") → E (.ref e) { s with heap := h', toks := tk }) :
    wpAny (model prog w) A (Builtin.«zip.__next__» ⟨[.ref z], []⟩) Q E s := by
  obtain ⟨hp, g, d, tk0, os⟩ := s
  show wpAny _ _ (field (.ref z) 2 >>= _) _ _ _
  refine wpAny_bind (wpAny_field hz rfl (x := .bool false) rfl ?_)
  show wpAny _ _ (field (.ref z) 3 >>= _) _ _ _
  refine wpAny_bind (wpAny_field hz rfl (x := .ref TI) rfl ?_)
  refine wpAny_bind (wpAny_seqItems hTI rfl ?_)
  show wpAny _ _ (Builtin.SmallTypes.ownedTupleIsFree (.ref z) >>= _) _ _ _
  refine wpAny_bind (free_zip hz zf ?_ fun h0 hz0 hs0 => ?_)
  · simp only [if_true]
    refine wpAny_bind (wpAny_rule (wpAny_bind (wpAny_field hz rfl (x := .ref TO) rfl ?_)))
    refine wpAny_bind (wpAny_setField_rec hz (by simp) fun g0 hz0 hs0 => ?_)
    replace hz0 : IsZipF g0 z TI TO .ellipsis f := hz0
    replace hs0 : Heap.SameBut z hp g0 := hs0
    refine wpAny_bind ?_
    simp only [List.zipIdx_cons, List.zipIdx_nil, List.forIn_cons, List.forIn_nil]
    refine wpAny_bind (wpAny_bind (wpAny_onRaise ?_))
    show wpAny _ _ (Builtin.SmallTypes.nextOf (.ref i1) >>= _) _ _ ⟨g0, g, d, tk0, os⟩
    by_cases hlt1 : i < n1
    · refine wpAny_bind (D1.item i _ _ _ hlt1 (D1.over st1 hs0 S.zf1) fun x1 p1 tk1 hx1 sn1 hp1 => wpAny_pure ?_)
      replace hp1 : Heap.SameBut i1 g0 p1 := hp1
      have u1 : IsTupOf2 p1 TO a1 a2 := hp1.extBut _ _ S.Ti1 (hs0.extBut _ _ S.TOz hTO)
      refine wpAny_bind (wpAny_seqItems (s := ⟨p1, g, d, tk1, os⟩) u1 rfl ?_)
      refine wpAny_bind (updateSeq_IsTupOf2 (s := ⟨p1, g, d, tk1, os⟩) u1 fun g1 hT1 hs1 => ?_)
      replace hT1 : IsTupOf2 g1 TO x1 a2 := hT1
      replace hs1 : Heap.SameBut TO p1 g1 := hs1
      refine wpAny_bind (wpAny_letGo (wpAny_pure ?_))
      have e2 : i = n2 := by omega
      refine wpAny_bind (wpAny_bind (wpAny_onRaise ?_))
      show wpAny _ _ (Builtin.SmallTypes.nextOf (.ref i2) >>= _) _ _ ⟨g1, g, d, tk1, os⟩
      refine wpAny_bind (D2.done ⟨g1, g, d, tk1, os⟩ _ _ (by rw [← e2]; exact (D2.over (D2.over (D2.over st2 hs0 S.zf2) hp1 S.sep1_2) hs1 S.Tf2)) fun q e hq he => ?_)
      replace hq : Heap.ExtBut i2 g1 q := hq
      obtain ⟨oe, hoe, hce⟩ := he
      replace hoe : q.get? e = some oe := hoe
      have zq : IsZipF q z TI TO .ellipsis f := hq _ _ S.zi2 (hs1.extBut _ _ S.TOz.symm (hp1.extBut _ _ S.zi1 hz0))
      have ez : e ≠ z := fun x => by subst x; rw [zq] at hoe; cases hoe; simp at hce
      refine wpAny_setField_rec (s := ⟨q, g, d, tk1, os⟩) zq (by simp) fun q' _ hq' => ?_
      replace hq' : Heap.SameBut z q q' := hq'
      exact hE q' tk1 e (fun c o cz cT c1 c2 x => hq'.extBut _ _ cz (hq _ _ c2 (hs1.extBut _ _ cT (hp1.extBut _ _ c1 (hs0.extBut _ _ cz x))))) ⟨oe, hq'.extBut _ _ ez hoe, hce⟩
    · have e1 : i = n1 := by omega
      refine wpAny_bind (D1.done ⟨g0, g, d, tk0, os⟩ _ _ (by rw [← e1]; exact (D1.over st1 hs0 S.zf1)) fun q e hq he => ?_)
      replace hq : Heap.ExtBut i1 g0 q := hq
      obtain ⟨oe, hoe, hce⟩ := he
      replace hoe : q.get? e = some oe := hoe
      have zq : IsZipF q z TI TO .ellipsis f := hq _ _ S.zi1 hz0
      have ez : e ≠ z := fun x => by subst x; rw [zq] at hoe; cases hoe; simp at hce
      refine wpAny_setField_rec (s := ⟨q, g, d, tk0, os⟩) zq (by simp) fun q' _ hq' => ?_
      replace hq' : Heap.SameBut z q q' := hq'
      exact hE q' tk0 e (fun c o cz cT c1 c2 x => hq'.extBut _ _ cz (hq _ _ c1 (hs0.extBut _ _ cz x))) ⟨oe, hq'.extBut _ _ ez hoe, hce⟩
  · replace hs0 : Heap.SameBut z hp h0 := hs0
    simp only [Bool.false_eq_true, if_false]
    refine wpAny_bind ?_
    rw [← Array.forIn_toList]
    simp only [List.forIn_cons, List.forIn_nil]
    refine wpAny_bind (wpAny_bind (wpAny_holding ?_))
    show wpAny _ _ (Builtin.SmallTypes.nextOf (.ref i1) >>= _) _ _ ⟨h0, g, d, tk0, os⟩
    by_cases hlt1 : i < n1
    · refine wpAny_bind (D1.item i _ _ _ hlt1 (D1.over st1 hs0 S.zf1) fun x1 p1 tk1 hx1 sn1 hp1 => wpAny_pure ?_)
      replace hp1 : Heap.SameBut i1 h0 p1 := hp1
      have e2 : i = n2 := by omega
      refine wpAny_pure ?_
      refine wpAny_bind (wpAny_bind (wpAny_holding ?_))
      show wpAny _ _ (Builtin.SmallTypes.nextOf (.ref i2) >>= _) _ _ ⟨p1, g, d, tk1, os⟩
      refine wpAny_bind (D2.done ⟨p1, g, d, tk1, os⟩ _ _ (by rw [← e2]; exact (D2.over (D2.over st2 hs0 S.zf2) hp1 S.sep1_2)) fun q e hq he => ?_)
      replace hq : Heap.ExtBut i2 p1 q := hq
      exact hE q tk1 e (fun c o cz cT c1 c2 x => hq _ _ c2 (hp1.extBut _ _ c1 (hs0.extBut _ _ cz x))) he
    · have e1 : i = n1 := by omega
      refine wpAny_bind (D1.done ⟨h0, g, d, tk0, os⟩ _ _ (by rw [← e1]; exact (D1.over st1 hs0 S.zf1)) fun q e hq he => ?_)
      replace hq : Heap.ExtBut i1 h0 q := hq
      exact hE q tk0 e (fun c o cz cT c1 c2 x => hq _ _ c1 (hs0.extBut _ _ cz x)) he
end
/-- pairs of signs, each a new tuple -/
def Itzs (x y : Str) : It :=
  ⟨fun i _ => i < x.cps.size ∧ i < y.cps.size, fun i H v H' => ∃ T c e, v = .ref T ∧ H T = none ∧ x.cps[i]? = some c ∧ y.cps[i]? = some e ∧ H' = upd H T (.tup [.str ⟨#[c]⟩, .str ⟨#[e]⟩]), fun i _ => i ≤ x.cps.size ∧ i ≤ y.cps.size ∧ (i = x.cps.size ∨ i = y.cps.size)⟩
def ZTn (z TI TO i1 i2 : Addr) (x y : Str) (t u : Tok) (i : Nat) (h : Heap) : Prop :=
  (∃ f0 f, ZF f0 ∧ IsZipF h z TI TO f0 f) ∧ IsTupOf2 h TI (.ref i1) (.ref i2) ∧ (∃ a1 a2, IsTupOf2 h TO a1 a2) ∧ h.IsStrIter i1 (strIterType x) x t i ∧ h.IsStrIter i2 (strIterType y) y u i
section
variable {P : Program} {w : World} {K : PySem.W.Frag} {z TI TO i1 i2 : Addr} {x y : Str} {t u : Tok} {nm : Str} {tpos : Pos}
theorem turn_zipS (S : ZipSep2 z TI TO i1 i2 [i1] [i2]) : Turn P w K (.Name nm tpos) (Itzs x y) [z, TI, TO, i1, i2] z (ZTn z TI TO i1 i2 x y t u) where
  mem := by simp
  obj := fun i h st b hb => by
    obtain ⟨⟨f0, f, _, hz⟩, hTI, ⟨a1, a2, hTO⟩, ⟨o1, e1, c1, d1⟩, ⟨o2, e2, c2, d2⟩⟩ := st
    have q : b = z ∨ b = TI ∨ b = TO ∨ b = i1 ∨ b = i2 := by simpa using hb
    rcases q with rfl | rfl | rfl | rfl | rfl
    · exact ⟨_, hz, fun v r => nomatch r⟩
    · exact ⟨_, hTI, fun v r => nomatch r⟩
    · exact ⟨_, hTO, fun v r => nomatch r⟩
    · exact ⟨_, e1, fun v r => by rw [d1] at r; cases r⟩
    · exact ⟨_, e2, fun v r => by rw [d2] at r; cases r⟩
  keep := fun i h h' st k => by
    obtain ⟨⟨f0, f, zf, hz⟩, hTI, ⟨a1, a2, hTO⟩, ⟨o1, e1, r1⟩, ⟨o2, e2, r2⟩⟩ := st
    exact ⟨⟨f0, f, zf, k z (by simp) _ hz⟩, k TI (by simp) _ hTI, ⟨a1, a2, k TO (by simp) _ hTO⟩, ⟨o1, k i1 (by simp) _ e1, r1⟩, ⟨o2, k i2 (by simp) _ e2, r2⟩⟩
  item := by
    intro X hP hw hK hc i pins s σ H E I hf st hg
    subst hP hw hK
    obtain ⟨⟨f0, f, zf, hz⟩, hTI, ⟨a1, a2, hTO⟩, st1, st2⟩ := st
    obtain ⟨g1, g2⟩ := hg
    have hT : s.TypeIs (.ref z) "zip" := ⟨_, hz, rfl⟩
    have hh : X.A.in1.handled = none := by simp [I.ok.hd hc]
    have lt : ∀ {c o}, s.heap.get? c = some o → s.heap.objs.size ≠ c := fun e => Nat.ne_of_gt (Heap.lt_size e)
    unfold pyNext
    refine wpAny_bind (wpAny_attempt (wpAny_callSpecial?_slot (name := Str.ofString "__next__") hT F.slot_zip_next (wpAny_call_entry F.slot_zip_next hT F.entry_zip_next
      (zipF_item S (Draws.text hh i1 x t) (Draws.text hh i2 y u) hz zf hTI hTO st1 st2 g1 g2 fun x1 x2 h' tk y1 y2 go => wpAny_pure ?_) (F.args_zip_next_1 _))))
    obtain ⟨c, uc, e1, rfl⟩ := y1
    obtain ⟨e, ue, e2, rfl⟩ := y2
    refine ⟨_, rfl, wpAny_pure ?_⟩
    have l1 : s.heap.objs.size ≠ i1 := by obtain ⟨_, q, _⟩ := st1; exact lt q
    have l2 : s.heap.objs.size ≠ i2 := by obtain ⟨_, q, _⟩ := st2; exact lt q
    have new : ObjOk X.prog X.w (upd H s.heap.objs.size (.tup [.str ⟨#[c]⟩, .str ⟨#[e]⟩])) h' s.heap.objs.size (.tup [.str ⟨#[c]⟩, .str ⟨#[e]⟩]) :=
      ⟨by show 2 ≤ sizeLine; decide, _, .cons ⟨uc, rfl⟩ (.cons ⟨ue, rfl⟩ .nil), ⟨_, go.new, rfl, _, rfl⟩⟩
    have I1 : Inv X pins σ (upd H s.heap.objs.size (.tup [.str ⟨#[c]⟩, .str ⟨#[e]⟩])) { s with heap := h', toks := tk } :=
      I.turnedNew (ch := [z, TI, TO, i1, i2]) (fun b ob hb q => go.kept b ob (fun r => hb (by simp [r])) (fun r => hb (by simp [r])) (fun r => hb (by simp [r])) (fun r => hb (by simp [r])) q) hf (Nat.le_refl _) new
    refine ⟨.ref s.heap.objs.size, _, I1, rfl, ⟨_, c, e, rfl, I.hok.fresh (Nat.le_refl _), e1, e2, rfl⟩, ⟨go.zz, go.kept _ _ S.TIz S.TITO S.TIi1 S.TIi2 hTI, go.to, go.s1, go.s2⟩, fun b hb => ?_⟩
    have hl : b < s.heap.objs.size := by
      have q : b = z ∨ b = TI ∨ b = TO ∨ b = i1 ∨ b = i2 := by simpa using hb
      rcases q with rfl | rfl | rfl | rfl | rfl
      · exact Heap.lt_size hz
      · exact Heap.lt_size hTI
      · exact Heap.lt_size hTO
      · obtain ⟨_, q, _⟩ := st1; exact Heap.lt_size q
      · obtain ⟨_, q, _⟩ := st2; exact Heap.lt_size q
    rw [upd_ne (Nat.ne_of_lt hl)]
    exact (hf b hb).1
  done := by
    intro X hP hw hK hc i pins s σ H E I hf st hg
    subst hP hw hK
    obtain ⟨⟨f0, f, zf, hz⟩, hTI, ⟨a1, a2, hTO⟩, st1, st2⟩ := st
    obtain ⟨g1, g2, g3⟩ := hg
    have hT : s.TypeIs (.ref z) "zip" := ⟨_, hz, rfl⟩
    have hh : X.A.in1.handled = none := by simp [I.ok.hd hc]
    unfold pyNext
    refine wpAny_bind (wpAny_attempt (wpAny_callSpecial?_slot (name := Str.ofString "__next__") hT F.slot_zip_next (wpAny_call_entry F.slot_zip_next hT F.entry_zip_next
      (zipF_end S (Draws.text hh i1 x t) (Draws.text hh i2 y u) hz zf hTI hTO st1 st2 g1 g2 g3 fun h' tk e hk he => ?_) (F.args_zip_next_1 _))))
    obtain ⟨o, ho, hc⟩ := he
    refine wpAny_bind (wpAny_isInstance (T := "StopIteration") (b := true) ⟨o, ho, hc⟩ isSubtype_stop ?_)
    exact wpAny_pure ⟨rfl, I.turnedL (ch := [z, TI, TO, i1, i2]) (fun b ob hb q => hk b ob (fun r => hb (by simp [r])) (fun r => hb (by simp [r])) (fun r => hb (by simp [r])) (fun r => hb (by simp [r])) q) hf⟩
  self := fun A i s Q E st h => by
    obtain ⟨⟨f0, f, zf, hz⟩, _⟩ := st
    have hT : s.TypeIs (.ref z) "zip" := ⟨_, hz, rfl⟩
    refine wpAny_pyIter_slot hT F.slot_zip_iter (wpAny_call_entry F.slot_zip_iter hT F.entry_zip_iter ?_ (F.args_zip_iter_1 _))
    show wpAny _ _ (ret (.ref z)) _ _ s
    exact wpAny_pure ⟨_, rfl, "zip", _, hT, F.slot_zip_next.lookup, h⟩
end
def pairsS : List Nat → List Nat → List PV
  | a :: as, b :: bs => .tup [.str [a], .str [b]] :: pairsS as bs
  | _, _ => []
theorem pairsS_len : ∀ a b : List Nat, (pairsS a b).length = min a.length b.length
  | [], b => by simp [pairsS]
  | a :: as, [] => by simp [pairsS]
  | a :: as, b :: bs => by
    show (pairsS as bs).length + 1 = _
    rw [pairsS_len as bs]
    simp only [List.length_cons]
    omega
theorem pairsS_get : ∀ (a b : List Nat) (i : Nat) (c e : Nat), a[i]? = some c → b[i]? = some e → (pairsS a b)[i]? = some (.tup [.str [c], .str [e]])
  | [], _, i, _, _, h, _ => by simp at h
  | _ :: _, [], i, _, _, _, h => by simp at h
  | a :: as, b :: bs, 0, c, e, h1, h2 => by
    simp at h1 h2
    subst h1; subst h2
    rfl
  | a :: as, b :: bs, i + 1, c, e, h1, h2 => by
    simpa [pairsS] using pairsS_get as bs i c e (by simpa using h1) (by simpa using h2)
def miZipS (ma : MA) : MI := fun env h => (ma env h).bind fun xs h1 => match xs with
  | [.str a, .str b] => .ok (pairsS a b, []) h1
  | _ => .stuck
section
variable {w : Wo} {EX : XC} {X : Cx} {k : Nat} {M : Addr → Prop} {rho : List Addr} {H : Hp} {h : PH}
theorem gives_zipS (a b : List Nat) : Gives w M rho H (pairsS a b) [] (Itzs (S a) (S b)) := by
  refine ⟨fun {M1 rho1 H1 h1} st hr hw i => ?_⟩
  have ea : (S a).cps.size = a.length := by simp [S]
  have eb : (S b).cps.size = b.length := by simp [S]
  rw [pairsS_len]
  refine ⟨fun hi => ⟨by rw [ea]; omega, by rw [eb]; omega⟩, fun hi => ⟨by rw [ea]; omega, by rw [eb]; omega, by rw [ea, eb]; omega⟩, fun v H' hi y => ?_⟩
  obtain ⟨T, c, e, rfl, hn, e1, e2, rfl⟩ := y
  have e1' : a[i]? = some c := by simpa [S] using e1
  have e2' : b[i]? = some e := by simpa [S] using e2
  exact ⟨same_upd hn, _, pairsS_get a b i c e e1' e2', .tup (SqT.of upd_same) (.cons (.str [c]) (.cons (.str [e]) .nil))⟩
theorem mi_zipS (C : Cxt w k X) {e e2 : Expr} {ma : MA} {p pos tpos : Pos} {nm : Str} (hg : Gl X "zip") (hm : X.mg "zip" = none) (ha : PA X [e, e2] (tA w EX ma))
    (hs : starEach [e, e2] X.env = (false, eval e X.env) :: starEach [e2] X.env := by rfl) (hpl : (backTo pos (starEach [e2] X.env)).any (·.1) = false := by rfl) :
    PI X (.Name nm tpos) (.Call (.Name "zip" p) [e, e2] [] pos) (tI w EX (miZipS ma)) := by
  refine ⟨fun pins s σ H R I h => ?_⟩
  obtain ⟨M, rho, env, hh, er, hr, oo⟩ := h
  refine Call_ (ld_blt I hg hm PyProof.Rows.boot_zip (PyProof.Rows.callWith_type1 (thn (ha.run pos pins s σ H (fun vs H1 => ∃ M1 rho1 h1 a b, HR w M1 rho1 H1 h1 ∧ vs = [.str (S a), .str (S b)] ∧ KI w R (pairsS a b, []) h1 M1 rho1 H1) I (tA.of er hr (Out.bind oo) fun xs h1 M1 rho1 H1 vs st1 er1 hr1 o1 rs => ?_)) fun us s1 ⟨vs, H1, I1, r1, M1, rho1, h1, a, b, hr1, ev, q⟩ => ?_) hs hpl))
  · split at o1
    · rename_i a b
      cases rs with
      | cons r1 r2 => cases r2 with
        | cons r2 r3 =>
          cases r3; cases r1; cases r2
          exact ⟨M1, rho1, h1, a, b, hr1, rfl, o1.now hr1⟩
    · exact (show False from o1).elim
  · subst ev
    cases r1 with
    | cons r rr =>
      cases rr with
      | cons r' rr =>
        cases rr
        obtain ⟨t, rfl⟩ := r
        obtain ⟨u, rfl⟩ := r'
        have fr : ∀ c, s1.heap.objs.size ≤ c → FpOk X pins H1 c := fun c hc => I1.fpOk hc (I1.hok.fresh hc)
        refine zip_begins2 (begins_text (S a) t) (begins_text (S b) u) trivial trivial fun h' hz hTI hTO g1 g2 hsz hk => wpAny_pyIter_zip hz ?_
        have I2 : Inv X pins σ H1 { s1 with heap := h' } := I1.kept (t' := s1.toks) hk
        refine ⟨_, [s1.heap.objs.size + 4, s1.heap.objs.size + 2, s1.heap.objs.size + 3, s1.heap.objs.size, s1.heap.objs.size + 1], ZTn (s1.heap.objs.size + 4) (s1.heap.objs.size + 2) (s1.heap.objs.size + 3) s1.heap.objs.size (s1.heap.objs.size + 1) (S a) (S b) t u, Itzs (S a) (S b), H1, rfl, I2, turn_zipS ?_, ⟨⟨.none, false, .inl rfl, hz⟩, hTI, ⟨_, _, hTO⟩, ⟨_, g1, rfl, rfl⟩, ⟨_, g2, rfl, rfl⟩⟩, fun c hc => ?_, q _ (gives_zipS a b)⟩
        · constructor <;> first | omega | simp
        · have e' : c = s1.heap.objs.size + 4 ∨ c = s1.heap.objs.size + 2 ∨ c = s1.heap.objs.size + 3 ∨ c = s1.heap.objs.size ∨ c = s1.heap.objs.size + 1 := by simpa using hc
          refine fr c ?_
          rcases e' with q | q | q | q | q <;> rw [q] <;> first | exact Nat.le_add_right _ _ | exact Nat.le_refl _
end
def mIfT (t a b : MT) : MT := fun env h => (t env h).bind fun q h1 => bif q then a env h1 else b env h1
theorem mt_ifT {w : Wo} {EX : XC} {X : Cx} {c a b : Expr} {t ta tb : MT} {pos : Pos} (hc : PT X c (tT w EX t)) (ha : PT X a (tT w EX ta)) (hb : PT X b (tT w EX tb)) : PT X (.IfExp c a b pos) (tT w EX (mIfT t ta tb)) := by
  refine ⟨fun pins s σ H Q I hh => ?_⟩
  obtain ⟨M, rho, env, h, er, hr, o⟩ := hh
  refine PyProof.Rows.isTrue_IfExp (thn (hc.run pins s σ H (fun q H1 => if q = true then tT w EX ta σ H1 Q else tT w EX tb σ H1 Q) I (tT.of er hr (Out.bind o) fun x h1 M1 rho1 H1 st1 er1 hr1 o1 => ?_)) fun q s1 hq => ?_)
  · cases x with
    | true => exact iteT ⟨M1, rho1, env, h1, er1, hr1, o1⟩
    | false => exact iteF ⟨M1, rho1, env, h1, er1, hr1, o1⟩
  · obtain ⟨H1, I1, q1⟩ := hq
    cases q with
    | true =>
      rw [if_pos rfl] at q1 ⊢
      exact ha.run pins s1 σ H1 Q I1 q1
    | false =>
      rw [if_neg (by decide)] at q1 ⊢
      exact hb.run pins s1 σ H1 Q I1 q1
end MC

end
section
set_option maxRecDepth 100000
namespace MM
open PySem L2 MC
def rowsS : List (List Nat × PV) := [([97, 103, 114, 101, 101], .tup [.int 4, .gl 1]), ([100, 105, 102, 102, 101, 114], .tup [.int 4, .gl 2]), ([115, 97, 109, 101], .tup [.int 3, .gl 3]), ([97, 112, 97, 114, 116], .tup [.int 3, .gl 4]), ([108, 101, 110, 103, 116, 104, 115], .tup [.int 4, .gl 5]), ([114, 101, 97, 100, 97, 98, 108, 101], .tup [.int 3, .gl 6]), ([99, 108, 97, 115, 104], .tup [.int 3, .gl 7]), ([99, 111, 117, 110, 116], .tup [.int 4, .gl 8])]
def cs_letters : List Nat := [0]
def cs_arrows : List Nat := [0, 6]
def cs_ends : List Nat := [0, 6]
def cs_machine : List Nat := [1, 3]
def cs_book : List Nat := [1, 3, 6]
def cs_second : List Nat := [1, 3]
def cs_agreed : List Nat := [1, 3]
def cs_past : List Nat := [1, 3]
def cs_before : List Nat := [3]
def cs_busy : List Nat := [1]
def cs_owner : List Nat := [4, 5]
def cs_kept : List Nat := [4, 5]
def cs_desk : List Nat := [2]
def cs_stands : List Nat := [6]
def cs_paths : List Nat := [7]
def cs_signs : List Nat := [7]
def cs_begins : List Nat := [7]
def cs_after : List Nat := [7]
def cs_value : List Nat := [11, 12, 13, 14, 15, 16, 17, 18]
def cs_index : List Nat := [19, 20, 21, 22, 23]
def cs_limit : List Nat := [26]
def tb_bool : List (Nat × Bool) := [(0, false), (1, true), (2, false), (3, false), (4, false), (5, false), (6, false)]
def cs_isi_bool : List (Nat × Bool) := [(0, false), (1, false), (2, false), (3, false), (4, false), (5, false), (6, false), (7, false)]
def tb_int : List (Nat × Bool) := [(0, false), (1, true), (2, true), (3, false), (4, false), (5, false), (6, false)]
def cs_isi_int : List (Nat × Bool) := [(0, false), (1, false), (2, false), (3, false), (4, false), (5, false), (6, false), (7, false)]
def tb_str : List (Nat × Bool) := [(0, false), (1, false), (2, false), (3, true), (4, false), (5, false), (6, false)]
def cs_isi_str : List (Nat × Bool) := [(0, false), (1, false), (2, false), (3, false), (4, false), (5, false), (6, false), (7, false)]
def tb_tuple : List (Nat × Bool) := [(0, false), (1, false), (2, false), (3, false), (4, true), (5, false), (6, false)]
def cs_isi_tuple : List (Nat × Bool) := [(0, false), (1, false), (2, false), (3, false), (4, false), (5, false), (6, false), (7, false)]
def tb_list : List (Nat × Bool) := [(0, false), (1, false), (2, false), (3, false), (4, false), (5, true), (6, false)]
def cs_isi_list : List (Nat × Bool) := [(0, false), (1, false), (2, false), (3, false), (4, false), (5, false), (6, false), (7, false)]
def tb_dict : List (Nat × Bool) := [(0, false), (1, false), (2, false), (3, false), (4, false), (5, false), (6, true)]
def cs_isi_dict : List (Nat × Bool) := [(0, false), (1, false), (2, false), (3, false), (4, false), (5, false), (6, false), (7, false)]
def tb_Machine : List (Nat × Bool) := [(0, false), (1, false), (2, false), (3, false), (4, false), (5, false), (6, false)]
def cs_isi_Machine : List (Nat × Bool) := [(0, true), (1, false), (2, false), (3, false), (4, false), (5, false), (6, false), (7, false)]
def tb_Desk : List (Nat × Bool) := [(0, false), (1, false), (2, false), (3, false), (4, false), (5, false), (6, false)]
def cs_isi_Desk : List (Nat × Bool) := [(0, false), (1, true), (2, false), (3, false), (4, false), (5, false), (6, false), (7, false)]
def tb_Console : List (Nat × Bool) := [(0, false), (1, false), (2, false), (3, false), (4, false), (5, false), (6, false)]
def cs_isi_Console : List (Nat × Bool) := [(0, false), (1, false), (2, true), (3, false), (4, false), (5, false), (6, false), (7, false)]
def tb_Kept : List (Nat × Bool) := [(0, false), (1, false), (2, false), (3, false), (4, false), (5, false), (6, false)]
def cs_isi_Kept : List (Nat × Bool) := [(0, false), (1, false), (2, false), (3, true), (4, false), (5, false), (6, false), (7, false)]
def tb_Trial : List (Nat × Bool) := [(0, false), (1, false), (2, false), (3, false), (4, false), (5, false), (6, false)]
def cs_isi_Trial : List (Nat × Bool) := [(0, false), (1, false), (2, false), (3, false), (4, true), (5, false), (6, false), (7, false)]
def tb_Run : List (Nat × Bool) := [(0, false), (1, false), (2, false), (3, false), (4, false), (5, false), (6, false)]
def cs_isi_Run : List (Nat × Bool) := [(0, false), (1, false), (2, false), (3, false), (4, false), (5, true), (6, false), (7, false)]
def tb_Paths : List (Nat × Bool) := [(0, false), (1, false), (2, false), (3, false), (4, false), (5, false), (6, false)]
def cs_isi_Paths : List (Nat × Bool) := [(0, false), (1, false), (2, false), (3, false), (4, false), (5, false), (6, true), (7, false)]
def tb_Readings : List (Nat × Bool) := [(0, false), (1, false), (2, false), (3, false), (4, false), (5, false), (6, false)]
def cs_isi_Readings : List (Nat × Bool) := [(0, false), (1, false), (2, false), (3, false), (4, false), (5, false), (6, false), (7, true)]
def tb_InputError : List (Nat × Bool) := [(0, false), (1, false), (2, false), (3, false), (4, false), (5, false), (6, false)]
def cs_isi_InputError : List (Nat × Bool) := [(0, false), (1, false), (2, false), (3, false), (4, false), (5, false), (6, false), (7, false)]
def tb_StateError : List (Nat × Bool) := [(0, false), (1, false), (2, false), (3, false), (4, false), (5, false), (6, false)]
def cs_isi_StateError : List (Nat × Bool) := [(0, false), (1, false), (2, false), (3, false), (4, false), (5, false), (6, false), (7, false)]
def tb_SizeError : List (Nat × Bool) := [(0, false), (1, false), (2, false), (3, false), (4, false), (5, false), (6, false)]
def cs_isi_SizeError : List (Nat × Bool) := [(0, false), (1, false), (2, false), (3, false), (4, false), (5, false), (6, false), (7, false)]
def tb_NotAMachine : List (Nat × Bool) := [(0, false), (1, false), (2, false), (3, false), (4, false), (5, false), (6, false)]
def cs_isi_NotAMachine : List (Nat × Bool) := [(0, false), (1, false), (2, false), (3, false), (4, false), (5, false), (6, false), (7, false)]
def tb_NotADesk : List (Nat × Bool) := [(0, false), (1, false), (2, false), (3, false), (4, false), (5, false), (6, false)]
def cs_isi_NotADesk : List (Nat × Bool) := [(0, false), (1, false), (2, false), (3, false), (4, false), (5, false), (6, false), (7, false)]
def tb_InvalidText : List (Nat × Bool) := [(0, false), (1, false), (2, false), (3, false), (4, false), (5, false), (6, false)]
def cs_isi_InvalidText : List (Nat × Bool) := [(0, false), (1, false), (2, false), (3, false), (4, false), (5, false), (6, false), (7, false)]
def tb_InvalidCount : List (Nat × Bool) := [(0, false), (1, false), (2, false), (3, false), (4, false), (5, false), (6, false)]
def cs_isi_InvalidCount : List (Nat × Bool) := [(0, false), (1, false), (2, false), (3, false), (4, false), (5, false), (6, false), (7, false)]
def tb_InvalidLetter : List (Nat × Bool) := [(0, false), (1, false), (2, false), (3, false), (4, false), (5, false), (6, false)]
def cs_isi_InvalidLetter : List (Nat × Bool) := [(0, false), (1, false), (2, false), (3, false), (4, false), (5, false), (6, false), (7, false)]
def tb_InvalidStand : List (Nat × Bool) := [(0, false), (1, false), (2, false), (3, false), (4, false), (5, false), (6, false)]
def cs_isi_InvalidStand : List (Nat × Bool) := [(0, false), (1, false), (2, false), (3, false), (4, false), (5, false), (6, false), (7, false)]
def tb_InvalidWord : List (Nat × Bool) := [(0, false), (1, false), (2, false), (3, false), (4, false), (5, false), (6, false)]
def cs_isi_InvalidWord : List (Nat × Bool) := [(0, false), (1, false), (2, false), (3, false), (4, false), (5, false), (6, false), (7, false)]
def tb_InvalidLine : List (Nat × Bool) := [(0, false), (1, false), (2, false), (3, false), (4, false), (5, false), (6, false)]
def cs_isi_InvalidLine : List (Nat × Bool) := [(0, false), (1, false), (2, false), (3, false), (4, false), (5, false), (6, false), (7, false)]
def tb_InvalidArrows : List (Nat × Bool) := [(0, false), (1, false), (2, false), (3, false), (4, false), (5, false), (6, false)]
def cs_isi_InvalidArrows : List (Nat × Bool) := [(0, false), (1, false), (2, false), (3, false), (4, false), (5, false), (6, false), (7, false)]
def tb_InvalidEnds : List (Nat × Bool) := [(0, false), (1, false), (2, false), (3, false), (4, false), (5, false), (6, false)]
def cs_isi_InvalidEnds : List (Nat × Bool) := [(0, false), (1, false), (2, false), (3, false), (4, false), (5, false), (6, false), (7, false)]
def tb_InvalidBook : List (Nat × Bool) := [(0, false), (1, false), (2, false), (3, false), (4, false), (5, false), (6, false)]
def cs_isi_InvalidBook : List (Nat × Bool) := [(0, false), (1, false), (2, false), (3, false), (4, false), (5, false), (6, false), (7, false)]
def tb_InvalidTexts : List (Nat × Bool) := [(0, false), (1, false), (2, false), (3, false), (4, false), (5, false), (6, false)]
def cs_isi_InvalidTexts : List (Nat × Bool) := [(0, false), (1, false), (2, false), (3, false), (4, false), (5, false), (6, false), (7, false)]
def tb_InvalidDeeds : List (Nat × Bool) := [(0, false), (1, false), (2, false), (3, false), (4, false), (5, false), (6, false)]
def cs_isi_InvalidDeeds : List (Nat × Bool) := [(0, false), (1, false), (2, false), (3, false), (4, false), (5, false), (6, false), (7, false)]
def tb_NothingToUndo : List (Nat × Bool) := [(0, false), (1, false), (2, false), (3, false), (4, false), (5, false), (6, false)]
def cs_isi_NothingToUndo : List (Nat × Bool) := [(0, false), (1, false), (2, false), (3, false), (4, false), (5, false), (6, false), (7, false)]
def tb_Busy : List (Nat × Bool) := [(0, false), (1, false), (2, false), (3, false), (4, false), (5, false), (6, false)]
def cs_isi_Busy : List (Nat × Bool) := [(0, false), (1, false), (2, false), (3, false), (4, false), (5, false), (6, false), (7, false)]
def tb_TooMany : List (Nat × Bool) := [(0, false), (1, false), (2, false), (3, false), (4, false), (5, false), (6, false)]
def cs_isi_TooMany : List (Nat × Bool) := [(0, false), (1, false), (2, false), (3, false), (4, false), (5, false), (6, false), (7, false)]
def b_is_between : MS := (mSeq (mRet (mAndV (mIsi tb_int cs_isi_int (mVar 0)) (mAndV (mNotV (mIsi tb_bool cs_isi_bool (mVar 0))) (mCh opLe opLe (mVar 1) (mVar 0) (mVar 2))))) mNil)
def m_is_between : MF := mFun 3 b_is_between
def b_is_goal : MS := (mSeq (mRet (mOrV (mOp (opIs false) (mVar 0) (mC .non)) (mCl0 (opF m_is_between [0, 1, 2] []) 3 (maCons (mVar 0) (maCons (mC (.int 0)) (maCons (mOp opSub (mVar 1) (mC (.int 1))) maNil)))))) mNil)
def m_is_goal : MF := mFun 2 b_is_goal
def b_wrong_arrows : MS := (mSeq (mFor (miEnum (maCons (mVar 0) maNil)) (gTup' 2 (gsCons (gName' 2) (gsCons (gName' 3) gsNil))) (mSeq (mIfS (mOr (mNot (mTru (mIsi tb_tuple cs_isi_tuple (mVar 3)))) (mOr (mTB (mOp opNe (mBt bLen (maCons (mVar 3) maNil)) (mVar 1))) (mNot (mTru (mBt bAll (maCons (mLc (miV (mVar 3)) (Tg.nm 4) mYes (mCl0 (opF m_is_goal [0, 1] []) 2 (maCons (mVar 4) (maCons (mBt bLen (maCons (mVar 0) maNil)) maNil))) [4]) maNil)))))) (mSeq (mRet (mVar 2)) mNil) mNil) mNil)) (mSeq (mRet (mC .non)) mNil))
def m_wrong_arrows : MF := mFun 5 b_wrong_arrows
def b_wrong_end : MS := (mSeq (mSet 2 (mUn (unI fun i => -i) (mC (.int 1)))) (mSeq (mFor (miEnum (maCons (mVar 0) maNil)) (gTup' 2 (gsCons (gName' 3) (gsCons (gName' 4) gsNil))) (mSeq (mIfS (mOr (mNot (mTru (mCl0 (opF m_is_between [0, 1, 2] []) 3 (maCons (mVar 4) (maCons (mC (.int 0)) (maCons (mOp opSub (mVar 1) (mC (.int 1))) maNil)))))) (mTB (mOp opLe (mVar 4) (mVar 2)))) (mSeq (mRet (mVar 3)) mNil) mNil) (mSeq (mSet 2 (mVar 4)) mNil))) (mSeq (mRet (mC .non)) mNil)))
def m_wrong_end : MF := mFun 5 b_wrong_end
def b_Machine___init__ : MS := (mSeq (mIfS (mNot (mTru (mCl0 (opF m_is_between [0, 1, 2] []) 3 (maCons (mVar 1) (maCons (mC (.int 1)) (maCons (mC (.int 5)) maNil)))))) mNever mNil) (mSeq (mIfS (mOr (mNot (mTru (mIsi tb_tuple cs_isi_tuple (mVar 2)))) (mNot (mTB (mCh opLe opLe (mC (.int 1)) (mBt bLen (maCons (mVar 2) maNil)) (mC (.int 8)))))) mNever mNil) (mSeq (mSet 4 (mCl0 (opF m_wrong_arrows [0, 1] []) 2 (maCons (mVar 2) (maCons (mVar 1) maNil)))) (mSeq (mIfS (mTB (mOp (opIs true) (mVar 4) (mC .non))) mNever mNil) (mSeq (mIfS (mNot (mTru (mIsi tb_tuple cs_isi_tuple (mVar 3)))) mNever mNil) (mSeq (mSet 4 (mCl0 (opF m_wrong_end [0, 1] []) 2 (maCons (mVar 3) (maCons (mBt bLen (maCons (mVar 2) maNil)) maNil)))) (mSeq (mIfS (mTB (mOp (opIs true) (mVar 4) (mC .non))) mNever mNil) (mSeq (mSetF cs_letters [108, 101, 116, 116, 101, 114, 115] (mVar 0) (mVar 1)) (mSeq (mSetF cs_arrows [97, 114, 114, 111, 119, 115] (mVar 0) (mVar 2)) (mSeq (mSetF cs_ends [101, 110, 100, 115] (mVar 0) (mVar 3)) mNil))))))))))
def m_Machine___init__ : MF := mFun 5 b_Machine___init__
def b_check_machine : MS := (mSeq (mIfS (mNot (mTru (mIsi tb_Machine cs_isi_Machine (mVar 0)))) mNever mNil) mNil)
def m_check_machine : MF := mFun 1 b_check_machine
def b_check_length : MS := (mSeq (mIfS (mNot (mTru (mCl0 (opF m_is_between [0, 1, 2] []) 3 (maCons (mVar 0) (maCons (mC (.int 0)) (maCons (mC (.int 300)) maNil)))))) mNever mNil) mNil)
def m_check_length : MF := mFun 1 b_check_length
def b_end_counts : MS := (mSeq (mRet (mLc (miRng1 (maCons (mBt bLen (maCons (mFld cs_arrows [97, 114, 114, 111, 119, 115] (mVar 0)) maNil)) maNil)) (Tg.nm 1) mYes (mIf (mTB (mOp (opIn false) (mVar 1) (mFld cs_ends [101, 110, 100, 115] (mVar 0)))) (mC (.int 1)) (mC (.int 0))) [1])) mNil)
def m_end_counts : MF := mFun 2 b_end_counts
def b_counts_before : MS := (mSeq (mSet 2 (mLst maNil)) (mSeq (mFor (miV (mFld cs_arrows [97, 114, 114, 111, 119, 115] (mVar 0))) (gName' 3) (mSeq (mDrop (mBM 1 oAppend (mVar 2) (maCons (mBt bSum (maCons (mLc (miV (mVar 3)) (Tg.nm 4) (mTB (mOp (opIs true) (mVar 4) (mC .non))) (mOp opIx (mVar 1) (mVar 4)) [4]) maNil)) maNil))) mNil)) (mSeq (mRet (mVar 2)) mNil)))
def m_counts_before : MF := mFun 5 b_counts_before
def b_all_counts : MS := (mSeq (mSet 2 (mLst (maCons (mCl0 (opF m_end_counts [0] []) 1 (maCons (mVar 0) maNil)) maNil))) (mSeq (mFor (miRng1 (maCons (mVar 1) maNil)) (gName' 3) (mSeq (mDrop (mBM 1 oAppend (mVar 2) (maCons (mCl0 (opF m_counts_before [0, 1] []) 2 (maCons (mVar 0) (maCons (mOp opIx (mVar 2) (mUn (unI fun i => -i) (mC (.int 1)))) maNil))) maNil))) mNil)) (mSeq (mRet (mVar 2)) mNil)))
def m_all_counts : MF := mFun 4 b_all_counts
def b_count_of : MS := (mSeq (mRet (mOp opIx (mOp opIx (mCl0 (opF m_all_counts [0, 1] []) 2 (maCons (mVar 0) (maCons (mVar 1) maNil))) (mVar 1)) (mC (.int 0)))) mNil)
def m_count_of : MF := mFun 2 b_count_of
def b_how_many_texts : MS := (mSeq (mDrop (mCl0 (opF m_check_machine [0] []) 1 (maCons (mVar 0) maNil))) (mSeq (mDrop (mCl0 (opF m_check_length [0] []) 1 (maCons (mVar 1) maNil))) (mSeq (mRet (mCl0 (opF m_count_of [0, 1] []) 2 (maCons (mVar 0) (maCons (mVar 1) maNil)))) mNil)))
def m_how_many_texts : MF := mFun 2 b_how_many_texts
def b_listed : MS := (mSeq (mAsg (mTup (maCons (mCl0 (opF m_all_counts [0, 1] []) 2 (maCons (mVar 0) (maCons (mVar 1) maNil))) (maCons (mLst (maCons (mTup (maCons (mC (.str [])) (maCons (mC (.int 0)) maNil))) maNil)) maNil))) (gTup' 2 (gsCons (gName' 2) (gsCons (gName' 3) gsNil)))) (mSeq (mFor (miRng1 (maCons (mVar 1) maNil)) (gName' 4) (mSeq (mAsg (mTup (maCons (mOp opSub (mOp opSub (mVar 1) (mVar 4)) (mC (.int 1))) (maCons (mLst maNil) maNil))) (gTup' 2 (gsCons (gName' 5) (gsCons (gName' 6) gsNil)))) (mSeq (mFor (miV (mVar 3)) (gTup' 2 (gsCons (gName' 7) (gsCons (gName' 8) gsNil))) (mSeq (mSet 9 (mOp opIx (mFld cs_arrows [97, 114, 114, 111, 119, 115] (mVar 0)) (mVar 8))) (mSeq (mSet 10 (mLc (miEnum (maCons (mVar 9) maNil)) (Tg.tp (Tgs.cons (Tg.nm 11) (Tgs.cons (Tg.nm 12) Tgs.nil))) (mAnd (mTB (mOp (opIs true) (mVar 12) (mC .non))) (mTB (mOp opGt (mOp opIx (mOp opIx (mVar 2) (mVar 5)) (mVar 12)) (mC (.int 0))))) (mVar 11) [11, 12])) (mSeq (mAug 6 opIadd (mLc (miV (mVar 10)) (Tg.nm 11) mYes (mTup (maCons (mOp opAdd (mVar 7) (mOp opIx (mC (.str [97, 98, 99, 100, 101])) (mVar 11))) (maCons (mOp opIx (mVar 9) (mVar 11)) maNil))) [11])) mNil)))) (mSeq (mSet 3 (mVar 6)) mNil)))) (mSeq (mRet (mBt bTuple (maCons (mLc (miV (mVar 3)) (Tg.tp (Tgs.cons (Tg.nm 7) (Tgs.cons (Tg.nm 8) Tgs.nil))) (mTB (mOp (opIn false) (mVar 8) (mFld cs_ends [101, 110, 100, 115] (mVar 0)))) (mVar 7) [7, 8]) maNil))) mNil)))
def m_listed : MF := mFun 13 b_listed
def b_texts_of : MS := (mSeq (mDrop (mCl0 (opF m_check_machine [0] []) 1 (maCons (mVar 0) maNil))) (mSeq (mDrop (mCl0 (opF m_check_length [0] []) 1 (maCons (mVar 1) maNil))) (mSeq (mIfS (mTB (mOp opGt (mCl0 (opF m_count_of [0, 1] []) 2 (maCons (mVar 0) (maCons (mVar 1) maNil))) (mC (.int 1000)))) mNever mNil) (mSeq (mRet (mCl0 (opF m_listed [0, 1] []) 2 (maCons (mVar 0) (maCons (mVar 1) maNil)))) mNil))))
def m_texts_of : MF := mFun 2 b_texts_of
def b_is_endless_of : MS := (mSeq (mSet 1 (mBt bLen (maCons (mFld cs_arrows [97, 114, 114, 111, 119, 115] (mVar 0)) maNil))) (mSeq (mSet 2 (mCl0 (opF m_all_counts [0, 1] []) 2 (maCons (mVar 0) (maCons (mOp opMul (mC (.int 2)) (mVar 1)) maNil)))) (mSeq (mRet (mBt bAny (maCons (mLc (miRng2 (maCons (mVar 1) (maCons (mOp opAdd (mOp opMul (mC (.int 2)) (mVar 1)) (mC (.int 1))) maNil))) (Tg.nm 3) mYes (mOp opGt (mOp opIx (mOp opIx (mVar 2) (mVar 3)) (mC (.int 0))) (mC (.int 0))) [3]) maNil))) mNil)))
def m_is_endless_of : MF := mFun 4 b_is_endless_of
def b_is_endless : MS := (mSeq (mDrop (mCl0 (opF m_check_machine [0] []) 1 (maCons (mVar 0) maNil))) (mSeq (mRet (mCl0 (opF m_is_endless_of [0] []) 1 (maCons (mVar 0) maNil))) mNil))
def m_is_endless : MF := mFun 1 b_is_endless
def b_is_word : MS := (mSeq (mRet (mAndV (mIsi tb_str cs_isi_str (mVar 0)) (mAndV (mOp opLe (mBt bLen (maCons (mVar 0) maNil)) (mC (.int 6))) (mBt bAll (maCons (mLc (miV (mVar 0)) (Tg.nm 1) mYes (mOp (opIn false) (mVar 1) (mC (.str [120, 121, 122]))) [1]) maNil))))) mNil)
def m_is_word : MF := mFun 2 b_is_word
def b_check_book : MS := (mSeq (mIfS (mOr (mNot (mTru (mIsi tb_tuple cs_isi_tuple (mVar 0)))) (mTB (mOp opNe (mBt bLen (maCons (mVar 0) maNil)) (mFld cs_letters [108, 101, 116, 116, 101, 114, 115] (mVar 1))))) mNever mNil) (mSeq (mFor (miEnum (maCons (mVar 0) maNil)) (gTup' 2 (gsCons (gName' 2) (gsCons (gName' 3) gsNil))) (mSeq (mIfS (mNot (mTru (mCl0 (opF m_is_word [0] []) 1 (maCons (mVar 3) maNil)))) mNever mNil) mNil)) mNil))
def m_check_book : MF := mFun 4 b_check_book
def b_is_row : MS := (mSeq (mRet (mAndV (mIsi tb_str cs_isi_str (mVar 0)) (mAndV (mOp opLe (mBt bLen (maCons (mVar 0) maNil)) (mC (.int 300))) (mBt bAll (maCons (mLc (miV (mVar 0)) (Tg.nm 2) mYes (mOp (opIn false) (mVar 2) (mSl (mC (.str [97, 98, 99, 100, 101])) moNone (moSome (mVar 1)))) [2]) maNil))))) mNil)
def m_is_row : MF := mFun 3 b_is_row
def b_check_text : MS := (mSeq (mIfS (mNot (mTru (mCl0 (opF m_is_row [0, 1] []) 2 (maCons (mVar 0) (maCons (mFld cs_letters [108, 101, 116, 116, 101, 114, 115] (mVar 1)) maNil))))) mNever mNil) mNil)
def m_check_text : MF := mFun 2 b_check_text
def b_version_of : MS := (mSeq (mRet (mBM 0 oJoin (mC (.str [])) (maCons (mLc (miV (mVar 1)) (Tg.nm 2) mYes (mOp opIx (mVar 0) (mBM 0 oIndex (mC (.str [97, 98, 99, 100, 101])) (maCons (mVar 2) maNil))) [2]) maNil))) mNil)
def m_version_of : MF := mFun 3 b_version_of
def b_version : MS := (mSeq (mDrop (mCl0 (opF m_check_machine [0] []) 1 (maCons (mVar 0) maNil))) (mSeq (mDrop (mCl0 (opF m_check_book [0, 1] []) 2 (maCons (mVar 1) (maCons (mVar 0) maNil)))) (mSeq (mDrop (mCl0 (opF m_check_text [0, 1] []) 2 (maCons (mVar 2) (maCons (mVar 0) maNil)))) (mSeq (mRet (mCl0 (opF m_version_of [0, 1] []) 2 (maCons (mVar 1) (maCons (mVar 2) maNil)))) mNil))))
def m_version : MF := mFun 3 b_version
def b_check_books : MS := (mSeq (mDrop (mCl0 (opF m_check_machine [0] []) 1 (maCons (mVar 0) maNil))) (mSeq (mDrop (mCl0 (opF m_check_book [0, 1] []) 2 (maCons (mVar 1) (maCons (mVar 0) maNil)))) (mSeq (mDrop (mCl0 (opF m_check_book [0, 1] []) 2 (maCons (mVar 2) (maCons (mVar 0) maNil)))) mNil)))
def m_check_books : MF := mFun 3 b_check_books
def b_same_version : MS := (mSeq (mDrop (mCl0 (opF m_check_books [0, 1, 2] []) 3 (maCons (mVar 0) (maCons (mVar 1) (maCons (mVar 2) maNil))))) (mSeq (mDrop (mCl0 (opF m_check_text [0, 1] []) 2 (maCons (mVar 3) (maCons (mVar 0) maNil)))) (mSeq (mRet (mOp opEq (mCl0 (opF m_version_of [0, 1] []) 2 (maCons (mVar 1) (maCons (mVar 3) maNil))) (mCl0 (opF m_version_of [0, 1] []) 2 (maCons (mVar 2) (maCons (mVar 3) maNil))))) mNil)))
def m_same_version : MF := mFun 4 b_same_version
def b_agree_on : MS := (mSeq (mDrop (mCl0 (opF m_check_books [0, 1, 2] []) 3 (maCons (mVar 0) (maCons (mVar 1) (maCons (mVar 2) maNil))))) (mSeq (mIfS (mOr (mNot (mTru (mIsi tb_tuple cs_isi_tuple (mVar 3)))) (mTB (mOp opGt (mBt bLen (maCons (mVar 3) maNil)) (mC (.int 1000))))) mNever mNil) (mSeq (mFor (miEnum (maCons (mVar 3) maNil)) (gTup' 2 (gsCons (gName' 4) (gsCons (gName' 5) gsNil))) (mSeq (mIfS (mNot (mTru (mCl0 (opF m_is_row [0, 1] []) 2 (maCons (mVar 5) (maCons (mFld cs_letters [108, 101, 116, 116, 101, 114, 115] (mVar 0)) maNil))))) mNever mNil) mNil)) (mSeq (mRet (mBt bAll (maCons (mLc (miV (mVar 3)) (Tg.nm 5) mYes (mOp opEq (mCl0 (opF m_version_of [0, 1] []) 2 (maCons (mVar 1) (maCons (mVar 5) maNil))) (mCl0 (opF m_version_of [0, 1] []) 2 (maCons (mVar 2) (maCons (mVar 5) maNil)))) [5]) maNil))) mNil))))
def m_agree_on : MF := mFun 6 b_agree_on
def b_Machine___repr__ : MS := (mSeq (mRet (mJs [(mC (.str [77, 97, 99, 104, 105, 110, 101, 40])), (mFmt (mBt bLen (maCons (mFld cs_arrows [97, 114, 114, 111, 119, 115] (mVar 0)) maNil))), (mC (.str [32, 115, 116, 97, 110, 100, 115, 44, 32])), (mFmt (mFld cs_letters [108, 101, 116, 116, 101, 114, 115] (mVar 0))), (mC (.str [32, 108, 101, 116, 116, 101, 114, 115, 41]))] [])) mNil)
def m_Machine___repr__ : MF := mFun 1 b_Machine___repr__
def b_Machine___len__ : MS := (mSeq (mRet (mBt bLen (maCons (mFld cs_arrows [97, 114, 114, 111, 119, 115] (mVar 0)) maNil))) mNil)
def m_Machine___len__ : MF := mFun 1 b_Machine___len__
def b_free : MS := (mSeq (mIfS (mNot (mTru (mCl0 (opF m_is_between [0, 1, 2] []) 3 (maCons (mVar 0) (maCons (mC (.int 1)) (maCons (mC (.int 5)) maNil)))))) mNever mNil) (mSeq (mRet (mCl0 (opC 0 m_Machine___init__ [0, 1, 2, 3] []) 3 (maCons (mVar 0) (maCons (mTup (maCons (mOp opMul (mTup (maCons (mC (.int 0)) maNil)) (mVar 0)) maNil)) (maCons (mTup (maCons (mC (.int 0)) maNil)) maNil))))) mNil))
def m_free : MF := mFun 1 b_free
def b_tail : MS := (mSeq (mRet (mCl0 (opC 0 m_Machine___init__ [0, 1, 2, 3] []) 3 (maCons (mC (.int 3)) (maCons (mTup (maCons (mTup (maCons (mC .non) (maCons (mC (.int 1)) (maCons (mC .non) maNil)))) (maCons (mTup (maCons (mC (.int 1)) (maCons (mC .non) (maCons (mC (.int 2)) maNil)))) (maCons (mTup (maCons (mC .non) (maCons (mC .non) (maCons (mC .non) maNil)))) maNil)))) (maCons (mTup (maCons (mC (.int 2)) maNil)) maNil))))) mNil)
def m_tail : MF := mFun 0 b_tail
def b_turns : MS := (mSeq (mRet (mCl0 (opC 0 m_Machine___init__ [0, 1, 2, 3] []) 3 (maCons (mC (.int 2)) (maCons (mTup (maCons (mTup (maCons (mC (.int 1)) (maCons (mC .non) maNil))) (maCons (mTup (maCons (mC .non) (maCons (mC (.int 0)) maNil))) maNil))) (maCons (mTup (maCons (mC (.int 0)) maNil)) maNil))))) mNil)
def m_turns : MF := mFun 0 b_turns
def b_check_most : MS := (mSeq (mDrop (mCl0 (opF m_check_books [0, 1, 2] []) 3 (maCons (mVar 0) (maCons (mVar 1) (maCons (mVar 2) maNil))))) (mSeq (mIfS (mNot (mTru (mCl0 (opF m_is_between [0, 1, 2] []) 3 (maCons (mVar 3) (maCons (mC (.int 0)) (maCons (mC (.int 8)) maNil)))))) mNever mNil) mNil))
def m_check_most : MF := mFun 4 b_check_most
def b_alike_of : MS := (mSeq (mSet 4 (mLst maNil)) (mSeq (mFor (miRng1 (maCons (mOp opAdd (mVar 3) (mC (.int 1))) maNil)) (gName' 5) (mSeq (mAug 4 opIadd (mLc (miV (mCl0 (opF m_listed [0, 1] []) 2 (maCons (mVar 0) (maCons (mVar 5) maNil)))) (Tg.nm 6) (mTB (mOp opEq (mCl0 (opF m_version_of [0, 1] []) 2 (maCons (mVar 1) (maCons (mVar 6) maNil))) (mCl0 (opF m_version_of [0, 1] []) 2 (maCons (mVar 2) (maCons (mVar 6) maNil))))) (mVar 6) [6])) mNil)) (mSeq (mRet (mBt bTuple (maCons (mVar 4) maNil))) mNil)))
def m_alike_of : MF := mFun 7 b_alike_of
def b_alike_texts : MS := (mSeq (mDrop (mCl0 (opF m_check_most [0, 1, 2, 3] []) 4 (maCons (mVar 0) (maCons (mVar 1) (maCons (mVar 2) (maCons (mVar 3) maNil)))))) (mSeq (mRet (mCl0 (opF m_alike_of [0, 1, 2, 3] []) 4 (maCons (mVar 0) (maCons (mVar 1) (maCons (mVar 2) (maCons (mVar 3) maNil)))))) mNil))
def m_alike_texts : MF := mFun 4 b_alike_texts
def b_how_many_alike : MS := (mSeq (mDrop (mCl0 (opF m_check_most [0, 1, 2, 3] []) 4 (maCons (mVar 0) (maCons (mVar 1) (maCons (mVar 2) (maCons (mVar 3) maNil)))))) (mSeq (mRet (mBt bLen (maCons (mCl0 (opF m_alike_of [0, 1, 2, 3] []) 4 (maCons (mVar 0) (maCons (mVar 1) (maCons (mVar 2) (maCons (mVar 3) maNil))))) maNil))) mNil))
def m_how_many_alike : MF := mFun 4 b_how_many_alike
def b_first_rows : MS := (mSeq (mPar 2 3 (mDict (maCons (mVar 1) (maCons (mC (.str [])) maNil))) (mLst (maCons (mVar 1) maNil))) (mSeq (mWhile WF (mTB (mOp opGt (mBt bLen (maCons (mVar 3) maNil)) (mC (.int 0)))) (mSeq (mSet 4 (mLst maNil)) (mSeq (mFor (miV (mVar 3)) (gName' 5) (mSeq (mFor (miEnum (maCons (mOp opIx (mVar 0) (mVar 5)) maNil)) (gTup' 2 (gsCons (gName' 6) (gsCons (gName' 7) gsNil))) (mSeq (mIfS (mAnd (mTB (mOp (opIs true) (mVar 7) (mC .non))) (mTB (mOp (opIn true) (mVar 7) (mVar 2)))) (mSeq (mAsg (mOp opAdd (mOp opIx (mVar 2) (mVar 5)) (mOp opIx (mC (.str [97, 98, 99, 100, 101])) (mVar 6))) (gSubM oSetIxD (mVar 2) (mVar 7))) (mSeq (mDrop (mBM 1 oAppend (mVar 4) (maCons (mVar 7) maNil))) mNil)) mNil) mNil)) mNil)) (mSeq (mSet 3 (mVar 4)) mNil)))) (mSeq (mRet (mVar 2)) mNil)))
def m_first_rows : MF := mFun 8 b_first_rows
def b_order_of : MS := (mSeq (mRet (mTup (maCons (mBt bLen (maCons (mVar 0) maNil)) (maCons (mVar 0) maNil)))) mNil)
def m_order_of : MF := mFun 1 b_order_of
def b_first_to_end : MS := (mSeq (mSet 3 (mLc (miItems (mCl0 (opF m_first_rows [0, 1] []) 2 (maCons (mVar 0) (maCons (mVar 2) maNil)))) (Tg.tp (Tgs.cons (Tg.nm 4) (Tgs.cons (Tg.nm 5) Tgs.nil))) (mTB (mOp (opIn false) (mVar 4) (mVar 1))) (mVar 5) [4, 5])) (mSeq (mRet (mIf (mTB (mOp opGt (mBt bLen (maCons (mVar 3) maNil)) (mC (.int 0)))) (mBt (bMinKey m_order_of [0]) (maCons (mVar 3) maNil)) (mC .non))) mNil))
def m_first_to_end : MF := mFun 6 b_first_to_end
def b_useful_of : MS := (mSeq (mRet (mBt bTuple (maCons (mLc (miV (mBt bSorted (maCons (mCl0 (opF m_first_rows [0, 1] []) 2 (maCons (mVar 0) (maCons (mC (.int 0)) maNil))) maNil))) (Tg.nm 2) (mTB (mOp (opIs true) (mCl0 (opF m_first_to_end [0, 1, 2] []) 3 (maCons (mVar 0) (maCons (mVar 1) (maCons (mVar 2) maNil)))) (mC .non))) (mVar 2) [2]) maNil))) mNil)
def m_useful_of : MF := mFun 3 b_useful_of
def b_lag_of : MS := (mSeq (mIfS (mTru (mBM 0 oStarts (mVar 0) (maCons (mVar 1) maNil))) (mSeq (mRet (mTup (maCons (mC (.int 0)) (maCons (mSl (mVar 0) (moSome (mBt bLen (maCons (mVar 1) maNil))) moNone) maNil)))) mNil) mNil) (mSeq (mIfS (mTru (mBM 0 oStarts (mVar 1) (maCons (mVar 0) maNil))) (mSeq (mRet (mTup (maCons (mC (.int 1)) (maCons (mSl (mVar 1) (moSome (mBt bLen (maCons (mVar 0) maNil))) moNone) maNil)))) mNil) mNil) (mSeq (mRet (mC (.tup [.int 2, .str []]))) mNil)))
def m_lag_of : MF := mFun 2 b_lag_of
def b_next_lag : MS := (mSeq (mIfS (mTB (mOp opEq (mVar 0) (mC (.tup [.int 2, .str []])))) (mSeq (mRet (mC (.tup [.int 2, .str []]))) mNil) mNil) (mSeq (mRet (mIf (mTB (mOp opEq (mOp opIx (mVar 0) (mC (.int 0))) (mC (.int 0)))) (mCl0 (opF m_lag_of [0, 1] []) 2 (maCons (mOp opAdd (mOp opIx (mVar 0) (mC (.int 1))) (mVar 1)) (maCons (mVar 2) maNil))) (mCl0 (opF m_lag_of [0, 1] []) 2 (maCons (mVar 1) (maCons (mOp opAdd (mOp opIx (mVar 0) (mC (.int 1))) (mVar 2)) maNil))))) mNil))
def m_next_lag : MF := mFun 3 b_next_lag
def b_lags_of : MS := (mSeq (mAsg (mTup (maCons (mCl0 (opF m_useful_of [0, 1] []) 2 (maCons (mVar 0) (maCons (mVar 1) maNil))) (maCons mDict0 maNil))) (gTup' 2 (gsCons (gName' 4) (gsCons (gName' 5) gsNil)))) (mSeq (mSet 6 (mIf (mTB (mOp (opIn false) (mC (.int 0)) (mVar 4))) (mLst (maCons (mC (.int 0)) maNil)) (mLst maNil))) (mSeq (mFor (miV (mVar 6)) (gName' 7) (mSeq (mAsg (mC (.tup [.int 0, .str []])) (gSubM oSetIxD (mVar 5) (mVar 7))) mNil)) (mSeq (mWhile WF (mTB (mOp opGt (mBt bLen (maCons (mVar 6) maNil)) (mC (.int 0)))) (mSeq (mSet 7 (mBM 1 oPop (mVar 6) maNil)) (mSeq (mFor (miEnum (maCons (mOp opIx (mVar 0) (mVar 7)) maNil)) (gTup' 2 (gsCons (gName' 8) (gsCons (gName' 9) gsNil))) (mSeq (mIfS (mTB (mOp (opIn false) (mVar 9) (mVar 4))) (mSeq (mSet 10 (mCl0 (opF m_next_lag [0, 1, 2] []) 3 (maCons (mOp opIx (mVar 5) (mVar 7)) (maCons (mOp opIx (mVar 2) (mVar 8)) (maCons (mOp opIx (mVar 3) (mVar 8)) maNil))))) (mSeq (mIfS (mTB (mOp (opIn true) (mVar 9) (mVar 5))) (mSeq (mAsg (mVar 10) (gSubM oSetIxD (mVar 5) (mVar 9))) (mSeq (mDrop (mBM 1 oAppend (mVar 6) (maCons (mVar 9) maNil))) mNil)) mNil) (mSeq (mIfS (mOr (mTB (mOp opNe (mOp opIx (mVar 5) (mVar 9)) (mVar 10))) (mTB (mOp opEq (mVar 10) (mC (.tup [.int 2, .str []]))))) (mSeq (mRet (mC .non)) mNil) mNil) mNil))) mNil) mNil)) mNil))) (mSeq (mIfS (mTru (mBt bAny (maCons (mLc (miV (mVar 4)) (Tg.nm 7) (mTB (mOp (opIn false) (mVar 7) (mVar 1))) (mOp opNe (mOp opIx (mVar 5) (mVar 7)) (mC (.tup [.int 0, .str []]))) [7]) maNil))) (mSeq (mRet (mC .non)) mNil) mNil) (mSeq (mRet (mBt bTuple (maCons (mLc (miRng1 (maCons (mBt bLen (maCons (mVar 0) maNil)) maNil)) (Tg.nm 7) mYes (mGet1 (mVar 5) (mVar 7)) [7]) maNil))) mNil))))))
def m_lags_of : MF := mFun 11 b_lags_of
def b_lags : MS := (mSeq (mDrop (mCl0 (opF m_check_books [0, 1, 2] []) 3 (maCons (mVar 0) (maCons (mVar 1) (maCons (mVar 2) maNil))))) (mSeq (mRet (mCl0 (opF m_lags_of [0, 1, 2, 3] []) 4 (maCons (mFld cs_arrows [97, 114, 114, 111, 119, 115] (mVar 0)) (maCons (mFld cs_ends [101, 110, 100, 115] (mVar 0)) (maCons (mVar 1) (maCons (mVar 2) maNil)))))) mNil))
def m_lags : MF := mFun 3 b_lags
def b_agree : MS := (mSeq (mRet (mOp (opIs true) (mCl0 (opF m_lags [0, 1, 2] []) 3 (maCons (mVar 0) (maCons (mVar 1) (maCons (mVar 2) maNil)))) (mC .non))) mNil)
def m_agree : MF := mFun 3 b_agree
def b_difference_of : MS := (mSeq (mPar 4 5 (mCl0 (opF m_useful_of [0, 1] []) 2 (maCons (mVar 0) (maCons (mVar 1) maNil))) mDict0) (mSeq (mSet 6 (mIf (mTB (mOp (opIn false) (mC (.int 0)) (mVar 4))) (mLst (maCons (mTup (maCons (mC (.str [])) (maCons (mC (.int 0)) (maCons (mC (.tup [.int 0, .str []])) maNil)))) maNil)) (mLst maNil))) (mSeq (mWhile WF (mTB (mOp opGt (mBt bLen (maCons (mVar 6) maNil)) (mC (.int 0)))) (mSeq (mSet 7 (mLst maNil)) (mSeq (mFor (miV (mVar 6)) (gTup' 3 (gsCons (gName' 8) (gsCons (gName' 9) (gsCons (gName' 10) gsNil)))) (mSeq (mSet 11 (mGet2 (mVar 5) (mVar 9) (mTup maNil))) (mSeq (mIfS (mAnd (mTB (mOp (opIn true) (mVar 10) (mVar 11))) (mTB (mOp opLt (mBt bLen (maCons (mVar 11) maNil)) (mC (.int 2))))) (mSeq (mAsg (mTup (maStar (mVar 11) (maCons (mVar 10) maNil))) (gSubM oSetIxD (mVar 5) (mVar 9))) (mSeq (mIfS (mAnd (mTB (mOp (opIn false) (mVar 9) (mVar 1))) (mTB (mOp opNe (mVar 10) (mC (.tup [.int 0, .str []]))))) (mSeq (mRet (mVar 8)) mNil) mNil) (mSeq (mFor (miEnum (maCons (mOp opIx (mVar 0) (mVar 9)) maNil)) (gTup' 2 (gsCons (gName' 12) (gsCons (gName' 13) gsNil))) (mSeq (mIfS (mTB (mOp (opIn false) (mVar 13) (mVar 4))) (mSeq (mDrop (mBM 1 oAppend (mVar 7) (maCons (mTup (maCons (mOp opAdd (mVar 8) (mOp opIx (mC (.str [97, 98, 99, 100, 101])) (mVar 12))) (maCons (mVar 13) (maCons (mCl0 (opF m_next_lag [0, 1, 2] []) 3 (maCons (mVar 10) (maCons (mOp opIx (mVar 2) (mVar 12)) (maCons (mOp opIx (mVar 3) (mVar 12)) maNil)))) maNil)))) maNil))) mNil) mNil) mNil)) mNil))) mNil) mNil))) (mSeq (mSet 6 (mVar 7)) mNil)))) (mSeq (mRet (mC .non)) mNil))))
def m_difference_of : MF := mFun 14 b_difference_of
def b_first_difference : MS := (mSeq (mDrop (mCl0 (opF m_check_books [0, 1, 2] []) 3 (maCons (mVar 0) (maCons (mVar 1) (maCons (mVar 2) maNil))))) (mSeq (mRet (mCl0 (opF m_difference_of [0, 1, 2, 3] []) 4 (maCons (mFld cs_arrows [97, 114, 114, 111, 119, 115] (mVar 0)) (maCons (mFld cs_ends [101, 110, 100, 115] (mVar 0)) (maCons (mVar 1) (maCons (mVar 2) maNil)))))) mNil))
def m_first_difference : MF := mFun 3 b_first_difference
def b_is_told : MS := (mSeq (mIfS (mOr (mNot (mTru (mIsi tb_tuple cs_isi_tuple (mVar 0)))) (mOr (mTB (mOp opNe (mBt bLen (maCons (mVar 0) maNil)) (mC (.int 3)))) (mNot (mTru (mCl0 (opF m_is_between [0, 1, 2] []) 3 (maCons (mOp opIx (mVar 0) (mC (.int 0))) (maCons (mC (.int 1)) (maCons (mC (.int 5)) maNil)))))))) (mSeq (mRet (mC (.bl false))) mNil) mNil) (mSeq (mAsg (mSl (mVar 0) (moSome (mC (.int 1))) moNone) (gTup' 2 (gsCons (gName' 1) (gsCons (gName' 2) gsNil)))) (mSeq (mIfS (mOr (mNot (mTru (mIsi tb_tuple cs_isi_tuple (mVar 1)))) (mNot (mTB (mCh opLe opLe (mC (.int 1)) (mBt bLen (maCons (mVar 1) maNil)) (mC (.int 8)))))) (mSeq (mRet (mC (.bl false))) mNil) mNil) (mSeq (mIfS (mTB (mOp (opIs true) (mCl0 (opF m_wrong_arrows [0, 1] []) 2 (maCons (mVar 1) (maCons (mOp opIx (mVar 0) (mC (.int 0))) maNil))) (mC .non))) (mSeq (mRet (mC (.bl false))) mNil) mNil) (mSeq (mRet (mAndV (mIsi tb_tuple cs_isi_tuple (mVar 2)) (mOp (opIs false) (mCl0 (opF m_wrong_end [0, 1] []) 2 (maCons (mVar 2) (maCons (mBt bLen (maCons (mVar 1) maNil)) maNil))) (mC .non)))) mNil)))))
def m_is_told : MF := mFun 3 b_is_told
def b_is_integer : MS := (mSeq (mRet (mAndV (mIsi tb_int cs_isi_int (mVar 0)) (mNotV (mIsi tb_bool cs_isi_bool (mVar 0))))) mNil)
def m_is_integer : MF := mFun 1 b_is_integer
def b_is_empty : MS := (mSeq (mRet (mAndV (mIsi tb_tuple cs_isi_tuple (mVar 0)) (mOp opEq (mBt bLen (maCons (mVar 0) maNil)) (mC (.int 0))))) mNil)
def m_is_empty : MF := mFun 1 b_is_empty
def b_made_of : MS := (mSeq (mRet (mCl0 (opC 0 m_Machine___init__ [0, 1, 2, 3] []) 3 (maCons (mOp opIx (mVar 0) (mC (.int 0))) (maCons (mOp opIx (mVar 0) (mC (.int 1))) (maCons (mOp opIx (mVar 0) (mC (.int 2))) maNil))))) mNil)
def m_made_of : MF := mFun 1 b_made_of
def b_shows_count : MS := (mSeq (mAsg (mVar 1) (gTup' 2 (gsCons (gName' 3) (gsCons (gName' 4) gsNil)))) (mSeq (mIfS (mOr (mNot (mTru (mCl0 (opF m_is_between [0, 1, 2] []) 3 (maCons (mVar 3) (maCons (mC (.int 0)) (maCons (mC (.int 300)) maNil)))))) (mOr (mNot (mTru (mCl0 (opF m_is_integer [0] []) 1 (maCons (mVar 4) maNil)))) (mNot (mTru (mCl0 (opF m_is_empty [0] []) 1 (maCons (mVar 2) maNil)))))) (mSeq (mRet (mC (.bl false))) mNil) mNil) (mSeq (mRet (mOp opEq (mCl0 (opF m_count_of [0, 1] []) 2 (maCons (mCl0 (opF m_made_of [0] []) 1 (maCons (mVar 0) maNil)) (maCons (mVar 3) maNil))) (mVar 4))) mNil)))
def m_shows_count : MF := mFun 5 b_shows_count
def b_holds (tabS : List (Nat × MF)) : MS := (mSeq (mIfS (mOr (mNot (mTru (mIsi tb_tuple cs_isi_tuple (mVar 0)))) (mOr (mTB (mOp opLt (mBt bLen (maCons (mVar 0) maNil)) (mC (.int 2)))) (mOr (mNot (mTru (mIsi tb_str cs_isi_str (mOp opIx (mVar 0) (mC (.int 0)))))) (mTB (mOp (opKIn true 0 rowsS) (mOp opIx (mVar 0) (mC (.int 0))) (mC (.gl 0))))))) (mSeq (mRet (mC (.bl false))) mNil) mNil) (mSeq (mAsg (mOp (opKIx 0 rowsS) (mC (.gl 0)) (mOp opIx (mVar 0) (mC (.int 0)))) (gTup' 2 (gsCons (gName' 2) (gsCons (gName' 3) gsNil)))) (mSeq (mRet (mAndV (mOp opEq (mBt bLen (maCons (mVar 0) maNil)) (mVar 2)) (mAndV (mCl0 (opF m_is_told [0] []) 1 (maCons (mOp opIx (mVar 0) (mC (.int 1))) maNil)) (mCallV 3 tabS 3 (maCons (mOp opIx (mVar 0) (mC (.int 1))) (maCons (mSl (mVar 0) (moSome (mC (.int 2))) moNone) (maCons (mVar 1) maNil))))))) mNil)))
def m_holds (tabS : List (Nat × MF)) : MF := mFun 4 (b_holds tabS)
def b_told_of : MS := (mSeq (mRet (mTup (maCons (mFld cs_letters [108, 101, 116, 116, 101, 114, 115] (mVar 0)) (maCons (mFld cs_arrows [97, 114, 114, 111, 119, 115] (mVar 0)) (maCons (mFld cs_ends [101, 110, 100, 115] (mVar 0)) maNil))))) mNil)
def m_told_of : MF := mFun 1 b_told_of
def b_certify_count : MS := (mSeq (mDrop (mCl0 (opF m_check_machine [0] []) 1 (maCons (mVar 0) maNil))) (mSeq (mDrop (mCl0 (opF m_check_length [0] []) 1 (maCons (mVar 1) maNil))) (mSeq (mRet (mTup (maCons (mTup (maCons (mC (.str [99, 111, 117, 110, 116])) (maCons (mCl0 (opF m_told_of [0] []) 1 (maCons (mVar 0) maNil)) (maCons (mVar 1) (maCons (mCl0 (opF m_count_of [0, 1] []) 2 (maCons (mVar 0) (maCons (mVar 1) maNil))) maNil))))) (maCons (mTup maNil) maNil)))) mNil)))
def m_certify_count : MF := mFun 2 b_certify_count
def b_Machine___eq__ : MS := (mSeq (mRet (mAndV (mIsi tb_Machine cs_isi_Machine (mVar 1)) (mOp opEq (mCl0 (opF m_told_of [0] []) 1 (maCons (mVar 0) maNil)) (mCl0 (opF m_told_of [0] []) 1 (maCons (mVar 1) maNil))))) mNil)
def m_Machine___eq__ : MF := mFun 2 b_Machine___eq__
def b_goal_from : MS := (mSeq (mFor (miV (mVar 2)) (gName' 3) (mSeq (mSet 4 (mBM 0 oIndex (mC (.str [97, 98, 99, 100, 101])) (maCons (mVar 3) maNil))) (mSeq (mIfS (mOr (mTB (mOp (opIs false) (mVar 1) (mC .non))) (mTB (mOp opGe (mVar 4) (mBt bLen (maCons (mOp opIx (mVar 0) (mC (.int 0))) maNil))))) (mSeq (mRet (mC .non)) mNil) mNil) (mSeq (mSet 1 (mOp opIx (mOp opIx (mVar 0) (mVar 1)) (mVar 4))) mNil)))) (mSeq (mRet (mVar 1)) mNil))
def m_goal_from : MF := mFun 5 b_goal_from
def b_led_to : MS := (mSeq (mDrop (mCl0 (opF m_check_machine [0] []) 1 (maCons (mVar 0) maNil))) (mSeq (mDrop (mCl0 (opF m_check_text [0, 1] []) 2 (maCons (mVar 1) (maCons (mVar 0) maNil)))) (mSeq (mRet (mCl0 (opF m_goal_from [0, 1, 2] []) 3 (maCons (mFld cs_arrows [97, 114, 114, 111, 119, 115] (mVar 0)) (maCons (mC (.int 0)) (maCons (mVar 1) maNil))))) mNil)))
def m_led_to : MF := mFun 2 b_led_to
def b_is_text : MS := (mSeq (mRet (mOp (opIn false) (mCl0 (opF m_led_to [0, 1] []) 2 (maCons (mVar 0) (maCons (mVar 1) maNil))) (mFld cs_ends [101, 110, 100, 115] (mVar 0)))) mNil)
def m_is_text : MF := mFun 2 b_is_text
def b_useful : MS := (mSeq (mDrop (mCl0 (opF m_check_machine [0] []) 1 (maCons (mVar 0) maNil))) (mSeq (mRet (mCl0 (opF m_useful_of [0, 1] []) 2 (maCons (mFld cs_arrows [97, 114, 114, 111, 119, 115] (mVar 0)) (maCons (mFld cs_ends [101, 110, 100, 115] (mVar 0)) maNil)))) mNil))
def m_useful : MF := mFun 1 b_useful
def b_first_text : MS := (mSeq (mDrop (mCl0 (opF m_check_machine [0] []) 1 (maCons (mVar 0) maNil))) (mSeq (mRet (mCl0 (opF m_first_to_end [0, 1, 2] []) 3 (maCons (mFld cs_arrows [97, 114, 114, 111, 119, 115] (mVar 0)) (maCons (mFld cs_ends [101, 110, 100, 115] (mVar 0)) (maCons (mC (.int 0)) maNil))))) mNil))
def m_first_text : MF := mFun 1 b_first_text
def b_greatest_lag : MS := (mSeq (mSet 3 (mCl0 (opF m_lags [0, 1, 2] []) 3 (maCons (mVar 0) (maCons (mVar 1) (maCons (mVar 2) maNil))))) (mSeq (mRet (mIf (mTB (mOp (opIs false) (mVar 3) (mC .non))) (mC .non) (mBt bMax1 (maCons (mOp opAdd (mLst (maCons (mC (.int 0)) maNil)) (mLc (miV (mVar 3)) (Tg.nm 4) (mTB (mOp (opIs true) (mVar 4) (mC .non))) (mBt bLen (maCons (mOp opIx (mVar 4) (mC (.int 1))) maNil)) [4])) maNil)))) mNil))
def m_greatest_lag : MF := mFun 5 b_greatest_lag
def b_do_agree : MS := (mSeq (mRet (mOp (opIs true) (mCl0 (opF m_lags_of [0, 1, 2, 3] []) 4 (maCons (mFld cs_arrows [97, 114, 114, 111, 119, 115] (mVar 0)) (maCons (mFld cs_ends [101, 110, 100, 115] (mVar 0)) (maCons (mVar 1) (maCons (mVar 2) maNil))))) (mC .non))) mNil)
def m_do_agree : MF := mFun 3 b_do_agree
def b_without : MS := (mSeq (mRet (mBt bTuple (maCons (mLc (miV (mVar 0)) (Tg.nm 2) mYes (mBM 0 oJoin (mC (.str [])) (maCons (mLc (miV (mVar 2)) (Tg.nm 3) (mTB (mOp (opIn true) (mVar 3) (mVar 1))) (mVar 3) [3]) maNil)) [2]) maNil))) mNil)
def m_without : MF := mFun 4 b_without
def b_struck : MS := (mSeq (mDrop (mCl0 (opF m_check_books [0, 1, 2] []) 3 (maCons (mVar 0) (maCons (mVar 1) (maCons (mVar 2) maNil))))) (mSeq (mRet (mBt bTuple (maCons (mLc (miV (mC (.tup [.str [], .str [120], .str [120, 121], .str [120, 121, 122], .str [120, 122], .str [121], .str [121, 122], .str [122]]))) (Tg.nm 3) (mTru (mCl0 (opF m_do_agree [0, 1, 2] []) 3 (maCons (mVar 0) (maCons (mCl0 (opF m_without [0, 1] []) 2 (maCons (mVar 1) (maCons (mVar 3) maNil))) (maCons (mCl0 (opF m_without [0, 1] []) 2 (maCons (mVar 2) (maCons (mVar 3) maNil))) maNil))))) (mVar 3) [3]) maNil))) mNil))
def m_struck : MF := mFun 4 b_struck
def b_sign_steps : MS := (mSeq (mRet (mLc (miZip (maCons (mVar 0) (maCons (mVar 1) maNil))) (Tg.tp (Tgs.cons (Tg.nm 3) (Tgs.cons (Tg.nm 4) Tgs.nil))) mYes (mOp opSub (mBM 0 oCount1 (mVar 3) (maCons (mVar 2) maNil)) (mBM 0 oCount1 (mVar 4) (maCons (mVar 2) maNil))) [3, 4])) mNil)
def m_sign_steps : MF := mFun 5 b_sign_steps
def b_gaps_of : MS := (mSeq (mAsg (mTup (maCons (mCl0 (opF m_useful_of [0, 1] []) 2 (maCons (mVar 0) (maCons (mVar 1) maNil))) (maCons mDict0 maNil))) (gTup' 2 (gsCons (gName' 3) (gsCons (gName' 4) gsNil)))) (mSeq (mSet 5 (mIf (mTB (mOp (opIn false) (mC (.int 0)) (mVar 3))) (mLst (maCons (mC (.int 0)) maNil)) (mLst maNil))) (mSeq (mFor (miV (mVar 5)) (gName' 6) (mSeq (mAsg (mC (.int 0)) (gSubM oSetIxD (mVar 4) (mVar 6))) mNil)) (mSeq (mWhile WF (mTB (mOp opGt (mBt bLen (maCons (mVar 5) maNil)) (mC (.int 0)))) (mSeq (mSet 6 (mBM 1 oPop (mVar 5) maNil)) (mSeq (mFor (miEnum (maCons (mOp opIx (mVar 0) (mVar 6)) maNil)) (gTup' 2 (gsCons (gName' 7) (gsCons (gName' 8) gsNil))) (mSeq (mIfS (mTB (mOp (opIn false) (mVar 8) (mVar 3))) (mSeq (mSet 9 (mOp opAdd (mOp opIx (mVar 4) (mVar 6)) (mOp opIx (mVar 2) (mVar 7)))) (mSeq (mIfS (mTB (mOp (opIn true) (mVar 8) (mVar 4))) (mSeq (mAsg (mVar 9) (gSubM oSetIxD (mVar 4) (mVar 8))) (mSeq (mDrop (mBM 1 oAppend (mVar 5) (maCons (mVar 8) maNil))) mNil)) mNil) (mSeq (mIfS (mTB (mOp opNe (mOp opIx (mVar 4) (mVar 8)) (mVar 9))) (mSeq (mRet (mC .non)) mNil) mNil) mNil))) mNil) mNil)) mNil))) (mSeq (mIfS (mTru (mBt bAny (maCons (mLc (miV (mVar 3)) (Tg.nm 6) (mTB (mOp (opIn false) (mVar 6) (mVar 1))) (mOp opNe (mOp opIx (mVar 4) (mVar 6)) (mC (.int 0))) [6]) maNil))) (mSeq (mRet (mC .non)) mNil) mNil) (mSeq (mRet (mBt bTuple (maCons (mLc (miRng1 (maCons (mBt bLen (maCons (mVar 0) maNil)) maNil)) (Tg.nm 6) mYes (mGet1 (mVar 4) (mVar 6)) [6]) maNil))) mNil))))))
def m_gaps_of : MF := mFun 10 b_gaps_of
def b_agree_in_signs : MS := (mSeq (mDrop (mCl0 (opF m_check_books [0, 1, 2] []) 3 (maCons (mVar 0) (maCons (mVar 1) (maCons (mVar 2) maNil))))) (mSeq (mSet 3 (mLc (miV (mC (.str [120, 121, 122]))) (Tg.nm 4) mYes (mCl0 (opF m_sign_steps [0, 1, 2] []) 3 (maCons (mVar 1) (maCons (mVar 2) (maCons (mVar 4) maNil)))) [4])) (mSeq (mRet (mBt bAll (maCons (mLc (miV (mVar 3)) (Tg.nm 5) mYes (mOp (opIs true) (mCl0 (opF m_gaps_of [0, 1, 2] []) 3 (maCons (mFld cs_arrows [97, 114, 114, 111, 119, 115] (mVar 0)) (maCons (mFld cs_ends [101, 110, 100, 115] (mVar 0)) (maCons (mVar 5) maNil)))) (mC .non)) [5]) maNil))) mNil)))
def m_agree_in_signs : MF := mFun 6 b_agree_in_signs
def b_length_steps : MS := (mSeq (mRet (mLc (miZip (maCons (mVar 0) (maCons (mVar 1) maNil))) (Tg.tp (Tgs.cons (Tg.nm 2) (Tgs.cons (Tg.nm 3) Tgs.nil))) mYes (mOp opSub (mBt bLen (maCons (mVar 2) maNil)) (mBt bLen (maCons (mVar 3) maNil))) [2, 3])) mNil)
def m_length_steps : MF := mFun 4 b_length_steps
def b_length_gaps : MS := (mSeq (mRet (mCl0 (opF m_gaps_of [0, 1, 2] []) 3 (maCons (mFld cs_arrows [97, 114, 114, 111, 119, 115] (mVar 0)) (maCons (mFld cs_ends [101, 110, 100, 115] (mVar 0)) (maCons (mCl0 (opF m_length_steps [0, 1] []) 2 (maCons (mVar 1) (maCons (mVar 2) maNil))) maNil))))) mNil)
def m_length_gaps : MF := mFun 3 b_length_gaps
def b_gaps : MS := (mSeq (mDrop (mCl0 (opF m_check_books [0, 1, 2] []) 3 (maCons (mVar 0) (maCons (mVar 1) (maCons (mVar 2) maNil))))) (mSeq (mRet (mCl0 (opF m_length_gaps [0, 1, 2] []) 3 (maCons (mVar 0) (maCons (mVar 1) (maCons (mVar 2) maNil))))) mNil))
def m_gaps : MF := mFun 3 b_gaps
def b_agree_in_lengths : MS := (mSeq (mRet (mOp (opIs true) (mCl0 (opF m_gaps [0, 1, 2] []) 3 (maCons (mVar 0) (maCons (mVar 1) (maCons (mVar 2) maNil)))) (mC .non))) mNil)
def m_agree_in_lengths : MF := mFun 3 b_agree_in_lengths
def b_sign_gaps : MS := (mSeq (mDrop (mCl0 (opF m_check_books [0, 1, 2] []) 3 (maCons (mVar 0) (maCons (mVar 1) (maCons (mVar 2) maNil))))) (mSeq (mIfS (mOr (mNot (mTru (mIsi tb_str cs_isi_str (mVar 3)))) (mOr (mTB (mOp opNe (mBt bLen (maCons (mVar 3) maNil)) (mC (.int 1)))) (mTB (mOp (opIn true) (mVar 3) (mC (.str [120, 121, 122])))))) mNever mNil) (mSeq (mRet (mCl0 (opF m_gaps_of [0, 1, 2] []) 3 (maCons (mFld cs_arrows [97, 114, 114, 111, 119, 115] (mVar 0)) (maCons (mFld cs_ends [101, 110, 100, 115] (mVar 0)) (maCons (mCl0 (opF m_sign_steps [0, 1, 2] []) 3 (maCons (mVar 1) (maCons (mVar 2) (maCons (mVar 3) maNil)))) maNil))))) mNil)))
def m_sign_gaps : MF := mFun 4 b_sign_gaps
def b_ranges_before : MS := (mSeq (mSet 3 (mLst maNil)) (mSeq (mFor (miV (mFld cs_arrows [97, 114, 114, 111, 119, 115] (mVar 0))) (gName' 4) (mSeq (mSet 5 (mLc (miZip (maCons (mVar 4) (maCons (mVar 1) maNil))) (Tg.tp (Tgs.cons (Tg.nm 6) (Tgs.cons (Tg.nm 7) Tgs.nil))) (mTB (mOp (opIs true) (mVar 6) (mC .non))) (mTup (maCons (mOp opIx (mVar 2) (mVar 6)) (maCons (mBt bLen (maCons (mVar 7) maNil)) maNil))) [6, 7])) (mSeq (mSet 5 (mLc (miV (mVar 5)) (Tg.tp (Tgs.cons (Tg.nm 8) (Tgs.cons (Tg.nm 9) Tgs.nil))) (mTB (mOp (opIs true) (mVar 8) (mC .non))) (mTup (maCons (mOp opAdd (mOp opIx (mVar 8) (mC (.int 0))) (mVar 9)) (maCons (mOp opAdd (mOp opIx (mVar 8) (mC (.int 1))) (mVar 9)) maNil))) [8, 9])) (mSeq (mDrop (mBM 1 oAppend (mVar 3) (maCons (mIf (mTB (mOp opGt (mBt bLen (maCons (mVar 5) maNil)) (mC (.int 0)))) (mTup (maCons (mBt bMin1 (maCons (mLc (miV (mVar 5)) (Tg.tp (Tgs.cons (Tg.nm 10) (Tgs.cons (Tg.nm 11) Tgs.nil))) mYes (mVar 10) [10, 11]) maNil)) (maCons (mBt bMax1 (maCons (mLc (miV (mVar 5)) (Tg.tp (Tgs.cons (Tg.nm 10) (Tgs.cons (Tg.nm 11) Tgs.nil))) mYes (mVar 11) [10, 11]) maNil)) maNil))) (mC .non)) maNil))) mNil)))) (mSeq (mRet (mVar 3)) mNil)))
def m_ranges_before : MF := mFun 12 b_ranges_before
def b_version_range : MS := (mSeq (mDrop (mCl0 (opF m_check_machine [0] []) 1 (maCons (mVar 0) maNil))) (mSeq (mDrop (mCl0 (opF m_check_book [0, 1] []) 2 (maCons (mVar 1) (maCons (mVar 0) maNil)))) (mSeq (mDrop (mCl0 (opF m_check_length [0] []) 1 (maCons (mVar 2) maNil))) (mSeq (mSet 3 (mLc (miV (mOp opIx (mCl0 (opF m_all_counts [0, 1] []) 2 (maCons (mVar 0) (maCons (mC (.int 0)) maNil))) (mC (.int 0)))) (Tg.nm 5) mYes (mIf (mTB (mOp opGt (mVar 5) (mC (.int 0)))) (mTup (maCons (mC (.int 0)) (maCons (mC (.int 0)) maNil))) (mC .non)) [5])) (mSeq (mFor (miRng1 (maCons (mVar 2) maNil)) (gName' 4) (mSeq (mSet 3 (mCl0 (opF m_ranges_before [0, 1, 2] []) 3 (maCons (mVar 0) (maCons (mVar 1) (maCons (mVar 3) maNil))))) mNil)) (mSeq (mRet (mOp opIx (mVar 3) (mC (.int 0)))) mNil))))))
def m_version_range : MF := mFun 6 b_version_range
def b_check_two : MS := (mSeq (mDrop (mCl0 (opF m_check_machine [0] []) 1 (maCons (mVar 0) maNil))) (mSeq (mDrop (mCl0 (opF m_check_machine [0] []) 1 (maCons (mVar 1) maNil))) mNil))
def m_check_two : MF := mFun 2 b_check_two
def b_goal_of : MS := (mSeq (mRet (mIf (mAnd (mTB (mOp (opIs true) (mVar 1) (mC .non))) (mTB (mOp opLt (mVar 2) (mBt bLen (maCons (mOp opIx (mVar 0) (mVar 1)) maNil))))) (mOp opIx (mOp opIx (mVar 0) (mVar 1)) (mVar 2)) (mC .non))) mNil)
def m_goal_of : MF := mFun 3 b_goal_of
def b_pairs_of : MS := (mSeq (mPar3 2 3 4 (mDictT (mTup (maCons (mC (.int 0)) (maCons (mC (.int 0)) maNil))) (mC (.str []))) (mLst (maCons (mTup (maCons (mC (.int 0)) (maCons (mC (.int 0)) maNil))) maNil)) (mLstRg1 (mBt bMax2 (maCons (mFld cs_letters [108, 101, 116, 116, 101, 114, 115] (mVar 0)) (maCons (mFld cs_letters [108, 101, 116, 116, 101, 114, 115] (mVar 1)) maNil))))) (mSeq (mWhile WF (mTB (mOp opGt (mBt bLen (maCons (mVar 3) maNil)) (mC (.int 0)))) (mSeq (mSet 5 (mLst maNil)) (mSeq (mFor (miVT (mVar 3)) (gTup' 2 (gsCons (gName' 6) (gsCons (gName' 7) gsNil))) (mSeq (mFor (miVT (mVar 4)) (gName' 8) (mSeq (mSet 9 (mTup (maCons (mCl0 (opF m_goal_of [0, 1, 2] []) 3 (maCons (mFld cs_arrows [97, 114, 114, 111, 119, 115] (mVar 0)) (maCons (mVar 6) (maCons (mVar 8) maNil)))) (maCons (mCl0 (opF m_goal_of [0, 1, 2] []) 3 (maCons (mFld cs_arrows [97, 114, 114, 111, 119, 115] (mVar 1)) (maCons (mVar 7) (maCons (mVar 8) maNil)))) maNil)))) (mSeq (mIfS (mAnd (mTB (mOp opNe (mVar 9) (mTup (maCons (mC .non) (maCons (mC .non) maNil))))) (mTB (mOp (opInT true) (mVar 9) (mVar 2)))) (mSeq (mAsg (mOp opAdd (mOp opIxT (mVar 2) (mTup (maCons (mVar 6) (maCons (mVar 7) maNil)))) (mOp opIxT (mC (.str [97, 98, 99, 100, 101])) (mVar 8))) (gSubM oSetIxT (mVar 2) (mVar 9))) (mSeq (mDrop (mBM 1 oAppend (mVar 5) (maCons (mVar 9) maNil))) mNil)) mNil) mNil))) mNil)) (mSeq (mSet 3 (mVar 5)) mNil)))) (mSeq (mRet (mVar 2)) mNil)))
def m_pairs_of : MF := mFun 10 b_pairs_of
def b_first_unlike : MS := (mSeq (mFor (miItemsT (mCl0 (opF m_pairs_of [0, 1] []) 2 (maCons (mVar 0) (maCons (mVar 1) maNil)))) (gTup' 2 (gsCons (gTup' 2 (gsCons (gName' 2) (gsCons (gName' 3) gsNil))) (gsCons (gName' 4) gsNil))) (mSeq (mIfS (mTB (mOp opNe (mOp (opInT false) (mVar 2) (mFld cs_ends [101, 110, 100, 115] (mVar 0))) (mOp (opInT false) (mVar 3) (mFld cs_ends [101, 110, 100, 115] (mVar 1))))) (mSeq (mRet (mVar 4)) mNil) mNil) mNil)) (mSeq (mRet (mC .non)) mNil))
def m_first_unlike : MF := mFun 5 b_first_unlike
def b_first_apart : MS := (mSeq (mDrop (mCl0 (opF m_check_two [0, 1] []) 2 (maCons (mVar 0) (maCons (mVar 1) maNil)))) (mSeq (mRet (mCl0 (opF m_first_unlike [0, 1] []) 2 (maCons (mVar 0) (maCons (mVar 1) maNil)))) mNil))
def m_first_apart : MF := mFun 2 b_first_apart
def b_same_texts : MS := (mSeq (mDrop (mCl0 (opF m_check_two [0, 1] []) 2 (maCons (mVar 0) (maCons (mVar 1) maNil)))) (mSeq (mRet (mOp (opIs false) (mCl0 (opF m_first_unlike [0, 1] []) 2 (maCons (mVar 0) (maCons (mVar 1) maNil))) (mC .non))) mNil))
def m_same_texts : MF := mFun 2 b_same_texts
def b_first_common : MS := (mSeq (mDrop (mCl0 (opF m_check_two [0, 1] []) 2 (maCons (mVar 0) (maCons (mVar 1) maNil)))) (mSeq (mFor (miItemsT (mCl0 (opF m_pairs_of [0, 1] []) 2 (maCons (mVar 0) (maCons (mVar 1) maNil)))) (gTup' 2 (gsCons (gTup' 2 (gsCons (gName' 2) (gsCons (gName' 3) gsNil))) (gsCons (gName' 4) gsNil))) (mSeq (mIfS (mAnd (mTB (mOp (opInT false) (mVar 2) (mFld cs_ends [101, 110, 100, 115] (mVar 0)))) (mTB (mOp (opInT false) (mVar 3) (mFld cs_ends [101, 110, 100, 115] (mVar 1))))) (mSeq (mRet (mVar 4)) mNil) mNil) mNil)) (mSeq (mRet (mC .non)) mNil)))
def m_first_common : MF := mFun 5 b_first_common
def b_how_many_common : MS := (mSeq (mDrop (mCl0 (opF m_check_two [0, 1] []) 2 (maCons (mVar 0) (maCons (mVar 1) maNil)))) (mSeq (mDrop (mCl0 (opF m_check_length [0] []) 1 (maCons (mVar 2) maNil))) (mSeq (mPar 3 4 (mDictT (mTup (maCons (mC (.int 0)) (maCons (mC (.int 0)) maNil))) (mC (.int 1))) (mLstRg1 (mBt bMin2 (maCons (mFld cs_letters [108, 101, 116, 116, 101, 114, 115] (mVar 0)) (maCons (mFld cs_letters [108, 101, 116, 116, 101, 114, 115] (mVar 1)) maNil))))) (mSeq (mFor (miRng1 (maCons (mVar 2) maNil)) (gName' 5) (mSeq (mSet 6 mDict0) (mSeq (mFor (miItemsT (mVar 3)) (gTup' 2 (gsCons (gTup' 2 (gsCons (gName' 7) (gsCons (gName' 8) gsNil))) (gsCons (gName' 9) gsNil))) (mSeq (mFor (miVT (mVar 4)) (gName' 10) (mSeq (mSet 11 (mTup (maCons (mOp opIxT (mOp opIxT (mFld cs_arrows [97, 114, 114, 111, 119, 115] (mVar 0)) (mVar 7)) (mVar 10)) (maCons (mOp opIxT (mOp opIxT (mFld cs_arrows [97, 114, 114, 111, 119, 115] (mVar 1)) (mVar 8)) (mVar 10)) maNil)))) (mSeq (mIfS (mTB (mOp (opInT true) (mC .non) (mVar 11))) (mSeq (mAsg (mOp opAdd (mGet2T (mVar 6) (mVar 11) (mC (.int 0))) (mVar 9)) (gSubM oSetIxT (mVar 6) (mVar 11))) mNil) mNil) mNil))) mNil)) (mSeq (mSet 3 (mVar 6)) mNil)))) (mSeq (mRet (mBt bSum (maCons (mLc (miItemsT (mVar 3)) (Tg.tp (Tgs.cons (Tg.tp (Tgs.cons (Tg.nm 7) (Tgs.cons (Tg.nm 8) Tgs.nil))) (Tgs.cons (Tg.nm 9) Tgs.nil))) (mAnd (mTB (mOp (opInT false) (mVar 7) (mFld cs_ends [101, 110, 100, 115] (mVar 0)))) (mTB (mOp (opInT false) (mVar 8) (mFld cs_ends [101, 110, 100, 115] (mVar 1))))) (mVar 9) [7, 8, 9]) maNil))) mNil)))))
def m_how_many_common : MF := mFun 12 b_how_many_common
def b_how_many_apart : MS := (mSeq (mSet 3 (mCl0 (opF m_how_many_common [0, 1, 2] []) 3 (maCons (mVar 0) (maCons (mVar 1) (maCons (mVar 2) maNil))))) (mSeq (mRet (mOp opSub (mOp opAdd (mCl0 (opF m_count_of [0, 1] []) 2 (maCons (mVar 0) (maCons (mVar 2) maNil))) (mCl0 (opF m_count_of [0, 1] []) 2 (maCons (mVar 1) (maCons (mVar 2) maNil)))) (mOp opMul (mC (.int 2)) (mVar 3)))) mNil))
def m_how_many_apart : MF := mFun 4 b_how_many_apart
def b_trimmed : MS := (mSeq (mSet 1 (mCl0 (opF m_useful_of [0, 1] []) 2 (maCons (mFld cs_arrows [97, 114, 114, 111, 119, 115] (mVar 0)) (maCons (mFld cs_ends [101, 110, 100, 115] (mVar 0)) maNil)))) (mSeq (mSet 2 (mLst maNil)) (mSeq (mFor (miEnum (maCons (mFld cs_arrows [97, 114, 114, 111, 119, 115] (mVar 0)) maNil)) (gTup' 2 (gsCons (gName' 3) (gsCons (gName' 4) gsNil))) (mSeq (mDrop (mBM 1 oAppend (mVar 2) (maCons (mBt bTuple (maCons (mLc (miV (mVar 4)) (Tg.nm 5) mYes (mIf (mAnd (mTB (mOp (opIn false) (mVar 3) (mVar 1))) (mTB (mOp (opIn false) (mVar 5) (mVar 1)))) (mVar 5) (mC .non)) [5]) maNil)) maNil))) mNil)) (mSeq (mRet (mBt bTuple (maCons (mVar 2) maNil))) mNil))))
def m_trimmed : MF := mFun 6 b_trimmed
def b_marks_after : MS := (mSeq (mSet 2 (mLst maNil)) (mSeq (mFor (miEnum (maCons (mVar 0) maNil)) (gTup' 2 (gsCons (gName' 3) (gsCons (gName' 4) gsNil))) (mSeq (mDrop (mBM 1 oAppend (mVar 2) (maCons (mTup (maCons (mOp opIx (mVar 1) (mVar 3)) (maCons (mBt bTuple (maCons (mLc (miV (mVar 4)) (Tg.nm 5) mYes (mIf (mTB (mOp (opIs false) (mVar 5) (mC .non))) (mUn (unI fun i => -i) (mC (.int 1))) (mOp opIx (mVar 1) (mVar 5))) [5]) maNil)) maNil))) maNil))) mNil)) (mSeq (mRet (mLc (miV (mVar 2)) (Tg.nm 6) mYes (mBM 0 oIndex (mVar 2) (maCons (mVar 6) maNil)) [6])) mNil)))
def m_marks_after : MF := mFun 7 b_marks_after
def b_marks_of : MS := (mSeq (mSet 2 (mLc (miRng1 (maCons (mBt bLen (maCons (mVar 0) maNil)) maNil)) (Tg.nm 4) mYes (mIf (mTB (mOp (opIn false) (mVar 4) (mVar 1))) (mC (.int 1)) (mC (.int 0))) [4])) (mSeq (mFor (miRng1 (maCons (mBt bLen (maCons (mVar 0) maNil)) maNil)) (gName' 3) (mSeq (mSet 2 (mCl0 (opF m_marks_after [0, 1] []) 2 (maCons (mVar 0) (maCons (mVar 2) maNil)))) mNil)) (mSeq (mRet (mVar 2)) mNil)))
def m_marks_of : MF := mFun 5 b_marks_of
def b_least : MS := (mSeq (mDrop (mCl0 (opF m_check_machine [0] []) 1 (maCons (mVar 0) maNil))) (mSeq (mSet 1 (mCl0 (opF m_trimmed [0] []) 1 (maCons (mVar 0) maNil))) (mSeq (mSet 2 (mCl0 (opF m_marks_of [0, 1] []) 2 (maCons (mVar 1) (maCons (mFld cs_ends [101, 110, 100, 115] (mVar 0)) maNil)))) (mSeq (mPar 3 4 (mLst (maCons (mC (.int 0)) maNil)) (mC (.int 0))) (mSeq (mWhile WF (mTB (mOp opLt (mVar 4) (mBt bLen (maCons (mVar 3) maNil)))) (mSeq (mFor (miV (mOp opIx (mVar 1) (mOp opIx (mVar 3) (mVar 4)))) (gName' 5) (mSeq (mIfS (mAnd (mTB (mOp (opIs true) (mVar 5) (mC .non))) (mTB (mOp (opIn true) (mOp opIx (mVar 2) (mVar 5)) (mLc (miV (mVar 3)) (Tg.nm 9) mYes (mOp opIx (mVar 2) (mVar 9)) [9])))) (mSeq (mDrop (mBM 1 oAppend (mVar 3) (maCons (mVar 5) maNil))) mNil) mNil) mNil)) (mSeq (mAug 4 opIadd (mC (.int 1))) mNil))) (mSeq (mSet 6 (mLc (miV (mVar 3)) (Tg.nm 9) mYes (mOp opIx (mVar 2) (mVar 9)) [9])) (mSeq (mSet 7 (mLc (miV (mVar 3)) (Tg.nm 9) mYes (mBt bTuple (maCons (mLc (miV (mOp opIx (mVar 1) (mVar 9))) (Tg.nm 5) mYes (mIf (mTB (mOp (opIs false) (mVar 5) (mC .non))) (mC .non) (mBM 0 oIndex (mVar 6) (maCons (mOp opIx (mVar 2) (mVar 5)) maNil))) [5]) maNil)) [9])) (mSeq (mSet 8 (mBt bTuple (maCons (mLc (miEnum (maCons (mVar 3) maNil)) (Tg.tp (Tgs.cons (Tg.nm 10) (Tgs.cons (Tg.nm 9) Tgs.nil))) (mTB (mOp (opIn false) (mVar 9) (mFld cs_ends [101, 110, 100, 115] (mVar 0)))) (mVar 10) [10, 9]) maNil))) (mSeq (mRet (mCl0 (opC 0 m_Machine___init__ [0, 1, 2, 3] []) 3 (maCons (mFld cs_letters [108, 101, 116, 116, 101, 114, 115] (mVar 0)) (maCons (mBt bTuple (maCons (mVar 7) maNil)) (maCons (mVar 8) maNil))))) mNil)))))))))
def m_least : MF := mFun 11 b_least
def b_check_torn : MS := (mSeq (mIfS (mOr (mNot (mTru (mIsi tb_tuple cs_isi_tuple (mVar 0)))) (mTB (mOp opNe (mBt bLen (maCons (mVar 0) maNil)) (mFld cs_letters [108, 101, 116, 116, 101, 114, 115] (mVar 1))))) mNever mNil) (mSeq (mFor (miEnum (maCons (mVar 0) maNil)) (gTup' 2 (gsCons (gName' 2) (gsCons (gName' 3) gsNil))) (mSeq (mIfS (mAnd (mTB (mOp (opIs true) (mVar 3) (mC .non))) (mNot (mTru (mCl0 (opF m_is_word [0] []) 1 (maCons (mVar 3) maNil))))) mNever mNil) mNil)) mNil))
def m_check_torn : MF := mFun 4 b_check_torn
def b_check_filling : MS := (mSeq (mDrop (mCl0 (opF m_check_machine [0] []) 1 (maCons (mVar 0) maNil))) (mSeq (mDrop (mCl0 (opF m_check_torn [0, 1] []) 2 (maCons (mVar 1) (maCons (mVar 0) maNil)))) (mSeq (mDrop (mCl0 (opF m_check_book [0, 1] []) 2 (maCons (mVar 2) (maCons (mVar 0) maNil)))) (mSeq (mIfS (mNot (mTru (mCl0 (opF m_is_between [0, 1, 2] []) 3 (maCons (mVar 3) (maCons (mC (.int 0)) (maCons (mC (.int 3)) maNil)))))) mNever mNil) (mSeq (mIfS (mTB (mOp opGt (mBt bLen (maCons (mLc (miV (mVar 1)) (Tg.nm 4) (mTB (mOp (opIs false) (mVar 4) (mC .non))) (mVar 4) [4]) maNil)) (mC (.int 2)))) mNever mNil) mNil)))))
def m_check_filling : MF := mFun 5 b_check_filling
def b_all_words : MS := (mSeq (mPar 1 2 (mLst (maCons (mC (.str [])) maNil)) (mLst (maCons (mC (.str [])) maNil))) (mSeq (mFor (miRng1 (maCons (mVar 0) maNil)) (gName' 3) (mSeq (mSet 4 (mLst maNil)) (mSeq (mFor (miV (mVar 2)) (gName' 5) (mSeq (mAug 4 opIadd (mLc (miV (mC (.str [120, 121, 122]))) (Tg.nm 6) mYes (mOp opAdd (mVar 5) (mVar 6)) [6])) mNil)) (mSeq (mPar 1 2 (mOp opAdd (mVar 1) (mVar 4)) (mVar 4)) mNil)))) (mSeq (mRet (mVar 1)) mNil)))
def m_all_words : MF := mFun 7 b_all_words
def b_all_books : MS := (mSeq (mPar 2 3 (mLst (maCons (mTup maNil) maNil)) (mCl0 (opF m_all_words [0] []) 1 (maCons (mVar 1) maNil))) (mSeq (mFor (miV (mVar 0)) (gName' 4) (mSeq (mSet 5 (mLst maNil)) (mSeq (mFor (miV (mVar 2)) (gName' 6) (mSeq (mAug 5 opIadd (mLc (miV (mIf (mTB (mOp (opIs false) (mVar 4) (mC .non))) (mVar 3) (mLst (maCons (mVar 4) maNil)))) (Tg.nm 7) mYes (mTup (maStar (mVar 6) (maCons (mVar 7) maNil))) [7])) mNil)) (mSeq (mSet 2 (mVar 5)) mNil)))) (mSeq (mRet (mVar 2)) mNil)))
def m_all_books : MF := mFun 8 b_all_books
def b_fillings_of : MS := (mSeq (mSet 4 (mBt bSorted (maCons (mCl0 (opF m_all_books [0, 1] []) 2 (maCons (mVar 1) (maCons (mVar 3) maNil))) maNil))) (mSeq (mRet (mBt bTuple (maCons (mLc (miV (mVar 4)) (Tg.nm 5) (mTB (mOp (opIs true) (mCl0 (opF m_lags_of [0, 1, 2, 3] []) 4 (maCons (mFld cs_arrows [97, 114, 114, 111, 119, 115] (mVar 0)) (maCons (mFld cs_ends [101, 110, 100, 115] (mVar 0)) (maCons (mVar 5) (maCons (mVar 2) maNil))))) (mC .non))) (mVar 5) [5]) maNil))) mNil))
def m_fillings_of : MF := mFun 6 b_fillings_of
def b_fillings : MS := (mSeq (mDrop (mCl0 (opF m_check_filling [0, 1, 2, 3] []) 4 (maCons (mVar 0) (maCons (mVar 1) (maCons (mVar 2) (maCons (mVar 3) maNil)))))) (mSeq (mRet (mCl0 (opF m_fillings_of [0, 1, 2, 3] []) 4 (maCons (mVar 0) (maCons (mVar 1) (maCons (mVar 2) (maCons (mVar 3) maNil)))))) mNil))
def m_fillings : MF := mFun 4 b_fillings
def b_sure_words : MS := (mSeq (mDrop (mCl0 (opF m_check_filling [0, 1, 2, 3] []) 4 (maCons (mVar 0) (maCons (mVar 1) (maCons (mVar 2) (maCons (mVar 3) maNil)))))) (mSeq (mSet 4 (mCl0 (opF m_fillings_of [0, 1, 2, 3] []) 4 (maCons (mVar 0) (maCons (mVar 1) (maCons (mVar 2) (maCons (mVar 3) maNil)))))) (mSeq (mIfS (mTB (mOp opEq (mBt bLen (maCons (mVar 4) maNil)) (mC (.int 0)))) (mSeq (mRet (mC .non)) mNil) mNil) (mSeq (mSet 5 (mLst maNil)) (mSeq (mFor (miEnum (maCons (mOp opIx (mVar 4) (mC (.int 0))) maNil)) (gTup' 2 (gsCons (gName' 6) (gsCons (gName' 7) gsNil))) (mSeq (mDrop (mBM 1 oAppend (mVar 5) (maCons (mIf (mTru (mBt bAll (maCons (mLc (miV (mVar 4)) (Tg.nm 8) mYes (mOp opEq (mOp opIx (mVar 8) (mVar 6)) (mVar 7)) [8]) maNil))) (mVar 7) (mC .non)) maNil))) mNil)) (mSeq (mRet (mBt bTuple (maCons (mVar 5) maNil))) mNil))))))
def m_sure_words : MF := mFun 9 b_sure_words
def b_is_book : MS := (mSeq (mRet (mAndV (mIsi tb_tuple cs_isi_tuple (mVar 0)) (mAndV (mOp opEq (mBt bLen (maCons (mVar 0) maNil)) (mVar 1)) (mBt bAll (maCons (mLc (miV (mVar 0)) (Tg.nm 2) mYes (mCl0 (opF m_is_word [0] []) 1 (maCons (mVar 2) maNil)) [2]) maNil))))) mNil)
def m_is_book : MF := mFun 3 b_is_book
def b_are_books : MS := (mSeq (mRet (mBt bAll (maCons (mLc (miV (mVar 1)) (Tg.nm 2) mYes (mCl0 (opF m_is_book [0, 1] []) 2 (maCons (mVar 2) (maCons (mOp opIx (mVar 0) (mC (.int 0))) maNil))) [2]) maNil))) mNil)
def m_are_books : MF := mFun 3 b_are_books
def b_is_lag : MS := (mSeq (mIfS (mOr (mNot (mTru (mIsi tb_tuple cs_isi_tuple (mVar 0)))) (mOr (mTB (mOp opNe (mBt bLen (maCons (mVar 0) maNil)) (mC (.int 2)))) (mNot (mTru (mCl0 (opF m_is_between [0, 1, 2] []) 3 (maCons (mOp opIx (mVar 0) (mC (.int 0))) (maCons (mC (.int 0)) (maCons (mC (.int 1)) maNil)))))))) (mSeq (mRet (mC (.bl false))) mNil) mNil) (mSeq (mRet (mAndV (mIsi tb_str cs_isi_str (mOp opIx (mVar 0) (mC (.int 1)))) (mOrV (mOp opEq (mOp opIx (mVar 0) (mC (.int 0))) (mC (.int 0))) (mOp opNe (mOp opIx (mVar 0) (mC (.int 1))) (mC (.str [])))))) mNil))
def m_is_lag : MF := mFun 1 b_is_lag
def tabM_ : List (Nat × MF) := [(9, m_is_lag), (10, m_is_integer)]
def b_are_marks : MS := (mSeq (mSet 4 (mCl0 (opF m_useful_of [0, 1] []) 2 (maCons (mOp opIx (mVar 0) (mC (.int 1))) (maCons (mOp opIx (mVar 0) (mC (.int 2))) maNil)))) (mSeq (mIfS (mOr (mNot (mTru (mIsi tb_tuple cs_isi_tuple (mVar 1)))) (mTB (mOp opNe (mBt bLen (maCons (mVar 1) maNil)) (mBt bLen (maCons (mOp opIx (mVar 0) (mC (.int 1))) maNil))))) (mSeq (mRet (mC (.bl false))) mNil) mNil) (mSeq (mFor (miEnum (maCons (mVar 1) maNil)) (gTup' 2 (gsCons (gName' 5) (gsCons (gName' 6) gsNil))) (mSeq (mIfS (mNot (mIfT (mTB (mOp (opIn false) (mVar 5) (mVar 4))) (mTru (mCallV 2 tabM_ 1 (maCons (mVar 6) maNil))) (mTB (mOp (opIs false) (mVar 6) (mC .non))))) (mSeq (mRet (mC (.bl false))) mNil) mNil) mNil)) (mSeq (mRet (mBt bAll (maCons (mLc (miV (mVar 4)) (Tg.nm 5) (mOr (mTB (mOp opEq (mVar 5) (mC (.int 0)))) (mTB (mOp (opIn false) (mVar 5) (mOp opIx (mVar 0) (mC (.int 2)))))) (mOp opEq (mOp opIx (mVar 1) (mVar 5)) (mVar 3)) [5]) maNil))) mNil))))
def m_are_marks : MF := mFun 7 b_are_marks
def b_useful_arrows : MS := (mSeq (mAsg (mTup (maCons (mCl0 (opF m_useful_of [0, 1] []) 2 (maCons (mFld cs_arrows [97, 114, 114, 111, 119, 115] (mVar 0)) (maCons (mFld cs_ends [101, 110, 100, 115] (mVar 0)) maNil))) (maCons (mLst maNil) maNil))) (gTup' 2 (gsCons (gName' 1) (gsCons (gName' 2) gsNil)))) (mSeq (mFor (miV (mVar 1)) (gName' 3) (mSeq (mSet 4 (mOp opIx (mFld cs_arrows [97, 114, 114, 111, 119, 115] (mVar 0)) (mVar 3))) (mSeq (mAug 2 opIadd (mLc (miEnum (maCons (mVar 4) maNil)) (Tg.tp (Tgs.cons (Tg.nm 5) (Tgs.cons (Tg.nm 6) Tgs.nil))) (mTB (mOp (opIn false) (mVar 6) (mVar 1))) (mTup (maCons (mVar 3) (maCons (mVar 5) (maCons (mVar 6) maNil)))) [5, 6])) mNil))) (mSeq (mRet (mVar 2)) mNil)))
def m_useful_arrows : MF := mFun 7 b_useful_arrows
def b_shows_agree : MS := (mSeq (mIfS (mOr (mNot (mTru (mCl0 (opF m_are_books [0, 1] []) 2 (maCons (mVar 0) (maCons (mVar 1) maNil))))) (mNot (mTru (mCl0 (opF m_are_marks [0, 1, 2, 3] []) 4 (maCons (mVar 0) (maCons (mVar 2) (maCons (mC (.gl 9)) (maCons (mC (.tup [.int 0, .str []])) maNil)))))))) (mSeq (mRet (mC (.bl false))) mNil) mNil) (mSeq (mAsg (mVar 1) (gTup' 2 (gsCons (gName' 3) (gsCons (gName' 4) gsNil)))) (mSeq (mFor (miV (mCl0 (opF m_useful_arrows [0] []) 1 (maCons (mCl0 (opF m_made_of [0] []) 1 (maCons (mVar 0) maNil)) maNil))) (gTup' 3 (gsCons (gName' 5) (gsCons (gName' 6) (gsCons (gName' 7) gsNil)))) (mSeq (mIfS (mTB (mOp opNe (mCl0 (opF m_next_lag [0, 1, 2] []) 3 (maCons (mOp opIx (mVar 2) (mVar 5)) (maCons (mOp opIx (mVar 3) (mVar 6)) (maCons (mOp opIx (mVar 4) (mVar 6)) maNil)))) (mOp opIx (mVar 2) (mVar 7)))) (mSeq (mRet (mC (.bl false))) mNil) mNil) mNil)) (mSeq (mRet (mC (.bl true))) mNil))))
def m_shows_agree : MF := mFun 8 b_shows_agree
def b_leads_to_end : MS := (mSeq (mIfS (mOr (mNot (mTru (mIsi tb_str cs_isi_str (mVar 1)))) (mNot (mTru (mBt bAll (maCons (mLc (miV (mVar 1)) (Tg.nm 2) mYes (mOp (opIn false) (mVar 2) (mC (.str [97, 98, 99, 100, 101]))) [2]) maNil))))) (mSeq (mRet (mC (.bl false))) mNil) mNil) (mSeq (mRet (mOp (opIn false) (mCl0 (opF m_goal_from [0, 1, 2] []) 3 (maCons (mOp opIx (mVar 0) (mC (.int 1))) (maCons (mC (.int 0)) (maCons (mVar 1) maNil)))) (mOp opIx (mVar 0) (mC (.int 2))))) mNil))
def m_leads_to_end : MF := mFun 3 b_leads_to_end
def b_shows_differ : MS := (mSeq (mIfS (mOr (mNot (mTru (mCl0 (opF m_are_books [0, 1] []) 2 (maCons (mVar 0) (maCons (mVar 1) maNil))))) (mNot (mTru (mCl0 (opF m_leads_to_end [0, 1] []) 2 (maCons (mVar 0) (maCons (mVar 2) maNil)))))) (mSeq (mRet (mC (.bl false))) mNil) mNil) (mSeq (mRet (mOp opNe (mCl0 (opF m_version_of [0, 1] []) 2 (maCons (mOp opIx (mVar 1) (mC (.int 0))) (maCons (mVar 2) maNil))) (mCl0 (opF m_version_of [0, 1] []) 2 (maCons (mOp opIx (mVar 1) (mC (.int 1))) (maCons (mVar 2) maNil))))) mNil))
def m_shows_differ : MF := mFun 3 b_shows_differ
def b_are_pairs : MS := (mSeq (mIfS (mNot (mTru (mIsi tb_tuple cs_isi_tuple (mVar 2)))) (mSeq (mRet (mC (.bl false))) mNil) mNil) (mSeq (mFor (miEnum (maCons (mVar 2) maNil)) (gTup' 2 (gsCons (gName' 3) (gsCons (gName' 4) gsNil))) (mSeq (mIfS (mOr (mNot (mTru (mIsi tb_tuple cs_isi_tuple (mVar 4)))) (mOr (mTB (mOp opNe (mBt bLen (maCons (mVar 4) maNil)) (mC (.int 2)))) (mTB (mOp (opIn false) (mVar 4) (mSl (mVar 2) moNone (moSome (mVar 3))))))) (mSeq (mRet (mC (.bl false))) mNil) mNil) (mSeq (mIfS (mOr (mNot (mTru (mCl0 (opF m_is_goal [0, 1] []) 2 (maCons (mOp opIx (mVar 4) (mC (.int 0))) (maCons (mBt bLen (maCons (mOp opIx (mVar 0) (mC (.int 1))) maNil)) maNil))))) (mNot (mTru (mCl0 (opF m_is_goal [0, 1] []) 2 (maCons (mOp opIx (mVar 4) (mC (.int 1))) (maCons (mBt bLen (maCons (mOp opIx (mVar 1) (mC (.int 1))) maNil)) maNil)))))) (mSeq (mRet (mC (.bl false))) mNil) mNil) mNil))) (mSeq (mRet (mC (.bl true))) mNil)))
def m_are_pairs : MF := mFun 5 b_are_pairs
def b_shows_same : MS := (mSeq (mSet 3 (mOp opIx (mVar 1) (mC (.int 0)))) (mSeq (mIfS (mOr (mNot (mTru (mCl0 (opF m_is_told [0] []) 1 (maCons (mVar 3) maNil)))) (mOr (mNot (mTru (mCl0 (opF m_are_pairs [0, 1, 2] []) 3 (maCons (mVar 0) (maCons (mVar 3) (maCons (mVar 2) maNil)))))) (mTB (mOp (opIn true) (mTup (maCons (mC (.int 0)) (maCons (mC (.int 0)) maNil))) (mVar 2))))) (mSeq (mRet (mC (.bl false))) mNil) mNil) (mSeq (mFor (miV (mVar 2)) (gTup' 2 (gsCons (gName' 4) (gsCons (gName' 5) gsNil))) (mSeq (mIfS (mTB (mOp opNe (mOp (opIn false) (mVar 4) (mOp opIx (mVar 0) (mC (.int 2)))) (mOp (opIn false) (mVar 5) (mOp opIx (mVar 3) (mC (.int 2)))))) (mSeq (mRet (mC (.bl false))) mNil) mNil) (mSeq (mFor (miRng1 (maCons (mBt bMax2 (maCons (mOp opIx (mVar 0) (mC (.int 0))) (maCons (mOp opIx (mVar 3) (mC (.int 0))) maNil))) maNil)) (gName' 6) (mSeq (mSet 7 (mTup (maCons (mCl0 (opF m_goal_of [0, 1, 2] []) 3 (maCons (mOp opIx (mVar 0) (mC (.int 1))) (maCons (mVar 4) (maCons (mVar 6) maNil)))) (maCons (mCl0 (opF m_goal_of [0, 1, 2] []) 3 (maCons (mOp opIx (mVar 3) (mC (.int 1))) (maCons (mVar 5) (maCons (mVar 6) maNil)))) maNil)))) (mSeq (mIfS (mAnd (mTB (mOp opNe (mVar 7) (mTup (maCons (mC .non) (maCons (mC .non) maNil))))) (mTB (mOp (opIn true) (mVar 7) (mVar 2)))) (mSeq (mRet (mC (.bl false))) mNil) mNil) mNil))) mNil))) (mSeq (mRet (mC (.bl true))) mNil))))
def m_shows_same : MF := mFun 8 b_shows_same
def b_shows_apart : MS := (mSeq (mRet (mAndV (mCl0 (opF m_is_told [0] []) 1 (maCons (mOp opIx (mVar 1) (mC (.int 0))) maNil)) (mOp opNe (mCl0 (opF m_leads_to_end [0, 1] []) 2 (maCons (mVar 0) (maCons (mVar 2) maNil))) (mCl0 (opF m_leads_to_end [0, 1] []) 2 (maCons (mOp opIx (mVar 1) (mC (.int 0))) (maCons (mVar 2) maNil)))))) mNil)
def m_shows_apart : MF := mFun 3 b_shows_apart
def b_shows_lengths : MS := (mSeq (mIfS (mOr (mNot (mTru (mCl0 (opF m_are_books [0, 1] []) 2 (maCons (mVar 0) (maCons (mVar 1) maNil))))) (mNot (mTru (mCl0 (opF m_are_marks [0, 1, 2, 3] []) 4 (maCons (mVar 0) (maCons (mVar 2) (maCons (mC (.gl 10)) (maCons (mC (.int 0)) maNil)))))))) (mSeq (mRet (mC (.bl false))) mNil) mNil) (mSeq (mSet 3 (mCl0 (opF m_length_steps [0, 1] []) 2 (maCons (mOp opIx (mVar 1) (mC (.int 0))) (maCons (mOp opIx (mVar 1) (mC (.int 1))) maNil)))) (mSeq (mRet (mBt bAll (maCons (mLc (miV (mCl0 (opF m_useful_arrows [0] []) 1 (maCons (mCl0 (opF m_made_of [0] []) 1 (maCons (mVar 0) maNil)) maNil))) (Tg.tp (Tgs.cons (Tg.nm 4) (Tgs.cons (Tg.nm 5) (Tgs.cons (Tg.nm 6) Tgs.nil)))) mYes (mOp opEq (mOp opAdd (mOp opIx (mVar 2) (mVar 4)) (mOp opIx (mVar 3) (mVar 5))) (mOp opIx (mVar 2) (mVar 6))) [4, 5, 6]) maNil))) mNil)))
def m_shows_lengths : MF := mFun 7 b_shows_lengths
def b_Paths_steps : MS := (mSeq (mSet 2 (mLst maNil)) (mSeq (mFor (miEnum (maCons (mOp opIx (mFld cs_arrows [97, 114, 114, 111, 119, 115] (mVar 0)) (mVar 1)) maNil)) (gTup' 2 (gsCons (gName' 3) (gsCons (gName' 4) gsNil))) (mSeq (mIfS (mTB (mOp (opIn false) (mVar 4) (mFld cs_stands [115, 116, 97, 110, 100, 115] (mVar 0)))) (mSeq (mDrop (mBM 1 oAppend (mVar 2) (maCons (mTup (maCons (mOp opIx (mC (.str [97, 98, 99, 100, 101])) (mVar 3)) (maCons (mOp opIx (mFld cs_book [98, 111, 111, 107] (mVar 0)) (mVar 3)) (maCons (mVar 4) maNil)))) maNil))) mNil) mNil) mNil)) (mSeq (mRet (mVar 2)) mNil)))
def m_Paths_steps : MF := mFun 5 b_Paths_steps
def b_Paths_empty_rows : MS := (mSeq (mPar 2 3 mDict0 (mLst (maCons (mTup (maCons (mVar 1) (maCons (mC (.str [])) maNil))) maNil))) (mSeq (mWhile WF (mTB (mOp opGt (mBt bLen (maCons (mVar 3) maNil)) (mC (.int 0)))) (mSeq (mAsg (mBM 1 oPop (mVar 3) maNil) (gTup' 2 (gsCons (gName' 4) (gsCons (gName' 5) gsNil)))) (mSeq (mFor (miV (mMe 6 [115, 116, 101, 112, 115] (opF m_Paths_steps [0, 1] []) 2 (mVar 0) (maCons (mVar 4) maNil))) (gTup' 3 (gsCons (gName' 6) (gsCons (gName' 7) (gsCons (gName' 8) gsNil)))) (mSeq (mIfS (mAnd (mTB (mOp opEq (mVar 7) (mC (.str [])))) (mTB (mOp (opIn true) (mVar 8) (mVar 2)))) (mSeq (mAsg (mOp opAdd (mVar 5) (mVar 6)) (gSubM oSetIxD (mVar 2) (mVar 8))) (mSeq (mDrop (mBM 1 oAppend (mVar 3) (maCons (mTup (maCons (mVar 8) (maCons (mOp opAdd (mVar 5) (mVar 6)) maNil))) maNil))) mNil)) mNil) mNil)) mNil))) (mSeq (mRet (mVar 2)) mNil)))
def m_Paths_empty_rows : MF := mFun 9 b_Paths_empty_rows
def b_Paths_begun : MS := (mSeq (mFor (miV (mFld cs_ends [101, 110, 100, 115] (mVar 0))) (gName' 2) (mSeq (mIfS (mTB (mOp (opIn false) (mVar 2) (mFld cs_stands [115, 116, 97, 110, 100, 115] (mVar 0)))) (mSeq (mFor (miItems (mMe 6 [101, 109, 112, 116, 121, 95, 114, 111, 119, 115] (opF m_Paths_empty_rows [0, 1] []) 2 (mVar 0) (maCons (mVar 2) maNil))) (gTup' 2 (gsCons (gName' 3) (gsCons (gName' 4) gsNil))) (mSeq (mIfS (mTB (mOp (opIn false) (mVar 3) (mFld cs_ends [101, 110, 100, 115] (mVar 0)))) (mSeq (mRet (mTup (maCons (mOp opIx (mVar 1) (mVar 2)) (maCons (mOp opAdd (mOp opIx (mVar 1) (mVar 2)) (mVar 4)) maNil)))) mNil) mNil) mNil)) mNil) mNil) mNil)) (mSeq (mRet (mC .non)) mNil))
def m_Paths_begun : MF := mFun 5 b_Paths_begun
def b_Paths_parted : MS := (mSeq (mSet 2 mDict0) (mSeq (mFor (miV (mFld cs_stands [115, 116, 97, 110, 100, 115] (mVar 0))) (gName' 3) (mSeq (mSet 4 (mMe 6 [115, 116, 101, 112, 115] (opF m_Paths_steps [0, 1] []) 2 (mVar 0) (maCons (mVar 3) maNil))) (mSeq (mFor (miEnum (maCons (mVar 4) maNil)) (gTup' 2 (gsCons (gName' 5) (gsCons (gTup' 3 (gsCons (gName' 6) (gsCons (gName' 7) (gsCons (gName' 8) gsNil)))) gsNil))) (mSeq (mFor (miV (mSl (mVar 4) (moSome (mOp opAdd (mVar 5) (mC (.int 1)))) moNone)) (gTup' 3 (gsCons (gName' 9) (gsCons (gName' 10) (gsCons (gName' 11) gsNil)))) (mSeq (mSet 12 (mCl0 (opF m_next_lag [0, 1, 2] []) 3 (maCons (mC (.tup [.int 0, .str []])) (maCons (mVar 7) (maCons (mVar 10) maNil))))) (mSeq (mIfS (mTB (mOp opNe (mVar 12) (mC (.tup [.int 2, .str []])))) (mSeq (mAsg (mTup (maCons (mOp opAdd (mOp opIxT (mVar 1) (mVar 3)) (mVar 6)) (maCons (mOp opAdd (mOp opIxT (mVar 1) (mVar 3)) (mVar 9)) maNil))) (gSubM oSetIxT (mVar 2) (mTup (maCons (mVar 8) (maCons (mVar 11) (maCons (mVar 12) maNil)))))) mNil) mNil) mNil))) mNil)) mNil))) (mSeq (mRet (mVar 2)) mNil)))
def m_Paths_parted : MF := mFun 13 b_Paths_parted
def b_Paths_further : MS := (mSeq (mAsg (mTup (maCons (mVar 1) (maCons (mLst maNil) maNil))) (gTup' 2 (gsCons (gTup' 3 (gsCons (gName' 3) (gsCons (gName' 4) (gsCons (gName' 5) gsNil)))) (gsCons (gName' 6) gsNil)))) (mSeq (mIfS (mOr (mTB (mOp opEq (mOp opIx (mVar 5) (mC (.int 0))) (mC (.int 1)))) (mTB (mOp opEq (mVar 5) (mC (.tup [.int 0, .str []]))))) (mSeq (mFor (miV (mMe 6 [115, 116, 101, 112, 115] (opF m_Paths_steps [0, 1] []) 2 (mVar 0) (maCons (mVar 3) maNil))) (gTup' 3 (gsCons (gName' 7) (gsCons (gName' 8) (gsCons (gName' 9) gsNil)))) (mSeq (mDrop (mBM 1 oAppend (mVar 6) (maCons (mTup (maCons (mTup (maCons (mVar 9) (maCons (mVar 4) (maCons (mCl0 (opF m_next_lag [0, 1, 2] []) 3 (maCons (mVar 5) (maCons (mVar 8) (maCons (mC (.str [])) maNil)))) maNil)))) (maCons (mTup (maCons (mOp opAdd (mOp opIx (mVar 2) (mC (.int 0))) (mVar 7)) (maCons (mOp opIx (mVar 2) (mC (.int 1))) maNil))) maNil))) maNil))) mNil)) mNil) mNil) (mSeq (mIfS (mTB (mOp opEq (mOp opIx (mVar 5) (mC (.int 0))) (mC (.int 0)))) (mSeq (mFor (miV (mMe 6 [115, 116, 101, 112, 115] (opF m_Paths_steps [0, 1] []) 2 (mVar 0) (maCons (mVar 4) maNil))) (gTup' 3 (gsCons (gName' 7) (gsCons (gName' 8) (gsCons (gName' 9) gsNil)))) (mSeq (mDrop (mBM 1 oAppend (mVar 6) (maCons (mTup (maCons (mTup (maCons (mVar 3) (maCons (mVar 9) (maCons (mCl0 (opF m_next_lag [0, 1, 2] []) 3 (maCons (mVar 5) (maCons (mC (.str [])) (maCons (mVar 8) maNil)))) maNil)))) (maCons (mTup (maCons (mOp opIx (mVar 2) (mC (.int 0))) (maCons (mOp opAdd (mOp opIx (mVar 2) (mC (.int 1))) (mVar 7)) maNil))) maNil))) maNil))) mNil)) mNil) mNil) (mSeq (mRet (mLc (miV (mVar 6)) (Tg.nm 10) (mTB (mOp opNe (mOp opIx (mOp opIx (mVar 10) (mC (.int 0))) (mC (.int 2))) (mC (.tup [.int 2, .str []])))) (mVar 10) [10])) mNil))))
def m_Paths_further : MF := mFun 11 b_Paths_further
def b_Paths_clash : MS := (mSeq (mSet 1 (mCl0 (opF m_first_rows [0, 1] []) 2 (maCons (mFld cs_arrows [97, 114, 114, 111, 119, 115] (mVar 0)) (maCons (mC (.int 0)) maNil)))) (mSeq (mSet 2 (mMe 6 [98, 101, 103, 117, 110] (opF m_Paths_begun [0, 1] []) 2 (mVar 0) (maCons (mVar 1) maNil))) (mSeq (mIfS (mTB (mOp (opIs true) (mVar 2) (mC .non))) (mSeq (mRet (mVar 2)) mNil) mNil) (mSeq (mSet 3 (mMe 6 [112, 97, 114, 116, 101, 100] (opF m_Paths_parted [0, 1] []) 2 (mVar 0) (maCons (mVar 1) maNil))) (mSeq (mSet 4 (mBt bListT (maCons (mVar 3) maNil))) (mSeq (mWhile WF (mTB (mOp opGt (mBt bLen (maCons (mVar 4) maNil)) (mC (.int 0)))) (mSeq (mSet 5 (mLst maNil)) (mSeq (mFor (miVT (mVar 4)) (gName' 6) (mSeq (mIfS (mAnd (mTB (mOp (opInT false) (mOp opIxT (mVar 6) (mC (.int 0))) (mFld cs_ends [101, 110, 100, 115] (mVar 0)))) (mAnd (mTB (mOp (opInT false) (mOp opIxT (mVar 6) (mC (.int 1))) (mFld cs_ends [101, 110, 100, 115] (mVar 0)))) (mTB (mOp opEq (mOp opIxT (mVar 6) (mC (.int 2))) (mC (.tup [.int 0, .str []])))))) (mSeq (mRet (mOp opIxT (mVar 3) (mVar 6))) mNil) mNil) (mSeq (mFor (miV (mMe 6 [102, 117, 114, 116, 104, 101, 114] (opF m_Paths_further [0, 1, 2] []) 3 (mVar 0) (maCons (mVar 6) (maCons (mOp opIxT (mVar 3) (mVar 6)) maNil)))) (gTup' 2 (gsCons (gName' 7) (gsCons (gName' 8) gsNil))) (mSeq (mIfS (mTB (mOp (opInT true) (mVar 7) (mVar 3))) (mSeq (mAsg (mVar 8) (gSubM oSetIxT (mVar 3) (mVar 7))) (mSeq (mDrop (mBM 1 oAppend (mVar 5) (maCons (mVar 7) maNil))) mNil)) mNil) mNil)) mNil))) (mSeq (mSet 4 (mVar 5)) mNil)))) (mSeq (mRet (mC .non)) mNil)))))))
def m_Paths_clash : MF := mFun 9 b_Paths_clash
def b_Paths___init__ : MS := (mSeq (mSetF cs_arrows [97, 114, 114, 111, 119, 115] (mVar 0) (mFld cs_arrows [97, 114, 114, 111, 119, 115] (mVar 1))) (mSeq (mSetF cs_ends [101, 110, 100, 115] (mVar 0) (mFld cs_ends [101, 110, 100, 115] (mVar 1))) (mSeq (mSetF cs_book [98, 111, 111, 107] (mVar 0) (mVar 2)) (mSeq (mSetF cs_stands [115, 116, 97, 110, 100, 115] (mVar 0) (mCl0 (opF m_useful_of [0, 1] []) 2 (maCons (mFld cs_arrows [97, 114, 114, 111, 119, 115] (mVar 1)) (maCons (mFld cs_ends [101, 110, 100, 115] (mVar 1)) maNil)))) mNil))))
def m_Paths___init__ : MF := mFun 3 b_Paths___init__
def b_shows_readable : MS := (mSeq (mRet (mAndV (mCl0 (opF m_are_books [0, 1] []) 2 (maCons (mVar 0) (maCons (mVar 1) maNil))) (mAndV (mCl0 (opF m_is_empty [0] []) 1 (maCons (mVar 2) maNil)) (mOp (opIs false) (mMe 6 [99, 108, 97, 115, 104] (opF m_Paths_clash [0] []) 1 (mCl0 (opC 6 m_Paths___init__ [0, 1, 2] []) 2 (maCons (mCl0 (opF m_made_of [0] []) 1 (maCons (mVar 0) maNil)) (maCons (mOp opIx (mVar 1) (mC (.int 0))) maNil))) maNil) (mC .non))))) mNil)
def m_shows_readable : MF := mFun 3 b_shows_readable
def b_shows_clash : MS := (mSeq (mIfS (mOr (mNot (mTru (mCl0 (opF m_are_books [0, 1] []) 2 (maCons (mVar 0) (maCons (mVar 1) maNil))))) (mOr (mNot (mTru (mIsi tb_tuple cs_isi_tuple (mVar 2)))) (mTB (mOp opNe (mBt bLen (maCons (mVar 2) maNil)) (mC (.int 2)))))) (mSeq (mRet (mC (.bl false))) mNil) mNil) (mSeq (mIfS (mOr (mNot (mTru (mBt bAll (maCons (mLc (miV (mVar 2)) (Tg.nm 3) mYes (mCl0 (opF m_leads_to_end [0, 1] []) 2 (maCons (mVar 0) (maCons (mVar 3) maNil))) [3]) maNil)))) (mTB (mOp opEq (mOp opIx (mVar 2) (mC (.int 0))) (mOp opIx (mVar 2) (mC (.int 1)))))) (mSeq (mRet (mC (.bl false))) mNil) mNil) (mSeq (mRet (mOp opEq (mCl0 (opF m_version_of [0, 1] []) 2 (maCons (mOp opIx (mVar 1) (mC (.int 0))) (maCons (mOp opIx (mVar 2) (mC (.int 0))) maNil))) (mCl0 (opF m_version_of [0, 1] []) 2 (maCons (mOp opIx (mVar 1) (mC (.int 0))) (maCons (mOp opIx (mVar 2) (mC (.int 1))) maNil))))) mNil)))
def m_shows_clash : MF := mFun 4 b_shows_clash
def b_certify_books : MS := (mSeq (mDrop (mCl0 (opF m_check_books [0, 1, 2] []) 3 (maCons (mVar 0) (maCons (mVar 1) (maCons (mVar 2) maNil))))) (mSeq (mSet 3 (mCl0 (opF m_lags_of [0, 1, 2, 3] []) 4 (maCons (mFld cs_arrows [97, 114, 114, 111, 119, 115] (mVar 0)) (maCons (mFld cs_ends [101, 110, 100, 115] (mVar 0)) (maCons (mVar 1) (maCons (mVar 2) maNil)))))) (mSeq (mIfS (mTB (mOp (opIs false) (mVar 3) (mC .non))) (mSeq (mSet 4 (mCl0 (opF m_difference_of [0, 1, 2, 3] []) 4 (maCons (mFld cs_arrows [97, 114, 114, 111, 119, 115] (mVar 0)) (maCons (mFld cs_ends [101, 110, 100, 115] (mVar 0)) (maCons (mVar 1) (maCons (mVar 2) maNil)))))) (mSeq (mRet (mTup (maCons (mTup (maCons (mC (.str [100, 105, 102, 102, 101, 114])) (maCons (mCl0 (opF m_told_of [0] []) 1 (maCons (mVar 0) maNil)) (maCons (mVar 1) (maCons (mVar 2) maNil))))) (maCons (mVar 4) maNil)))) mNil)) mNil) (mSeq (mRet (mTup (maCons (mTup (maCons (mC (.str [97, 103, 114, 101, 101])) (maCons (mCl0 (opF m_told_of [0] []) 1 (maCons (mVar 0) maNil)) (maCons (mVar 1) (maCons (mVar 2) maNil))))) (maCons (mVar 3) maNil)))) mNil))))
def m_certify_books : MF := mFun 5 b_certify_books
def b_certify_reading : MS := (mSeq (mDrop (mCl0 (opF m_check_machine [0] []) 1 (maCons (mVar 0) maNil))) (mSeq (mDrop (mCl0 (opF m_check_book [0, 1] []) 2 (maCons (mVar 1) (maCons (mVar 0) maNil)))) (mSeq (mSet 2 (mMe 6 [99, 108, 97, 115, 104] (opF m_Paths_clash [0] []) 1 (mCl0 (opC 6 m_Paths___init__ [0, 1, 2] []) 2 (maCons (mVar 0) (maCons (mVar 1) maNil))) maNil)) (mSeq (mIfS (mTB (mOp (opIs false) (mVar 2) (mC .non))) (mSeq (mRet (mTup (maCons (mTup (maCons (mC (.str [114, 101, 97, 100, 97, 98, 108, 101])) (maCons (mCl0 (opF m_told_of [0] []) 1 (maCons (mVar 0) maNil)) (maCons (mVar 1) maNil)))) (maCons (mTup maNil) maNil)))) mNil) mNil) (mSeq (mRet (mTup (maCons (mTup (maCons (mC (.str [99, 108, 97, 115, 104])) (maCons (mCl0 (opF m_told_of [0] []) 1 (maCons (mVar 0) maNil)) (maCons (mVar 1) maNil)))) (maCons (mVar 2) maNil)))) mNil)))))
def m_certify_reading : MF := mFun 3 b_certify_reading
def b_certify_machines : MS := (mSeq (mDrop (mCl0 (opF m_check_two [0, 1] []) 2 (maCons (mVar 0) (maCons (mVar 1) maNil)))) (mSeq (mSet 2 (mCl0 (opF m_first_unlike [0, 1] []) 2 (maCons (mVar 0) (maCons (mVar 1) maNil)))) (mSeq (mIfS (mTB (mOp (opIs false) (mVar 2) (mC .non))) (mSeq (mRet (mTup (maCons (mTup (maCons (mC (.str [115, 97, 109, 101])) (maCons (mCl0 (opF m_told_of [0] []) 1 (maCons (mVar 0) maNil)) (maCons (mCl0 (opF m_told_of [0] []) 1 (maCons (mVar 1) maNil)) maNil)))) (maCons (mBt bTuple (maCons (mCl0 (opF m_pairs_of [0, 1] []) 2 (maCons (mVar 0) (maCons (mVar 1) maNil))) maNil)) maNil)))) mNil) mNil) (mSeq (mRet (mTup (maCons (mTup (maCons (mC (.str [97, 112, 97, 114, 116])) (maCons (mCl0 (opF m_told_of [0] []) 1 (maCons (mVar 0) maNil)) (maCons (mCl0 (opF m_told_of [0] []) 1 (maCons (mVar 1) maNil)) maNil)))) (maCons (mVar 2) maNil)))) mNil))))
def m_certify_machines : MF := mFun 3 b_certify_machines
def b_lay : MS := (mSeq (mSetF cs_machine [109, 97, 99, 104, 105, 110, 101] (mVar 0) (mVar 1)) (mSeq (mSetF cs_book [98, 111, 111, 107] (mVar 0) (mVar 2)) (mSeq (mSetF cs_second [115, 101, 99, 111, 110, 100] (mVar 0) (mVar 3)) (mSeq (mSetF cs_agreed [97, 103, 114, 101, 101, 100] (mVar 0) (mOp (opIs true) (mCl0 (opF m_lags_of [0, 1, 2, 3] []) 4 (maCons (mFld cs_arrows [97, 114, 114, 111, 119, 115] (mVar 1)) (maCons (mFld cs_ends [101, 110, 100, 115] (mVar 1)) (maCons (mVar 2) (maCons (mVar 3) maNil))))) (mC .non))) mNil))))
def m_lay : MF := mFun 4 b_lay
def b_Desk___init__ : MS := (mSeq (mDrop (mCl0 (opF m_check_books [0, 1, 2] []) 3 (maCons (mVar 1) (maCons (mVar 2) (maCons (mVar 3) maNil))))) (mSeq (mSetF cs_busy [98, 117, 115, 121] (mVar 0) (mC (.bl false))) (mSeq (mSetF cs_past [112, 97, 115, 116] (mVar 0) (mTup maNil)) (mSeq (mDrop (mCl0 (opF m_lay [0, 1, 2, 3] []) 4 (maCons (mVar 0) (maCons (mVar 1) (maCons (mVar 2) (maCons (mVar 3) maNil)))))) mNil))))
def m_Desk___init__ : MF := mFun 4 b_Desk___init__
def b_Desk___len__ : MS := (mSeq (mRet (mBt bLen (maCons (mFld cs_past [112, 97, 115, 116] (mVar 0)) maNil))) mNil)
def m_Desk___len__ : MF := mFun 1 b_Desk___len__
def b_check_free : MS := (mSeq (mIfS (mTru (mFld cs_busy [98, 117, 115, 121] (mVar 0))) mNever mNil) mNil)
def m_check_free : MF := mFun 1 b_check_free
def b_check_stand : MS := (mSeq (mIfS (mNot (mTru (mCl0 (opF m_is_between [0, 1, 2] []) 3 (maCons (mVar 1) (maCons (mC (.int 0)) (maCons (mOp opSub (mBt (bLenI 0 m_Machine___len__ [0]) (maCons (mFld cs_machine [109, 97, 99, 104, 105, 110, 101] (mVar 0)) maNil)) (mC (.int 1))) maNil)))))) mNever mNil) mNil)
def m_check_stand : MF := mFun 2 b_check_stand
def b_become : MS := (mSeq (mIfS (mTB (mOp opGe (mBt bLen (maCons (mFld cs_past [112, 97, 115, 116] (mVar 0)) maNil)) (mC (.int 60)))) mNever mNil) (mSeq (mSetF cs_past [112, 97, 115, 116] (mVar 0) (mTup (maStar (mFld cs_past [112, 97, 115, 116] (mVar 0)) (maCons (mTup (maCons (mFld cs_machine [109, 97, 99, 104, 105, 110, 101] (mVar 0)) (maCons (mFld cs_book [98, 111, 111, 107] (mVar 0)) (maCons (mFld cs_second [115, 101, 99, 111, 110, 100] (mVar 0)) maNil)))) maNil)))) (mSeq (mDrop (mCl0 (opF m_lay [0, 1, 2, 3] []) 4 (maCons (mVar 0) (maCons (mVar 1) (maCons (mVar 2) (maCons (mVar 3) maNil)))))) mNil)))
def m_become : MF := mFun 4 b_become
def b_do_end : MS := (mSeq (mDrop (mCl0 (opF m_check_stand [0, 1] []) 2 (maCons (mVar 0) (maCons (mVar 1) maNil)))) (mSeq (mSet 2 (mFld cs_ends [101, 110, 100, 115] (mFld cs_machine [109, 97, 99, 104, 105, 110, 101] (mVar 0)))) (mSeq (mSet 3 (mLc (miRng1 (maCons (mBt (bLenI 0 m_Machine___len__ [0]) (maCons (mFld cs_machine [109, 97, 99, 104, 105, 110, 101] (mVar 0)) maNil)) maNil)) (Tg.nm 4) (mTB (mOp opNe (mOp (opIn false) (mVar 4) (mVar 2)) (mOp opEq (mVar 4) (mVar 1)))) (mVar 4) [4])) (mSeq (mDrop (mCl0 (opF m_become [0, 1, 2, 3] []) 4 (maCons (mVar 0) (maCons (mCl0 (opC 0 m_Machine___init__ [0, 1, 2, 3] []) 3 (maCons (mFld cs_letters [108, 101, 116, 116, 101, 114, 115] (mFld cs_machine [109, 97, 99, 104, 105, 110, 101] (mVar 0))) (maCons (mFld cs_arrows [97, 114, 114, 111, 119, 115] (mFld cs_machine [109, 97, 99, 104, 105, 110, 101] (mVar 0))) (maCons (mBt bTuple (maCons (mVar 3) maNil)) maNil)))) (maCons (mFld cs_book [98, 111, 111, 107] (mVar 0)) (maCons (mFld cs_second [115, 101, 99, 111, 110, 100] (mVar 0)) maNil)))))) mNil))))
def m_do_end : MF := mFun 5 b_do_end
def b_Desk_end : MS := (mSeq (mDrop (mCl0 (opF m_check_free [0] []) 1 (maCons (mVar 0) maNil))) (mSeq (mDrop (mCl0 (opF m_do_end [0, 1] []) 2 (maCons (mVar 0) (maCons (mVar 1) maNil)))) (mSeq (mRet (mFld cs_agreed [97, 103, 114, 101, 101, 100] (mVar 0))) mNil)))
def m_Desk_end : MF := mFun 2 b_Desk_end
def b_Desk___repr__ : MS := (mSeq (mRet (mJs [(mC (.str [68, 101, 115, 107, 40])), (mFmt (mBt (bLenI 0 m_Machine___len__ [0]) (maCons (mFld cs_machine [109, 97, 99, 104, 105, 110, 101] (mVar 0)) maNil))), (mC (.str [32, 115, 116, 97, 110, 100, 115, 44, 32])), (mFmt (mBt bLen (maCons (mFld cs_past [112, 97, 115, 116] (mVar 0)) maNil))), (mC (.str [32, 100, 101, 101, 100, 115, 41]))] [])) mNil)
def m_Desk___repr__ : MF := mFun 1 b_Desk___repr__
def b_place_of : MS := (mSeq (mIfS (mOr (mNot (mTru (mIsi tb_str cs_isi_str (mVar 1)))) (mOr (mTB (mOp opNe (mBt bLen (maCons (mVar 1) maNil)) (mC (.int 1)))) (mTB (mOp (opIn true) (mVar 1) (mSl (mC (.str [97, 98, 99, 100, 101])) moNone (moSome (mFld cs_letters [108, 101, 116, 116, 101, 114, 115] (mFld cs_machine [109, 97, 99, 104, 105, 110, 101] (mVar 0))))))))) mNever mNil) (mSeq (mRet (mBM 0 oIndex (mC (.str [97, 98, 99, 100, 101])) (maCons (mVar 1) maNil))) mNil))
def m_place_of : MF := mFun 2 b_place_of
def b_put_in : MS := (mSeq (mRet (mTup (maStar (mSl (mVar 0) moNone (moSome (mVar 1))) (maCons (mVar 2) (maStar (mSl (mVar 0) (moSome (mOp opAdd (mVar 1) (mC (.int 1)))) moNone) maNil))))) mNil)
def m_put_in : MF := mFun 3 b_put_in
def b_do_word : MS := (mSeq (mIfS (mNot (mTru (mCl0 (opF m_is_between [0, 1, 2] []) 3 (maCons (mVar 1) (maCons (mC (.int 0)) (maCons (mC (.int 1)) maNil)))))) mNever mNil) (mSeq (mSet 4 (mCl0 (opF m_place_of [0, 1] []) 2 (maCons (mVar 0) (maCons (mVar 2) maNil)))) (mSeq (mIfS (mNot (mTru (mCl0 (opF m_is_word [0] []) 1 (maCons (mVar 3) maNil)))) mNever mNil) (mSeq (mIfS (mTB (mOp opEq (mVar 1) (mC (.int 0)))) (mSeq (mDrop (mCl0 (opF m_become [0, 1, 2, 3] []) 4 (maCons (mVar 0) (maCons (mFld cs_machine [109, 97, 99, 104, 105, 110, 101] (mVar 0)) (maCons (mCl0 (opF m_put_in [0, 1, 2] []) 3 (maCons (mFld cs_book [98, 111, 111, 107] (mVar 0)) (maCons (mVar 4) (maCons (mVar 3) maNil)))) (maCons (mFld cs_second [115, 101, 99, 111, 110, 100] (mVar 0)) maNil)))))) mNil) (mSeq (mDrop (mCl0 (opF m_become [0, 1, 2, 3] []) 4 (maCons (mVar 0) (maCons (mFld cs_machine [109, 97, 99, 104, 105, 110, 101] (mVar 0)) (maCons (mFld cs_book [98, 111, 111, 107] (mVar 0)) (maCons (mCl0 (opF m_put_in [0, 1, 2] []) 3 (maCons (mFld cs_second [115, 101, 99, 111, 110, 100] (mVar 0)) (maCons (mVar 4) (maCons (mVar 3) maNil)))) maNil)))))) mNil)) mNil))))
def m_do_word : MF := mFun 5 b_do_word
def b_Desk_word : MS := (mSeq (mDrop (mCl0 (opF m_check_free [0] []) 1 (maCons (mVar 0) maNil))) (mSeq (mDrop (mCl0 (opF m_do_word [0, 1, 2, 3] []) 4 (maCons (mVar 0) (maCons (mVar 1) (maCons (mVar 2) (maCons (mVar 3) maNil)))))) (mSeq (mRet (mFld cs_agreed [97, 103, 114, 101, 101, 100] (mVar 0))) mNil)))
def m_Desk_word : MF := mFun 4 b_Desk_word
def b_do_arrow : MS := (mSeq (mDrop (mCl0 (opF m_check_stand [0, 1] []) 2 (maCons (mVar 0) (maCons (mVar 1) maNil)))) (mSeq (mSet 4 (mCl0 (opF m_place_of [0, 1] []) 2 (maCons (mVar 0) (maCons (mVar 2) maNil)))) (mSeq (mIfS (mTB (mOp (opIs true) (mVar 3) (mC .non))) (mSeq (mDrop (mCl0 (opF m_check_stand [0, 1] []) 2 (maCons (mVar 0) (maCons (mVar 3) maNil)))) mNil) mNil) (mSeq (mSet 5 (mCl0 (opF m_put_in [0, 1, 2] []) 3 (maCons (mFld cs_arrows [97, 114, 114, 111, 119, 115] (mFld cs_machine [109, 97, 99, 104, 105, 110, 101] (mVar 0))) (maCons (mVar 1) (maCons (mCl0 (opF m_put_in [0, 1, 2] []) 3 (maCons (mOp opIx (mFld cs_arrows [97, 114, 114, 111, 119, 115] (mFld cs_machine [109, 97, 99, 104, 105, 110, 101] (mVar 0))) (mVar 1)) (maCons (mVar 4) (maCons (mVar 3) maNil)))) maNil))))) (mSeq (mDrop (mCl0 (opF m_become [0, 1, 2, 3] []) 4 (maCons (mVar 0) (maCons (mCl0 (opC 0 m_Machine___init__ [0, 1, 2, 3] []) 3 (maCons (mFld cs_letters [108, 101, 116, 116, 101, 114, 115] (mFld cs_machine [109, 97, 99, 104, 105, 110, 101] (mVar 0))) (maCons (mVar 5) (maCons (mFld cs_ends [101, 110, 100, 115] (mFld cs_machine [109, 97, 99, 104, 105, 110, 101] (mVar 0))) maNil)))) (maCons (mFld cs_book [98, 111, 111, 107] (mVar 0)) (maCons (mFld cs_second [115, 101, 99, 111, 110, 100] (mVar 0)) maNil)))))) mNil)))))
def m_do_arrow : MF := mFun 6 b_do_arrow
def b_Desk_arrow : MS := (mSeq (mDrop (mCl0 (opF m_check_free [0] []) 1 (maCons (mVar 0) maNil))) (mSeq (mDrop (mCl0 (opF m_do_arrow [0, 1, 2, 3] []) 4 (maCons (mVar 0) (maCons (mVar 1) (maCons (mVar 2) (maCons (mVar 3) maNil)))))) (mSeq (mRet (mFld cs_agreed [97, 103, 114, 101, 101, 100] (mVar 0))) mNil)))
def m_Desk_arrow : MF := mFun 4 b_Desk_arrow
end MM

end
section
set_option maxRecDepth 100000
namespace MM
open PySem L2 MC
def b__law_pour : MS := (mSeq (mIfS (mTB (mOp opGt (mOp opIx (mVar 0) (mC (.int 0))) (mC (.int 0)))) (mSeq (mAsg (mBt bDivmod (maCons (mOp opIx (mVar 0) (mC (.int 0))) (maCons (mVar 1) maNil))) (gTup' 2 (gsCons (gSubM oSetIx (mVar 0) (mC (.int 0))) (gsCons (gName' 2) gsNil)))) (mSeq (mRet (mVar 2)) mNil)) mNil) (mSeq (mAsg (mOp opAdd (mOp opIx (mVar 0) (mC (.int 2))) (mC (.int 3))) (gSubM oSetIx (mVar 0) (mC (.int 2)))) (mSeq (mAsg (mOp opMod (mBt bInt (maCons (mOp opAdd (mOp opAdd (mOp opMul (mOp opIx (mVar 0) (mC (.int 1))) (mC (.int 43019))) (mOp opMul (mBt bInt (maCons (mOp opFdiv (mOp opIx (mVar 0) (mC (.int 1))) (mC (.int 7013))) maNil)) (mC (.int 83)))) (mOp opMul (mOp opIx (mVar 0) (mC (.int 2))) (mC (.int 51001)))) maNil)) (mC (.int 2147483423))) (gSubM oSetIx (mVar 0) (mC (.int 1)))) (mSeq (mRet (mOp opMod (mBt bInt (maCons (mOp opFdiv (mOp opIx (mVar 0) (mC (.int 1))) (mC (.int 409))) maNil)) (mVar 1))) mNil))))
def m__law_pour : MF := mFun 3 b__law_pour
def b__law_machine : MS := (mSeq (mAsg (mTup (maCons (mOp opAdd (mC (.int 1)) (mCl0 (opF m__law_pour [0, 1] []) 2 (maCons (mVar 0) (maCons (mVar 1) maNil)))) (maCons (mOp opAdd (mC (.int 1)) (mCl0 (opF m__law_pour [0, 1] []) 2 (maCons (mVar 0) (maCons (mVar 2) maNil)))) (maCons (mLst maNil) maNil)))) (gTup' 3 (gsCons (gName' 3) (gsCons (gName' 4) (gsCons (gName' 5) gsNil))))) (mSeq (mFor (miRng1 (maCons (mVar 3) maNil)) (gName' 6) (mSeq (mDrop (mBM 1 oAppend (mVar 5) (maCons (mBt bTuple (maCons (mLc (miRng1 (maCons (mVar 4) maNil)) (Tg.nm 8) mYes (mIf (mTB (mOp opGt (mCl0 (opF m__law_pour [0, 1] []) 2 (maCons (mVar 0) (maCons (mC (.int 4)) maNil))) (mC (.int 0)))) (mCl0 (opF m__law_pour [0, 1] []) 2 (maCons (mVar 0) (maCons (mVar 3) maNil))) (mC .non)) [8]) maNil)) maNil))) mNil)) (mSeq (mSet 7 (mLc (miRng1 (maCons (mVar 3) maNil)) (Tg.nm 6) (mTB (mOp opEq (mCl0 (opF m__law_pour [0, 1] []) 2 (maCons (mVar 0) (maCons (mC (.int 3)) maNil))) (mC (.int 0)))) (mVar 6) [6])) (mSeq (mIfS (mAnd (mTB (mOp opEq (mVar 7) (mLst maNil))) (mTB (mOp opGt (mCl0 (opF m__law_pour [0, 1] []) 2 (maCons (mVar 0) (maCons (mC (.int 5)) maNil))) (mC (.int 0))))) (mSeq (mSet 7 (mLst (maCons (mCl0 (opF m__law_pour [0, 1] []) 2 (maCons (mVar 0) (maCons (mVar 3) maNil))) maNil))) mNil) mNil) (mSeq (mRet (mTup (maCons (mVar 4) (maCons (mBt bTuple (maCons (mVar 5) maNil)) (maCons (mBt bTuple (maCons (mVar 7) maNil)) maNil))))) mNil)))))
def m__law_machine : MF := mFun 9 b__law_machine
def b__law_one_of : MS := (mSeq (mRet (mOp opIx (mVar 1) (mCl0 (opF m__law_pour [0, 1] []) 2 (maCons (mVar 0) (maCons (mBt bLen (maCons (mVar 1) maNil)) maNil))))) mNil)
def m__law_one_of : MF := mFun 2 b__law_one_of
def b__law_count : MS := (mSeq (mSet 3 (mLc (miRng1 (maCons (mBt bLen (maCons (mOp opIx (mVar 0) (mC (.int 1))) maNil)) maNil)) (Tg.nm 2) mYes (mBt bInt (maCons (mOp opEq (mVar 2) (mC (.int 0))) maNil)) [2])) (mSeq (mFor (miRng1 (maCons (mVar 1) maNil)) (gName' 4) (mSeq (mSet 5 (mOp opMul (mLst (maCons (mC (.int 0)) maNil)) (mBt bLen (maCons (mVar 3) maNil)))) (mSeq (mFor (miRng1 (maCons (mBt bLen (maCons (mVar 3) maNil)) maNil)) (gName' 2) (mSeq (mFor (miV (mOp opIx (mOp opIx (mVar 0) (mC (.int 1))) (mVar 2))) (gName' 6) (mSeq (mIfS (mTB (mOp (opIs true) (mVar 6) (mC .non))) (mSeq (mAsg (mOp opAdd (mOp opIx (mVar 5) (mVar 6)) (mOp opIx (mVar 3) (mVar 2))) (gSubM oSetIx (mVar 5) (mVar 6))) mNil) mNil) mNil)) mNil)) (mSeq (mSet 3 (mVar 5)) mNil)))) (mSeq (mRet (mBt bSum (maCons (mLc (miV (mOp opIx (mVar 0) (mC (.int 2)))) (Tg.nm 2) mYes (mOp opIx (mVar 3) (mVar 2)) [2]) maNil))) mNil)))
def m__law_count : MF := mFun 7 b__law_count
def b__law_whole : MS := (mSeq (mRet (mAndV (mIsi tb_int cs_isi_int (mVar 0)) (mNotV (mIsi tb_bool cs_isi_bool (mVar 0))))) mNil)
def m__law_whole : MF := mFun 1 b__law_whole
def b__law_jug : MS := (mSeq (mSet 2 (mIf (mTB (mOp opLt (mVar 1) (mBt bLen (maCons (mVar 0) maNil)))) (mBt bInt (maCons (mOp opIx (mVar 0) (mVar 1)) maNil)) (mOp opAdd (mOp opMul (mC (.int 83)) (mVar 1)) (mC (.int 29))))) (mSeq (mSet 3 (mOp opAdd (mC (.int 90017)) (mOp opMul (mC (.int 4051)) (mVar 1)))) (mSeq (mFor (miV (mSl (mVar 0) moNone (moSome (mC (.int 9))))) (gName' 4) (mSeq (mSet 3 (mOp opMod (mBt bInt (maCons (mOp opAdd (mOp opMul (mVar 3) (mC (.int 31013))) (mOp opMod (mBt bInt (maCons (mVar 4) maNil)) (mC (.int 2147483423)))) maNil)) (mC (.int 2147483423)))) mNil)) (mSeq (mSet 5 (mIf (mOr (mTB (mOp opLt (mVar 2) (mC (.int 0)))) (mTB (mOp opGe (mVar 2) (mOp opPow (mC (.int 10)) (mC (.int 15)))))) (mBt bAbs (maCons (mVar 2) maNil)) (mC (.int 0)))) (mSeq (mRet (mLst (maCons (mVar 5) (maCons (mOp opMod (mBt bInt (maCons (mOp opAdd (mOp opMul (mVar 3) (mC (.int 61))) (mOp opMod (mBt bInt (maCons (mVar 2) maNil)) (mC (.int 2147483423)))) maNil)) (mC (.int 2147483423))) (maCons (mC (.int 2)) maNil))))) mNil)))))
def m__law_jug : MF := mFun 6 b__law_jug
def b__law_word_v2 : MS := (mSeq (mRet (mBM 0 oJoin (mC (.str [])) (maCons (mLc (miRng1 (maCons (mCl0 (opF m__law_pour [0, 1] []) 2 (maCons (mVar 0) (maCons (mOp opAdd (mVar 1) (mC (.int 1))) maNil))) maNil)) (Tg.nm 2) mYes (mCl0 (opF m__law_one_of [0, 1] []) 2 (maCons (mVar 0) (maCons (mLst (maCons (mC (.str [120])) (maCons (mC (.str [120])) (maCons (mC (.str [121])) (maCons (mC (.str [121])) (maCons (mC (.str [122])) maNil)))))) maNil))) [2]) maNil))) mNil)
def m__law_word_v2 : MF := mFun 3 b__law_word_v2
def b__law_like : MS := (mSeq (mPar3 2 3 4 (mOp opAdd (mC (.int 1)) (mCl0 (opF m__law_pour [0, 1] []) 2 (maCons (mVar 0) (maCons (mVar 1) maNil)))) (mOp opAdd (mC (.int 1)) (mCl0 (opF m__law_pour [0, 1] []) 2 (maCons (mVar 0) (maCons (mC (.int 5)) maNil)))) (mCl0 (opF m__law_word_v2 [0, 1] []) 2 (maCons (mVar 0) (maCons (mC (.int 2)) maNil)))) (mSeq (mSet 5 (mLst (maCons (mTup (maCons (mC (.str [])) (maCons (mC (.str [])) maNil))) (maCons (mCl0 (opF m__law_one_of [0, 1] []) 2 (maCons (mVar 0) (maCons (mLst (maCons (mTup (maCons (mVar 4) (maCons (mC (.str [])) maNil))) (maCons (mTup (maCons (mC (.str [])) (maCons (mVar 4) maNil))) maNil))) maNil))) maNil)))) (mSeq (mSet 7 (mOp opAdd (mLst (maCons (mC (.int 0)) maNil)) (mLc (miRng1 (maCons (mOp opSub (mVar 2) (mC (.int 1))) maNil)) (Tg.nm 6) mYes (mCl0 (opF m__law_pour [0, 1] []) 2 (maCons (mVar 0) (maCons (mC (.int 2)) maNil))) [6]))) (mSeq (mSet 8 (mLc (miRng1 (maCons (mVar 3) maNil)) (Tg.nm 19) mYes (mTup (maCons (mCl0 (opF m__law_pour [0, 1] []) 2 (maCons (mVar 0) (maCons (mC (.int 2)) maNil))) (maCons (mCl0 (opF m__law_pour [0, 1] []) 2 (maCons (mVar 0) (maCons (mC (.int 2)) maNil))) (maCons (mCl0 (opF m__law_word_v2 [0, 1] []) 2 (maCons (mVar 0) (maCons (mC (.int 2)) maNil))) maNil)))) [19])) (mSeq (mSet 9 (mLst maNil)) (mSeq (mFor (miRng1 (maCons (mVar 2) maNil)) (gName' 6) (mSeq (mSet 10 (mLst maNil)) (mSeq (mFor (miV (mVar 8)) (gTup' 3 (gsCons (gName' 11) (gsCons (gName' 12) (gsCons (gName' 13) gsNil)))) (mSeq (mSet 14 (mLc (miRng1 (maCons (mVar 2) maNil)) (Tg.nm 20) (mTB (mOp opEq (mOp opIx (mVar 7) (mVar 20)) (mVar 12))) (mVar 20) [20])) (mSeq (mSet 15 (mAndV (mOp opEq (mVar 11) (mOp opIx (mVar 7) (mVar 6))) (mAndV (mOp opNe (mVar 14) (mLst maNil)) (mOp opGt (mCl0 (opF m__law_pour [0, 1] []) 2 (maCons (mVar 0) (maCons (mC (.int 5)) maNil))) (mC (.int 0)))))) (mSeq (mDrop (mBM 1 oAppend (mVar 10) (maCons (mIf (mTru (mVar 15)) (mCl0 (opF m__law_one_of [0, 1] []) 2 (maCons (mVar 0) (maCons (mVar 14) maNil))) (mC .non)) maNil))) mNil)))) (mSeq (mDrop (mBM 1 oAppend (mVar 9) (maCons (mBt bTuple (maCons (mVar 10) maNil)) maNil))) mNil)))) (mSeq (mSet 16 (mBt bTuple (maCons (mLc (miRng1 (maCons (mVar 2) maNil)) (Tg.nm 6) (mAnd (mTB (mOp opEq (mOp opIx (mVar 7) (mVar 6)) (mC (.int 0)))) (mTB (mOp opEq (mCl0 (opF m__law_pour [0, 1] []) 2 (maCons (mVar 0) (maCons (mC (.int 2)) maNil))) (mC (.int 0))))) (mVar 6) [6]) maNil))) (mSeq (mSet 17 (mBt bTuple (maCons (mLc (miV (mVar 8)) (Tg.tp (Tgs.cons (Tg.nm 11) (Tgs.cons (Tg.nm 12) (Tgs.cons (Tg.nm 13) Tgs.nil)))) mYes (mOp opAdd (mOp opAdd (mOp opIx (mOp opIx (mVar 5) (mVar 11)) (mC (.int 1))) (mVar 13)) (mOp opIx (mOp opIx (mVar 5) (mVar 12)) (mC (.int 0)))) [11, 12, 13]) maNil))) (mSeq (mSet 18 (mBt bTuple (maCons (mLc (miV (mVar 8)) (Tg.tp (Tgs.cons (Tg.nm 11) (Tgs.cons (Tg.nm 12) (Tgs.cons (Tg.nm 13) Tgs.nil)))) mYes (mOp opAdd (mOp opAdd (mOp opIx (mOp opIx (mVar 5) (mVar 11)) (mC (.int 0))) (mVar 13)) (mOp opIx (mOp opIx (mVar 5) (mVar 12)) (mC (.int 1)))) [11, 12, 13]) maNil))) (mSeq (mRet (mTup (maCons (mTup (maCons (mVar 3) (maCons (mBt bTuple (maCons (mVar 9) maNil)) (maCons (mVar 16) maNil)))) (maCons (mVar 17) (maCons (mVar 18) maNil))))) mNil))))))))))
def m__law_like : MF := mFun 21 b__law_like
def b__law_book_v2 : MS := (mSeq (mRet (mBt bTuple (maCons (mLc (miRng1 (maCons (mVar 1) maNil)) (Tg.nm 3) mYes (mCl0 (opF m__law_word_v2 [0, 1] []) 2 (maCons (mVar 0) (maCons (mVar 2) maNil))) [3]) maNil))) mNil)
def m__law_book_v2 : MF := mFun 4 b__law_book_v2
def b__law_case : MS := (mSeq (mAsg (mCl0 (opF m__law_like [0, 1] []) 2 (maCons (mVar 0) (maCons (mC (.int 6)) maNil))) (gTup' 3 (gsCons (gName' 1) (gsCons (gName' 2) (gsCons (gName' 3) gsNil))))) (mSeq (mSet 4 (mCl0 (opF m__law_pour [0, 1] []) 2 (maCons (mVar 0) (maCons (mC (.int 6)) maNil)))) (mSeq (mIfS (mTB (mOp opEq (mVar 4) (mC (.int 0)))) (mSeq (mSet 1 (mCl0 (opF m__law_machine [0, 1, 2] []) 3 (maCons (mVar 0) (maCons (mC (.int 5)) (maCons (mC (.int 4)) maNil))))) (mSeq (mPar 2 3 (mCl0 (opF m__law_book_v2 [0, 1, 2] []) 3 (maCons (mVar 0) (maCons (mOp opIx (mVar 1) (mC (.int 0))) (maCons (mC (.int 2)) maNil)))) (mCl0 (opF m__law_book_v2 [0, 1, 2] []) 3 (maCons (mVar 0) (maCons (mOp opIx (mVar 1) (mC (.int 0))) (maCons (mC (.int 2)) maNil))))) mNil)) mNil) (mSeq (mIfS (mTB (mOp opEq (mVar 4) (mC (.int 1)))) (mSeq (mSet 3 (mVar 2)) mNil) mNil) (mSeq (mIfS (mTB (mOp opEq (mVar 4) (mC (.int 2)))) (mSeq (mSet 5 (mCl0 (opF m__law_pour [0, 1] []) 2 (maCons (mVar 0) (maCons (mOp opIx (mVar 1) (mC (.int 0))) maNil)))) (mSeq (mSet 3 (mOp opAdd (mOp opAdd (mSl (mVar 3) moNone (moSome (mVar 5))) (mTup (maCons (mCl0 (opF m__law_word_v2 [0, 1] []) 2 (maCons (mVar 0) (maCons (mC (.int 3)) maNil))) maNil))) (mSl (mVar 3) (moSome (mOp opAdd (mVar 5) (mC (.int 1)))) moNone))) mNil)) mNil) (mSeq (mRet (mTup (maCons (mVar 1) (maCons (mVar 2) (maCons (mVar 3) maNil))))) mNil))))))
def m__law_case : MF := mFun 6 b__law_case
def b__law_marks : MS := (mSeq (mSet 2 (mLst maNil)) (mSeq (mFor (miRng1 (maCons (mBt bLen (maCons (mOp opIx (mVar 0) (mC (.int 1))) maNil)) maNil)) (gName' 3) (mSeq (mSet 4 (mGet2 (mVar 1) (mVar 3) (mC .non))) (mSeq (mSet 5 (mIf (mTB (mOp (opIs false) (mVar 4) (mC .non))) (mC .non) (mTup (maCons (mC (.int 0)) (maCons (mOp opIx (mVar 4) (mC (.int 0))) maNil))))) (mSeq (mDrop (mBM 1 oAppend (mVar 2) (maCons (mIf (mAnd (mTB (mOp (opIs true) (mVar 4) (mC .non))) (mTB (mOp opNe (mOp opIx (mVar 4) (mC (.int 1))) (mC (.str []))))) (mTup (maCons (mC (.int 1)) (maCons (mOp opIx (mVar 4) (mC (.int 1))) maNil))) (mVar 5)) maNil))) mNil)))) (mSeq (mRet (mBt bTuple (maCons (mVar 2) maNil))) mNil)))
def m__law_marks : MF := mFun 6 b__law_marks
def b__law_reach : MS := (mSeq (mSet 2 (mLst (maCons (mVar 1) maNil))) (mSeq (mFor (miRng1 (maCons (mBt bLen (maCons (mVar 0) maNil)) maNil)) (gName' 3) (mSeq (mFor (miV (mBt bList (maCons (mVar 2) maNil))) (gName' 4) (mSeq (mSet 5 (mLc (miV (mOp opIx (mVar 0) (mVar 4))) (Tg.nm 6) (mAnd (mTB (mOp (opIs true) (mVar 6) (mC .non))) (mTB (mOp (opIn true) (mVar 6) (mVar 2)))) (mVar 6) [6])) (mSeq (mSet 2 (mOp opAdd (mVar 2) (mSortSet (mVar 5)))) mNil))) mNil)) (mSeq (mRet (mVar 2)) mNil)))
def m__law_reach : MF := mFun 7 b__law_reach
def b__law_useful_v2 : MS := (mSeq (mAsg (mTup (maCons (mCl0 (opF m__law_reach [0, 1] []) 2 (maCons (mOp opIx (mVar 0) (mC (.int 1))) (maCons (mC (.int 0)) maNil))) (maCons (mOp opIx (mVar 0) (mC (.int 1))) maNil))) (gTup' 2 (gsCons (gName' 1) (gsCons (gName' 2) gsNil)))) (mSeq (mRet (mLc (miRng1 (maCons (mBt bLen (maCons (mVar 2) maNil)) maNil)) (Tg.nm 3) (mAnd (mTB (mOp (opIn false) (mVar 3) (mVar 1))) (mTru (mBt bAny (maCons (mLc (miV (mCl0 (opF m__law_reach [0, 1] []) 2 (maCons (mVar 2) (maCons (mVar 3) maNil)))) (Tg.nm 4) mYes (mOp (opIn false) (mVar 4) (mOp opIx (mVar 0) (mC (.int 2)))) [4]) maNil)))) (mVar 3) [3])) mNil))
def m__law_useful_v2 : MF := mFun 5 b__law_useful_v2
def b__law_cut_v2 : MS := (mSeq (mSet 2 (mC (.int 0))) (mSeq (mWhile WF (mAnd (mTB (mOp opLt (mVar 2) (mBt bMin2 (maCons (mBt bLen (maCons (mVar 0) maNil)) (maCons (mBt bLen (maCons (mVar 1) maNil)) maNil))))) (mTB (mOp opEq (mOp opIx (mVar 0) (mVar 2)) (mOp opIx (mVar 1) (mVar 2))))) (mSeq (mSet 2 (mOp opAdd (mVar 2) (mC (.int 1)))) mNil)) (mSeq (mRet (mTup (maCons (mSl (mVar 0) (moSome (mVar 2)) moNone) (maCons (mSl (mVar 1) (moSome (mVar 2)) moNone) maNil)))) mNil)))
def m__law_cut_v2 : MF := mFun 3 b__law_cut_v2
def b__law_walk : MS := (mSeq (mAsg (mTup (maCons (mC (.str [])) (maCons (mC (.int 0)) maNil))) (gTup' 2 (gsCons (gName' 3) (gsCons (gName' 4) gsNil)))) (mSeq (mFor (miRng1 (maCons (mVar 2) maNil)) (gName' 5) (mSeq (mSet 7 (mLc (miRng1 (maCons (mOp opIx (mVar 1) (mC (.int 0))) maNil)) (Tg.nm 6) (mTB (mOp (opIs true) (mOp opIx (mOp opIx (mOp opIx (mVar 1) (mC (.int 1))) (mVar 4)) (mVar 6)) (mC .non))) (mVar 6) [6])) (mSeq (mIfS (mOr (mTB (mOp opEq (mVar 7) (mLst maNil))) (mAnd (mTB (mOp (opIn false) (mVar 4) (mOp opIx (mVar 1) (mC (.int 2))))) (mTB (mOp opEq (mCl0 (opF m__law_pour [0, 1] []) 2 (maCons (mVar 0) (maCons (mC (.int 4)) maNil))) (mC (.int 0)))))) (mSeq (mRet (mVar 3)) mNil) mNil) (mSeq (mSet 6 (mCl0 (opF m__law_one_of [0, 1] []) 2 (maCons (mVar 0) (maCons (mVar 7) maNil)))) (mSeq (mAsg (mTup (maCons (mOp opAdd (mVar 3) (mOp opIx (mC (.str [97, 98, 99, 100, 101])) (mVar 6))) (maCons (mOp opIx (mOp opIx (mOp opIx (mVar 1) (mC (.int 1))) (mVar 4)) (mVar 6)) maNil))) (gTup' 2 (gsCons (gName' 3) (gsCons (gName' 4) gsNil)))) mNil))))) (mSeq (mRet (mVar 3)) mNil)))
def m__law_walk : MF := mFun 8 b__law_walk
def b__law_goal_v2 : MS := (mSeq (mSet 2 (mC (.int 0))) (mSeq (mFor (miV (mVar 1)) (gName' 3) (mSeq (mSet 4 (mBM 0 oIndex (mC (.str [97, 98, 99, 100, 101])) (maCons (mVar 3) maNil))) (mSeq (mIfS (mTB (mOp (opIs true) (mVar 2) (mC .non))) (mSeq (mSet 2 (mIf (mTB (mOp opLt (mVar 4) (mOp opIx (mVar 0) (mC (.int 0))))) (mOp opIx (mOp opIx (mOp opIx (mVar 0) (mC (.int 1))) (mVar 2)) (mVar 4)) (mC .non))) mNil) mNil) mNil))) (mSeq (mRet (mVar 2)) mNil)))
def m__law_goal_v2 : MF := mFun 5 b__law_goal_v2
def b__law_is_text : MS := (mSeq (mIfS (mOr (mNot (mTru (mIsi tb_str cs_isi_str (mVar 1)))) (mTB (mOp opNe (mLc (miV (mVar 1)) (Tg.nm 2) (mTB (mOp (opIn true) (mVar 2) (mC (.str [97, 98, 99, 100, 101])))) (mVar 2) [2]) (mLst maNil)))) (mSeq (mRet (mC (.bl false))) mNil) mNil) (mSeq (mRet (mOp (opIn false) (mCl0 (opF m__law_goal_v2 [0, 1] []) 2 (maCons (mVar 0) (maCons (mVar 1) maNil))) (mOp opIx (mVar 0) (mC (.int 2))))) mNil))
def m__law_is_text : MF := mFun 3 b__law_is_text
def b__law_version : MS := (mSeq (mRet (mBM 0 oJoin (mC (.str [])) (maCons (mLc (miV (mVar 1)) (Tg.nm 2) mYes (mOp opIx (mVar 0) (mBM 0 oIndex (mC (.str [97, 98, 99, 100, 101])) (maCons (mVar 2) maNil))) [2]) maNil))) mNil)
def m__law_version : MF := mFun 3 b__law_version
def b__law_turned : MS := (mSeq (mAsg (mTup (maCons (mLstRg2 (mC (.int 1)) (mBt bLen (maCons (mOp opIx (mVar 1) (mC (.int 1))) maNil))) (maCons (mLst (maCons (mC (.int 0)) maNil)) maNil))) (gTup' 2 (gsCons (gName' 2) (gsCons (gName' 3) gsNil)))) (mSeq (mFor (miRng1 (maCons (mOp opSub (mBt bLen (maCons (mOp opIx (mVar 1) (mC (.int 1))) maNil)) (mC (.int 1))) maNil)) (gName' 4) (mSeq (mSet 5 (mCl0 (opF m__law_pour [0, 1] []) 2 (maCons (mVar 0) (maCons (mBt bLen (maCons (mVar 2) maNil)) maNil)))) (mSeq (mDrop (mBM 1 oAppend (mVar 3) (maCons (mOp opIx (mVar 2) (mVar 5)) maNil))) (mSeq (mSet 2 (mOp opAdd (mSl (mVar 2) moNone (moSome (mVar 5))) (mSl (mVar 2) (moSome (mOp opAdd (mVar 5) (mC (.int 1)))) moNone))) mNil)))) (mSeq (mSet 6 (mLc (miV (mVar 3)) (Tg.nm 7) mYes (mBt bTuple (maCons (mLc (miV (mOp opIx (mOp opIx (mVar 1) (mC (.int 1))) (mVar 7))) (Tg.nm 8) mYes (mIf (mTB (mOp (opIs false) (mVar 8) (mC .non))) (mC .non) (mBM 0 oIndex (mVar 3) (maCons (mVar 8) maNil))) [8]) maNil)) [7])) (mSeq (mRet (mTup (maCons (mOp opIx (mVar 1) (mC (.int 0))) (maCons (mBt bTuple (maCons (mVar 6) maNil)) (maCons (mBt bTuple (maCons (mBt bSorted (maCons (mLc (miV (mOp opIx (mVar 1) (mC (.int 2)))) (Tg.nm 7) mYes (mBM 0 oIndex (mVar 3) (maCons (mVar 7) maNil)) [7]) maNil)) maNil)) maNil))))) mNil))))
def m__law_turned : MF := mFun 9 b__law_turned
def b__law_split : MS := (mSeq (mSet 2 (mBt bLen (maCons (mOp opIx (mVar 1) (mC (.int 1))) maNil))) (mSeq (mIfS (mTB (mOp opEq (mVar 2) (mC (.int 8)))) (mSeq (mRet (mVar 1)) mNil) mNil) (mSeq (mAsg (mTup (maCons (mCl0 (opF m__law_pour [0, 1] []) 2 (maCons (mVar 0) (maCons (mVar 2) maNil))) (maCons (mLst maNil) maNil))) (gTup' 2 (gsCons (gName' 3) (gsCons (gName' 4) gsNil)))) (mSeq (mFor (miV (mOp opAdd (mOp opIx (mVar 1) (mC (.int 1))) (mTup (maCons (mOp opIx (mOp opIx (mVar 1) (mC (.int 1))) (mVar 3)) maNil)))) (gName' 5) (mSeq (mDrop (mBM 1 oAppend (mVar 4) (maCons (mBt bTuple (maCons (mLc (miV (mVar 5)) (Tg.nm 6) mYes (mIf (mAnd (mTB (mOp opEq (mVar 6) (mVar 3))) (mTB (mOp opEq (mCl0 (opF m__law_pour [0, 1] []) 2 (maCons (mVar 0) (maCons (mC (.int 2)) maNil))) (mC (.int 0))))) (mVar 2) (mVar 6)) [6]) maNil)) maNil))) mNil)) (mSeq (mRet (mTup (maCons (mOp opIx (mVar 1) (mC (.int 0))) (maCons (mBt bTuple (maCons (mVar 4) maNil)) (maCons (mOp opAdd (mOp opIx (mVar 1) (mC (.int 2))) (mIf (mTB (mOp (opIn false) (mVar 3) (mOp opIx (mVar 1) (mC (.int 2))))) (mTup (maCons (mVar 2) maNil)) (mTup maNil))) maNil))))) mNil)))))
def m__law_split : MF := mFun 7 b__law_split
def b__law_mate_v2 : MS := (mSeq (mAsg (mTup (maCons (mCl0 (opF m__law_pour [0, 1] []) 2 (maCons (mVar 0) (maCons (mC (.int 7)) maNil))) (maCons (mCl0 (opF m__law_turned [0, 1] []) 2 (maCons (mVar 0) (maCons (mCl0 (opF m__law_split [0, 1] []) 2 (maCons (mVar 0) (maCons (mVar 1) maNil))) maNil))) maNil))) (gTup' 2 (gsCons (gName' 2) (gsCons (gName' 3) gsNil)))) (mSeq (mIfS (mTB (mOp opEq (mVar 2) (mC (.int 0)))) (mSeq (mRet (mCl0 (opF m__law_machine [0, 1, 2] []) 3 (maCons (mVar 0) (maCons (mC (.int 4)) (maCons (mC (.int 3)) maNil))))) mNil) mNil) (mSeq (mSet 4 (mCl0 (opF m__law_pour [0, 1] []) 2 (maCons (mVar 0) (maCons (mBt bLen (maCons (mOp opIx (mVar 3) (mC (.int 1))) maNil)) maNil)))) (mSeq (mIfS (mTB (mOp opEq (mVar 2) (mC (.int 1)))) (mSeq (mSet 5 (mLc (miRng1 (maCons (mBt bLen (maCons (mOp opIx (mVar 3) (mC (.int 1))) maNil)) maNil)) (Tg.nm 8) (mTB (mOp opNe (mOp (opIn false) (mVar 8) (mOp opIx (mVar 3) (mC (.int 2)))) (mOp opEq (mVar 8) (mVar 4)))) (mVar 8) [8])) (mSeq (mRet (mTup (maCons (mOp opIx (mVar 3) (mC (.int 0))) (maCons (mOp opIx (mVar 3) (mC (.int 1))) (maCons (mBt bTuple (maCons (mVar 5) maNil)) maNil))))) mNil)) mNil) (mSeq (mIfS (mTB (mOp opEq (mVar 2) (mC (.int 2)))) (mSeq (mPar 6 7 (mCl0 (opF m__law_pour [0, 1] []) 2 (maCons (mVar 0) (maCons (mOp opIx (mVar 3) (mC (.int 0))) maNil))) (mOp opIx (mOp opIx (mVar 3) (mC (.int 1))) (mVar 4))) (mSeq (mSet 7 (mOp opAdd (mOp opAdd (mSl (mVar 7) moNone (moSome (mVar 6))) (mTup (maCons (mCl0 (opF m__law_one_of [0, 1] []) 2 (maCons (mVar 0) (maCons (mLst (maCons (mC .non) (maCons (mC (.int 0)) (maCons (mVar 4) maNil)))) maNil))) maNil))) (mSl (mVar 7) (moSome (mOp opAdd (mVar 6) (mC (.int 1)))) moNone))) (mSeq (mRet (mTup (maCons (mOp opIx (mVar 3) (mC (.int 0))) (maCons (mOp opAdd (mOp opAdd (mSl (mOp opIx (mVar 3) (mC (.int 1))) moNone (moSome (mVar 4))) (mTup (maCons (mVar 7) maNil))) (mSl (mOp opIx (mVar 3) (mC (.int 1))) (moSome (mOp opAdd (mVar 4) (mC (.int 1)))) moNone)) (maCons (mOp opIx (mVar 3) (mC (.int 2))) maNil))))) mNil))) mNil) (mSeq (mIfS (mAnd (mTB (mOp opEq (mVar 2) (mC (.int 3)))) (mTB (mOp opLt (mOp opIx (mVar 3) (mC (.int 0))) (mC (.int 5))))) (mSeq (mRet (mTup (maCons (mOp opAdd (mOp opIx (mVar 3) (mC (.int 0))) (mC (.int 1))) (maCons (mBt bTuple (maCons (mLc (miV (mOp opIx (mVar 3) (mC (.int 1)))) (Tg.nm 7) mYes (mOp opAdd (mVar 7) (mTup (maCons (mC .non) maNil))) [7]) maNil)) (maCons (mOp opIx (mVar 3) (mC (.int 2))) maNil))))) mNil) mNil) (mSeq (mRet (mVar 3)) mNil)))))))
def m__law_mate_v2 : MF := mFun 9 b__law_mate_v2
def b__law_to : MS := (mSeq (mRet (mIf (mAnd (mTB (mOp (opIs true) (mVar 1) (mC .non))) (mTB (mOp opLt (mVar 2) (mOp opIx (mVar 0) (mC (.int 0)))))) (mOp opIx (mOp opIx (mOp opIx (mVar 0) (mC (.int 1))) (mVar 1)) (mVar 2)) (mC .non))) mNil)
def m__law_to : MF := mFun 3 b__law_to
def b__law_pairs : MS := (mSeq (mPar 2 3 (mDictT (mTup (maCons (mC (.int 0)) (maCons (mC (.int 0)) maNil))) (mC (.str []))) (mLst (maCons (mTup (maCons (mC (.int 0)) (maCons (mC (.int 0)) maNil))) maNil))) (mSeq (mWhile WF (mTB (mOp opNe (mVar 3) (mLst maNil))) (mSeq (mPar 4 3 (mOp opIxT (mVar 3) (mC (.int 0))) (mSl (mVar 3) (moSome (mC (.int 1))) moNone)) (mSeq (mFor (miRng1 (maCons (mBt bMax2 (maCons (mOp opIxT (mVar 0) (mC (.int 0))) (maCons (mOp opIxT (mVar 1) (mC (.int 0))) maNil))) maNil)) (gName' 5) (mSeq (mSet 6 (mTup (maCons (mCl0 (opF m__law_to [0, 1, 2] []) 3 (maCons (mVar 0) (maCons (mOp opIxT (mVar 4) (mC (.int 0))) (maCons (mVar 5) maNil)))) (maCons (mCl0 (opF m__law_to [0, 1, 2] []) 3 (maCons (mVar 1) (maCons (mOp opIxT (mVar 4) (mC (.int 1))) (maCons (mVar 5) maNil)))) maNil)))) (mSeq (mIfS (mAnd (mTB (mOp opNe (mVar 6) (mTup (maCons (mC .non) (maCons (mC .non) maNil))))) (mTB (mOp (opInT true) (mVar 6) (mVar 2)))) (mSeq (mAsg (mOp opAdd (mOp opIxT (mVar 2) (mVar 4)) (mOp opIxT (mC (.str [97, 98, 99, 100, 101])) (mVar 5))) (gSubM oSetIxT (mVar 2) (mVar 6))) (mSeq (mSet 3 (mOp opAdd (mVar 3) (mLst (maCons (mVar 6) maNil)))) mNil)) mNil) mNil))) mNil))) (mSeq (mRet (mVar 2)) mNil)))
def m__law_pairs : MF := mFun 7 b__law_pairs
def b__law_mixed : MS := (mSeq (mPar 2 3 (mBt bList (maCons (mVar 1) maNil)) (mLst maNil)) (mSeq (mFor (miRng1 (maCons (mBt bLen (maCons (mVar 2) maNil)) maNil)) (gName' 4) (mSeq (mSet 5 (mCl0 (opF m__law_pour [0, 1] []) 2 (maCons (mVar 0) (maCons (mBt bLen (maCons (mVar 2) maNil)) maNil)))) (mSeq (mDrop (mBM 1 oAppend (mVar 3) (maCons (mOp opIx (mVar 2) (mVar 5)) maNil))) (mSeq (mSet 2 (mOp opAdd (mSl (mVar 2) moNone (moSome (mVar 5))) (mSl (mVar 2) (moSome (mOp opAdd (mVar 5) (mC (.int 1)))) moNone))) mNil)))) (mSeq (mRet (mBt bTuple (maCons (mVar 3) maNil))) mNil)))
def m__law_mixed : MF := mFun 6 b__law_mixed
def b__law_is_stand : MS := (mSeq (mRet (mOrV (mOp (opIs false) (mVar 1) (mC .non)) (mAndV (mIsi tb_int cs_isi_int (mVar 1)) (mAndV (mNotV (mIsi tb_bool cs_isi_bool (mVar 1))) (mCh opLe opLt (mC (.int 0)) (mVar 1) (mBt bLen (maCons (mOp opIx (mVar 0) (mC (.int 1))) maNil))))))) mNil)
def m__law_is_stand : MF := mFun 2 b__law_is_stand
def b__law_are_pairs : MS := (mSeq (mIfS (mOr (mNot (mTru (mIsi tb_tuple cs_isi_tuple (mVar 2)))) (mTB (mOp (opIn true) (mTup (maCons (mC (.int 0)) (maCons (mC (.int 0)) maNil))) (mVar 2)))) (mSeq (mRet (mC (.bl false))) mNil) mNil) (mSeq (mFor (miRng1 (maCons (mBt bLen (maCons (mVar 2) maNil)) maNil)) (gName' 3) (mSeq (mSet 4 (mOp opIx (mVar 2) (mVar 3))) (mSeq (mIfS (mOr (mNot (mTru (mIsi tb_tuple cs_isi_tuple (mVar 4)))) (mOr (mTB (mOp opNe (mBt bLen (maCons (mVar 4) maNil)) (mC (.int 2)))) (mTB (mOp (opIn false) (mVar 4) (mSl (mVar 2) moNone (moSome (mVar 3))))))) (mSeq (mRet (mC (.bl false))) mNil) mNil) (mSeq (mIfS (mOr (mNot (mTru (mCl0 (opF m__law_is_stand [0, 1] []) 2 (maCons (mVar 0) (maCons (mOp opIx (mVar 4) (mC (.int 0))) maNil))))) (mNot (mTru (mCl0 (opF m__law_is_stand [0, 1] []) 2 (maCons (mVar 1) (maCons (mOp opIx (mVar 4) (mC (.int 1))) maNil)))))) (mSeq (mRet (mC (.bl false))) mNil) mNil) mNil)))) (mSeq (mFor (miV (mVar 2)) (gTup' 2 (gsCons (gName' 5) (gsCons (gName' 6) gsNil))) (mSeq (mIfS (mTB (mOp opNe (mOp (opIn false) (mVar 5) (mOp opIx (mVar 0) (mC (.int 2)))) (mOp (opIn false) (mVar 6) (mOp opIx (mVar 1) (mC (.int 2)))))) (mSeq (mRet (mC (.bl false))) mNil) mNil) (mSeq (mFor (miRng1 (maCons (mBt bMax2 (maCons (mOp opIx (mVar 0) (mC (.int 0))) (maCons (mOp opIx (mVar 1) (mC (.int 0))) maNil))) maNil)) (gName' 7) (mSeq (mIfS (mTB (mOp (opIn true) (mTup (maCons (mCl0 (opF m__law_to [0, 1, 2] []) 3 (maCons (mVar 0) (maCons (mVar 5) (maCons (mVar 7) maNil)))) (maCons (mCl0 (opF m__law_to [0, 1, 2] []) 3 (maCons (mVar 1) (maCons (mVar 6) (maCons (mVar 7) maNil)))) maNil))) (mOp opAdd (mVar 2) (mTup (maCons (mTup (maCons (mC .non) (maCons (mC .non) maNil))) maNil))))) (mSeq (mRet (mC (.bl false))) mNil) mNil) mNil)) mNil))) (mSeq (mRet (mC (.bl true))) mNil))))
def m__law_are_pairs : MF := mFun 8 b__law_are_pairs
def b__law_apart : MS := (mSeq (mFor (miItems (mCl0 (opF m__law_pairs [0, 1] []) 2 (maCons (mVar 0) (maCons (mVar 1) maNil)))) (gTup' 2 (gsCons (gName' 2) (gsCons (gName' 3) gsNil))) (mSeq (mIfS (mTB (mOp opNe (mOp (opIn false) (mOp opIx (mVar 2) (mC (.int 0))) (mOp opIx (mVar 0) (mC (.int 2)))) (mOp (opIn false) (mOp opIx (mVar 2) (mC (.int 1))) (mOp opIx (mVar 1) (mC (.int 2)))))) (mSeq (mRet (mVar 3)) mNil) mNil) mNil)) (mSeq (mRet (mC .non)) mNil))
def m__law_apart : MF := mFun 4 b__law_apart
def b__law_read_case : MS := (mSeq (mSet 1 (mCl0 (opF m__law_machine [0, 1, 2] []) 3 (maCons (mVar 0) (maCons (mC (.int 4)) (maCons (mC (.int 3)) maNil))))) (mSeq (mIfS (mTB (mOp opEq (mCl0 (opF m__law_pour [0, 1] []) 2 (maCons (mVar 0) (maCons (mC (.int 3)) maNil))) (mC (.int 0)))) (mSeq (mSet 1 (mTup (maCons (mOp opIx (mVar 1) (mC (.int 0))) (maCons (mTup (maCons (mOp opMul (mTup (maCons (mC (.int 0)) maNil)) (mOp opIx (mVar 1) (mC (.int 0)))) maNil)) (maCons (mTup (maCons (mC (.int 0)) maNil)) maNil))))) mNil) mNil) (mSeq (mSet 2 (mCl0 (opF m__law_book_v2 [0, 1, 2] []) 3 (maCons (mVar 0) (maCons (mOp opIx (mVar 1) (mC (.int 0))) (maCons (mCl0 (opF m__law_one_of [0, 1] []) 2 (maCons (mVar 0) (maCons (mLst (maCons (mC (.int 1)) (maCons (mC (.int 2)) (maCons (mC (.int 3)) maNil)))) maNil))) maNil))))) (mSeq (mIfS (mTB (mOp opEq (mCl0 (opF m__law_pour [0, 1] []) 2 (maCons (mVar 0) (maCons (mC (.int 3)) maNil))) (mC (.int 0)))) (mSeq (mSet 2 (mSl (mCl0 (opF m__law_one_of [0, 1] []) 2 (maCons (mVar 0) (maCons (mLst (maCons (mTup (maCons (mC (.str [120])) (maCons (mC (.str [121, 120])) (maCons (mC (.str [121, 121])) maNil)))) (maCons (mTup (maCons (mC (.str [120, 120])) (maCons (mC (.str [120, 121])) (maCons (mC (.str [121])) maNil)))) (maCons (mTup (maCons (mC (.str [120, 121])) (maCons (mC (.str [120, 121, 122])) (maCons (mC (.str [122, 120])) maNil)))) (maCons (mTup (maCons (mC (.str [120])) (maCons (mC (.str [120, 121])) (maCons (mC (.str [121, 120])) maNil)))) maNil))))) maNil))) moNone (moSome (mOp opIx (mVar 1) (mC (.int 0)))))) mNil) mNil) (mSeq (mRet (mTup (maCons (mVar 1) (maCons (mVar 2) maNil)))) mNil)))))
def m__law_read_case : MF := mFun 3 b__law_read_case
def b__law_first_rows : MS := (mSeq (mPar 1 2 (mDict (maCons (mC (.int 0)) (maCons (mC (.str [])) maNil))) (mLst (maCons (mC (.int 0)) maNil))) (mSeq (mWhile WF (mTB (mOp opNe (mVar 2) (mLst maNil))) (mSeq (mPar 3 2 (mOp opIx (mVar 2) (mC (.int 0))) (mSl (mVar 2) (moSome (mC (.int 1))) moNone)) (mSeq (mFor (miRng1 (maCons (mOp opIx (mVar 0) (mC (.int 0))) maNil)) (gName' 4) (mSeq (mSet 5 (mOp opIx (mOp opIx (mOp opIx (mVar 0) (mC (.int 1))) (mVar 3)) (mVar 4))) (mSeq (mIfS (mAnd (mTB (mOp (opIs true) (mVar 5) (mC .non))) (mTB (mOp (opIn true) (mVar 5) (mVar 1)))) (mSeq (mAsg (mOp opAdd (mOp opIx (mVar 1) (mVar 3)) (mOp opIx (mC (.str [97, 98, 99, 100, 101])) (mVar 4))) (gSubM oSetIxD (mVar 1) (mVar 5))) (mSeq (mSet 2 (mOp opAdd (mVar 2) (mLst (maCons (mVar 5) maNil)))) mNil)) mNil) mNil))) mNil))) (mSeq (mRet (mVar 1)) mNil)))
def m__law_first_rows : MF := mFun 6 b__law_first_rows
def b__law_still : MS := (mSeq (mPar 4 5 mDict0 (mLst (maCons (mTup (maCons (mVar 3) (maCons (mC (.str [])) maNil))) maNil))) (mSeq (mWhile WF (mTB (mOp opNe (mVar 5) (mLst maNil))) (mSeq (mPar 6 5 (mOp opIx (mVar 5) (mC (.int 0))) (mSl (mVar 5) (moSome (mC (.int 1))) moNone)) (mSeq (mFor (miRng1 (maCons (mOp opIx (mVar 0) (mC (.int 0))) maNil)) (gName' 7) (mSeq (mSet 8 (mOp opIx (mOp opIx (mOp opIx (mVar 0) (mC (.int 1))) (mOp opIx (mVar 6) (mC (.int 0)))) (mVar 7))) (mSeq (mIfS (mAnd (mTB (mOp (opIn false) (mVar 8) (mVar 2))) (mAnd (mTB (mOp opEq (mOp opIx (mVar 1) (mVar 7)) (mC (.str [])))) (mTB (mOp (opIn true) (mVar 8) (mVar 4))))) (mSeq (mAsg (mOp opAdd (mOp opIx (mVar 6) (mC (.int 1))) (mOp opIx (mC (.str [97, 98, 99, 100, 101])) (mVar 7))) (gSubM oSetIxD (mVar 4) (mVar 8))) (mSeq (mSet 5 (mOp opAdd (mVar 5) (mLst (maCons (mTup (maCons (mVar 8) (maCons (mOp opIx (mVar 4) (mVar 8)) maNil))) maNil)))) mNil)) mNil) mNil))) mNil))) (mSeq (mRet (mVar 4)) mNil)))
def m__law_still : MF := mFun 9 b__law_still
def b__law_parted : MS := (mSeq (mSet 4 mDict0) (mSeq (mFor (miV (mVar 2)) (gName' 5) (mSeq (mFor (miRng1 (maCons (mOp opIx (mVar 0) (mC (.int 0))) maNil)) (gName' 6) (mSeq (mFor (miRng2 (maCons (mOp opAdd (mVar 6) (mC (.int 1))) (maCons (mOp opIx (mVar 0) (mC (.int 0))) maNil))) (gName' 7) (mSeq (mPar 8 9 (mTup (maCons (mOp opIx (mOp opIx (mOp opIx (mVar 0) (mC (.int 1))) (mVar 5)) (mVar 6)) (maCons (mOp opIx (mOp opIx (mOp opIx (mVar 0) (mC (.int 1))) (mVar 5)) (mVar 7)) maNil))) (mCl0 (opF m__law_cut_v2 [0, 1] []) 2 (maCons (mOp opIx (mVar 1) (mVar 6)) (maCons (mOp opIx (mVar 1) (mVar 7)) maNil)))) (mSeq (mIfS (mAnd (mTB (mOp (opIn false) (mOp opIx (mVar 8) (mC (.int 0))) (mVar 2))) (mAnd (mTB (mOp (opIn false) (mOp opIx (mVar 8) (mC (.int 1))) (mVar 2))) (mTB (mOp (opIn false) (mC (.str [])) (mVar 9))))) (mSeq (mAsg (mTup (maCons (mOp opAdd (mOp opIx (mVar 3) (mVar 5)) (mOp opIx (mC (.str [97, 98, 99, 100, 101])) (mVar 6))) (maCons (mOp opAdd (mOp opIx (mVar 3) (mVar 5)) (mOp opIx (mC (.str [97, 98, 99, 100, 101])) (mVar 7))) maNil))) (gSubM oSetIxD (mVar 4) (mOp opAdd (mVar 8) (mVar 9)))) mNil) mNil) mNil))) mNil)) mNil)) (mSeq (mRet (mVar 4)) mNil)))
def m__law_parted : MF := mFun 10 b__law_parted
def b__law_further : MS := (mSeq (mSet 5 (mLst maNil)) (mSeq (mFor (miRng1 (maCons (mOp opIx (mVar 0) (mC (.int 0))) maNil)) (gName' 6) (mSeq (mPar 7 8 (mOp opIx (mOp opIx (mOp opIx (mVar 0) (mC (.int 1))) (mOp opIx (mVar 3) (mC (.int 0)))) (mVar 6)) (mOp opIx (mOp opIx (mOp opIx (mVar 0) (mC (.int 1))) (mOp opIx (mVar 3) (mC (.int 1)))) (mVar 6))) (mSeq (mIfS (mAnd (mTB (mOp opEq (mOp opIx (mVar 3) (mC (.int 2))) (mC (.str [])))) (mTB (mOp (opIn false) (mVar 7) (mVar 2)))) (mSeq (mDrop (mBM 1 oAppend (mVar 5) (maCons (mTup (maCons (mOp opAdd (mTup (maCons (mVar 7) (maCons (mOp opIx (mVar 3) (mC (.int 1))) maNil))) (mCl0 (opF m__law_cut_v2 [0, 1] []) 2 (maCons (mOp opIx (mVar 1) (mVar 6)) (maCons (mOp opIx (mVar 3) (mC (.int 3))) maNil)))) (maCons (mTup (maCons (mOp opAdd (mOp opIx (mVar 4) (mC (.int 0))) (mOp opIx (mC (.str [97, 98, 99, 100, 101])) (mVar 6))) (maCons (mOp opIx (mVar 4) (mC (.int 1))) maNil))) maNil))) maNil))) mNil) mNil) (mSeq (mIfS (mAnd (mTB (mOp opEq (mOp opIx (mVar 3) (mC (.int 3))) (mC (.str [])))) (mTB (mOp (opIn false) (mVar 8) (mVar 2)))) (mSeq (mDrop (mBM 1 oAppend (mVar 5) (maCons (mTup (maCons (mOp opAdd (mTup (maCons (mOp opIx (mVar 3) (mC (.int 0))) (maCons (mVar 8) maNil))) (mCl0 (opF m__law_cut_v2 [0, 1] []) 2 (maCons (mOp opIx (mVar 3) (mC (.int 2))) (maCons (mOp opIx (mVar 1) (mVar 6)) maNil)))) (maCons (mTup (maCons (mOp opIx (mVar 4) (mC (.int 0))) (maCons (mOp opAdd (mOp opIx (mVar 4) (mC (.int 1))) (mOp opIx (mC (.str [97, 98, 99, 100, 101])) (mVar 6))) maNil))) maNil))) maNil))) mNil) mNil) mNil)))) (mSeq (mRet (mLc (miV (mVar 5)) (Tg.nm 9) (mTB (mOp (opIn false) (mC (.str [])) (mSl (mOp opIx (mVar 9) (mC (.int 0))) (moSome (mC (.int 2))) moNone))) (mVar 9) [9])) mNil)))
def m__law_further : MF := mFun 10 b__law_further
def b__law_clash : MS := (mSeq (mPar 2 3 (mCl0 (opF m__law_useful_v2 [0] []) 1 (maCons (mVar 0) maNil)) (mCl0 (opF m__law_first_rows [0] []) 1 (maCons (mVar 0) maNil))) (mSeq (mFor (miV (mLc (miV (mVar 2)) (Tg.nm 4) (mTB (mOp (opIn false) (mVar 4) (mOp opIx (mVar 0) (mC (.int 2))))) (mVar 4) [4])) (gName' 4) (mSeq (mFor (miItems (mCl0 (opF m__law_still [0, 1, 2, 3] []) 4 (maCons (mVar 0) (maCons (mVar 1) (maCons (mVar 2) (maCons (mVar 4) maNil)))))) (gTup' 2 (gsCons (gName' 5) (gsCons (gName' 6) gsNil))) (mSeq (mIfS (mTB (mOp (opIn false) (mVar 5) (mOp opIx (mVar 0) (mC (.int 2))))) (mSeq (mRet (mTup (maCons (mOp opIx (mVar 3) (mVar 4)) (maCons (mOp opAdd (mOp opIx (mVar 3) (mVar 4)) (mVar 6)) maNil)))) mNil) mNil) mNil)) mNil)) (mSeq (mSet 7 (mCl0 (opF m__law_parted [0, 1, 2, 3] []) 4 (maCons (mVar 0) (maCons (mVar 1) (maCons (mVar 2) (maCons (mVar 3) maNil)))))) (mSeq (mSet 8 (mBt bList (maCons (mVar 7) maNil))) (mSeq (mWhile WF (mTB (mOp opNe (mVar 8) (mLst maNil))) (mSeq (mPar 9 8 (mOp opIx (mVar 8) (mC (.int 0))) (mSl (mVar 8) (moSome (mC (.int 1))) moNone)) (mSeq (mIfS (mAnd (mTB (mOp (opIn false) (mOp opIx (mVar 9) (mC (.int 0))) (mOp opIx (mVar 0) (mC (.int 2))))) (mAnd (mTB (mOp (opIn false) (mOp opIx (mVar 9) (mC (.int 1))) (mOp opIx (mVar 0) (mC (.int 2))))) (mTB (mOp opEq (mSl (mVar 9) (moSome (mC (.int 2))) moNone) (mTup (maCons (mC (.str [])) (maCons (mC (.str [])) maNil))))))) (mSeq (mRet (mOp opIx (mVar 7) (mVar 9))) mNil) mNil) (mSeq (mFor (miV (mCl0 (opF m__law_further [0, 1, 2, 3, 4] []) 5 (maCons (mVar 0) (maCons (mVar 1) (maCons (mVar 2) (maCons (mVar 9) (maCons (mOp opIx (mVar 7) (mVar 9)) maNil))))))) (gTup' 2 (gsCons (gName' 10) (gsCons (gName' 11) gsNil))) (mSeq (mIfS (mTB (mOp (opIn true) (mVar 10) (mVar 7))) (mSeq (mAsg (mVar 11) (gSubM oSetIx (mVar 7) (mVar 10))) (mSeq (mSet 8 (mOp opAdd (mVar 8) (mLst (maCons (mVar 10) maNil)))) mNil)) mNil) mNil)) mNil)))) (mSeq (mRet (mC .non)) mNil))))))
def m__law_clash : MF := mFun 12 b__law_clash
def b__law_is_clash : MS := (mSeq (mIfS (mOr (mNot (mTru (mIsi tb_tuple cs_isi_tuple (mVar 2)))) (mOr (mTB (mOp opNe (mBt bLen (maCons (mVar 2) maNil)) (mC (.int 2)))) (mNot (mTru (mBt bAll (maCons (mLc (miV (mVar 2)) (Tg.nm 3) mYes (mCl0 (opF m__law_is_text [0, 1] []) 2 (maCons (mVar 0) (maCons (mVar 3) maNil))) [3]) maNil)))))) (mSeq (mRet (mC (.bl false))) mNil) mNil) (mSeq (mRet (mAndV (mOp opNe (mOp opIx (mVar 2) (mC (.int 0))) (mOp opIx (mVar 2) (mC (.int 1)))) (mOp opEq (mCl0 (opF m__law_version [0, 1] []) 2 (maCons (mVar 1) (maCons (mOp opIx (mVar 2) (mC (.int 0))) maNil))) (mCl0 (opF m__law_version [0, 1] []) 2 (maCons (mVar 1) (maCons (mOp opIx (mVar 2) (mC (.int 1))) maNil)))))) mNil))
def m__law_is_clash : MF := mFun 4 b__law_is_clash
end MM

end
section
set_option maxRecDepth 100000
set_option maxHeartbeats 8000000
namespace K48
open PySem PySem.Spec PyProof.Rows L2 MC MM
def topS (i : Nat) : Stmt := PySem.Challenge.pw_liketongues_k48_whole_claims_of_counts.main.body.getD i (.Pass ⟨0, 0, 0, 0⟩)

abbrev s__law_pour : Stmt := topS 66
theorem sc__law_pour : FnScope ["_law_jug_here", "_law_many", "_law_figure"] ["_law_jug_here", "_law_many"] (defScope s__law_pour) := ⟨rfl, rfl, rfl, by decide +kernel, rfl, by decide +kernel, by decide +kernel⟩

abbrev s__law_machine : Stmt := topS 68
theorem sc__law_machine : FnScope ["_law_jug_here", "_law_most", "_law_widest", "_law_many", "_law_wide", "_law_rows", "_law_k", "_law_found", "_law_j"] ["_law_jug_here", "_law_most", "_law_widest"] (defScope s__law_machine) := ⟨rfl, rfl, rfl, by decide +kernel, rfl, by decide +kernel, by decide +kernel⟩

abbrev s__law_one_of : Stmt := topS 67
theorem sc__law_one_of : FnScope ["_law_jug_here", "_law_menu"] ["_law_jug_here", "_law_menu"] (defScope s__law_one_of) := ⟨rfl, rfl, rfl, by decide +kernel, rfl, by decide +kernel, by decide +kernel⟩

abbrev s__law_count : Stmt := topS 69
theorem sc__law_count : FnScope ["_law_plan", "_law_size", "_law_k", "_law_here", "_law_turn", "_law_later", "_law_goal"] ["_law_plan", "_law_size"] (defScope s__law_count) := ⟨rfl, rfl, rfl, by decide +kernel, rfl, by decide +kernel, by decide +kernel⟩

abbrev s__law_whole : Stmt := topS 70
theorem sc__law_whole : FnScope ["_law_thing"] ["_law_thing"] (defScope s__law_whole) := ⟨rfl, rfl, rfl, by decide +kernel, rfl, by decide +kernel, by decide +kernel⟩

abbrev s_is_between : Stmt := topS 11
theorem sc_is_between : FnScope ["value", "low", "high"] ["value", "low", "high"] (defScope s_is_between) := ⟨rfl, rfl, rfl, by decide +kernel, rfl, by decide +kernel, by decide +kernel⟩

abbrev s_is_goal : Stmt := topS 12
theorem sc_is_goal : FnScope ["value", "stands"] ["value", "stands"] (defScope s_is_goal) := ⟨rfl, rfl, rfl, by decide +kernel, rfl, by decide +kernel, by decide +kernel⟩

abbrev s_wrong_arrows : Stmt := topS 13
theorem sc_wrong_arrows : FnScope ["arrows", "letters", "index", "row", "goal"] ["arrows", "letters"] (defScope s_wrong_arrows) := ⟨rfl, rfl, rfl, by decide +kernel, rfl, by decide +kernel, by decide +kernel⟩

abbrev s_wrong_end : Stmt := topS 14
theorem sc_wrong_end : FnScope ["ends", "stands", "last", "index", "stand"] ["ends", "stands"] (defScope s_wrong_end) := ⟨rfl, rfl, rfl, by decide +kernel, rfl, by decide +kernel, by decide +kernel⟩

abbrev s_is_told : Stmt := topS 15
theorem sc_is_told : FnScope ["value", "arrows", "ends"] ["value"] (defScope s_is_told) := ⟨rfl, rfl, rfl, by decide +kernel, rfl, by decide +kernel, by decide +kernel⟩

abbrev s_is_integer : Stmt := topS 46
theorem sc_is_integer : FnScope ["value"] ["value"] (defScope s_is_integer) := ⟨rfl, rfl, rfl, by decide +kernel, rfl, by decide +kernel, by decide +kernel⟩

abbrev s_is_empty : Stmt := topS 47
theorem sc_is_empty : FnScope ["value"] ["value"] (defScope s_is_empty) := ⟨rfl, rfl, rfl, by decide +kernel, rfl, by decide +kernel, by decide +kernel⟩

abbrev s_end_counts : Stmt := topS 37
theorem sc_end_counts : FnScope ["machine", "stand"] ["machine"] (defScope s_end_counts) := ⟨rfl, rfl, rfl, by decide +kernel, rfl, by decide +kernel, by decide +kernel⟩

abbrev s_counts_before : Stmt := topS 36
theorem sc_counts_before : FnScope ["machine", "counts", "found", "row", "goal"] ["machine", "counts"] (defScope s_counts_before) := ⟨rfl, rfl, rfl, by decide +kernel, rfl, by decide +kernel, by decide +kernel⟩

abbrev s_all_counts : Stmt := topS 38
theorem sc_all_counts : FnScope ["machine", "length", "found", "turn"] ["machine", "length"] (defScope s_all_counts) := ⟨rfl, rfl, rfl, by decide +kernel, rfl, by decide +kernel, by decide +kernel⟩

abbrev s_count_of : Stmt := topS 39
theorem sc_count_of : FnScope ["machine", "length"] ["machine", "length"] (defScope s_count_of) := ⟨rfl, rfl, rfl, by decide +kernel, rfl, by decide +kernel, by decide +kernel⟩

abbrev s_Machine___init__ : Stmt := inClass (topS 16) 0
theorem sc_Machine___init__ : FnScope ["self", "letters", "arrows", "ends", "index"] ["self", "letters", "arrows", "ends"] (defScope s_Machine___init__) := ⟨rfl, rfl, rfl, by decide +kernel, rfl, by decide +kernel, by decide +kernel⟩

abbrev s_made_of : Stmt := topS 48
theorem sc_made_of : FnScope ["told"] ["told"] (defScope s_made_of) := ⟨rfl, rfl, rfl, by decide +kernel, rfl, by decide +kernel, by decide +kernel⟩

abbrev s_shows_count : Stmt := topS 61
theorem sc_shows_count : FnScope ["told", "numbers", "paper", "length", "count"] ["told", "numbers", "paper"] (defScope s_shows_count) := ⟨rfl, rfl, rfl, by decide +kernel, rfl, by decide +kernel, by decide +kernel⟩

abbrev s_holds : Stmt := topS 63
theorem sc_holds : FnScope ["claim", "paper", "size", "shows"] ["claim", "paper"] (defScope s_holds) := ⟨rfl, rfl, rfl, by decide +kernel, rfl, by decide +kernel, by decide +kernel⟩

def tabS_ : List (Nat × MF) := [(8, m_shows_count)]

abbrev s__law_right : Stmt := topS 71
theorem sc__law_right : FnScope ["_law_jug_here", "_law_turn", "_law_plan", "_law_again", "_law_size", "_law_total", "_law_told", "_law_asked", "_law_page", "_law_fine", "_law_due", "_law_said"] ["_law_jug_here"] (defScope s__law_right) := ⟨rfl, rfl, rfl, by decide +kernel, rfl, by decide +kernel, by decide +kernel⟩

def b__law_right : MS := (mSeq (mFor (miRng1 (maCons (mC (.int 5)) maNil)) (gName' 1) (mSeq (mSet 2 (mCl0 (opF m__law_machine [0, 1, 2] []) 3 (maCons (mVar 0) (maCons (mC (.int 8)) (maCons (mC (.int 5)) maNil))))) (mSeq (mFor (miRng1 (maCons (mC (.int 6)) maNil)) (gName' 3) (mSeq (mSet 4 (mCl0 (opF m__law_one_of [0, 1] []) 2 (maCons (mVar 0) (maCons (mLst (maCons (mCl0 (opF m__law_pour [0, 1] []) 2 (maCons (mVar 0) (maCons (mC (.int 9)) maNil))) (maCons (mCl0 (opF m__law_pour [0, 1] []) 2 (maCons (mVar 0) (maCons (mC (.int 26)) maNil))) (maCons (mC (.int 300)) (maCons (mC (.int 299)) (maCons (mC (.int 0)) (maCons (mC (.int 1)) maNil))))))) maNil)))) (mSeq (mSet 5 (mCl0 (opF m__law_count [0, 1] []) 2 (maCons (mVar 2) (maCons (mVar 4) maNil)))) (mSeq (mIfS (mTB (mOp opGe (mVar 5) (mOp opPow (mC (.int 10)) (mC (.int 19))))) (mSeq (mPar 4 5 (mC (.int 20)) (mCl0 (opF m__law_count [0, 1] []) 2 (maCons (mVar 2) (maCons (mC (.int 20)) maNil)))) mNil) mNil) (mSeq (mSet 6 (mCl0 (opF m__law_one_of [0, 1] []) 2 (maCons (mVar 0) (maCons (mLst (maCons (mVar 5) (maCons (mVar 5) (maCons (mVar 5) (maCons (mOp opAdd (mVar 5) (mC (.int 1))) (maCons (mOp opSub (mVar 5) (mC (.int 1))) (maCons (mUn (unI fun i => -i) (mVar 5)) (maCons (mC (.bl true)) (maCons (mC (.bl false)) (maCons (mC .non) (maCons (mBt bStrI (maCons (mVar 5) maNil)) (maCons (mTup (maCons (mVar 5) maNil)) maNil)))))))))))) maNil)))) (mSeq (mSet 7 (mCl0 (opF m__law_one_of [0, 1] []) 2 (maCons (mVar 0) (maCons (mOp opAdd (mOp opMul (mLst (maCons (mVar 4) maNil)) (mC (.int 9))) (mLst (maCons (mUn (unI fun i => -i) (mC (.int 1))) (maCons (mC (.int 301)) (maCons (mC (.bl true)) (maCons (mC .non) (maCons (mBt bStrI (maCons (mVar 4) maNil)) (maCons (mTup (maCons (mVar 4) maNil)) (maCons (mOp opPow (mC (.int 10)) (mC (.int 19))) maNil))))))))) maNil)))) (mSeq (mSet 8 (mCl0 (opF m__law_one_of [0, 1] []) 2 (maCons (mVar 0) (maCons (mLst (maCons (mTup maNil) (maCons (mTup maNil) (maCons (mTup maNil) (maCons (mTup maNil) (maCons (mTup maNil) (maCons (mLst maNil) (maCons (mC .non) (maCons (mC (.str [])) (maCons (mC (.int 0)) (maCons (mTup (maCons (mTup maNil) maNil)) (maCons (mC (.bl false)) maNil)))))))))))) maNil)))) (mSeq (mSet 9 (mAndV (mCl0 (opF m__law_whole [0] []) 1 (maCons (mVar 7) maNil)) (mAndV (mCh opLe opLe (mC (.int 0)) (mVar 7) (mC (.int 300))) (mAndV (mCl0 (opF m__law_whole [0] []) 1 (maCons (mVar 6) maNil)) (mOp opEq (mBt bReprA (maCons (mVar 8) maNil)) (mC (.str [40, 41]))))))) (mSeq (mPar 10 11 (mAndV (mVar 9) (mOp opEq (mVar 6) (mCl0 (opF m__law_count [0, 1] []) 2 (maCons (mVar 2) (maCons (mVar 7) maNil))))) (mTup (maCons (mC (.str [99, 111, 117, 110, 116])) (maCons (mVar 2) (maCons (mVar 7) (maCons (mVar 6) maNil)))))) (mSeq (mIfS (mTB (mOp opNe (mBt bRepr (maCons (mLst (maCons (mCl0 (opF (m_holds tabS_) [0, 1] []) 2 (maCons (mVar 11) (maCons (mVar 8) maNil))) (maCons (mCl (opF (m_holds tabS_) [1, 0] []) 0 2 maNil (maCons (mVar 8) (maCons (mVar 11) maNil))) maNil))) maNil)) (mBt bRepr (maCons (mLst (maCons (mVar 10) (maCons (mVar 10) maNil))) maNil)))) (mSeq (mRet (mC (.bl false))) mNil) mNil) mNil)))))))))) mNil))) (mSeq (mRet (mC (.bl true))) mNil))
def m__law_right : MF := mFun 12 b__law_right

abbrev s__law_jug : Stmt := topS 65
theorem sc__law_jug : FnScope ["_law_cells", "_law_at", "_law_own", "_law_stirred", "_law_each", "_law_great"] ["_law_cells", "_law_at"] (defScope s__law_jug) := ⟨rfl, rfl, rfl, by decide +kernel, rfl, by decide +kernel, by decide +kernel⟩

abbrev s_law : Stmt := topS 72
theorem sc_law : FnScope ["_law_cells", "_law_k"] ["_law_cells"] (defScope s_law) := ⟨rfl, rfl, rfl, by decide +kernel, rfl, by decide +kernel, by decide +kernel⟩

def b_law : MS := (mSeq (mRet (mBt bAll (maCons (mLc (miRng1 (maCons (mBt bMax2 (maCons (mC (.int 2)) (maCons (mBt bMin2 (maCons (mBt bLen (maCons (mVar 0) maNil)) (maCons (mC (.int 5)) maNil))) maNil))) maNil)) (Tg.nm 1) mYes (mCl0 (opF m__law_right [0] []) 1 (maCons (mCl0 (opF m__law_jug [0, 1] []) 2 (maCons (mVar 0) (maCons (mVar 1) maNil))) maNil)) [1]) maNil))) mNil)
def m_law : MF := mFun 2 b_law

/-- what the top has left -/
structure Tx (W : World) (w : Wo) (mg : Str → Option Value) where
  hW : W = w.W
  gvn : ∀ i v, w.gv i = some v → v ≠ .non
  nn_Desk : w.cl 1 = none
  nn_Console : w.cl 2 = none
  nn_Kept : w.cl 3 = none
  nn_Trial : w.cl 4 = none
  nn_Run : w.cl 5 = none
  nn_Paths : w.cl 6 = none
  nn_Readings : w.cl 7 = none
  nn_InputError : w.cl 8 = none
  nn_StateError : w.cl 9 = none
  nn_SizeError : w.cl 10 = none
  nn_NotAMachine : w.cl 11 = none
  nn_NotADesk : w.cl 12 = none
  nn_InvalidText : w.cl 13 = none
  nn_InvalidCount : w.cl 14 = none
  nn_InvalidLetter : w.cl 15 = none
  nn_InvalidStand : w.cl 16 = none
  nn_InvalidWord : w.cl 17 = none
  nn_InvalidLine : w.cl 18 = none
  nn_InvalidArrows : w.cl 19 = none
  nn_InvalidEnds : w.cl 20 = none
  nn_InvalidBook : w.cl 21 = none
  nn_InvalidTexts : w.cl 22 = none
  nn_InvalidDeeds : w.cl 23 = none
  nn_NothingToUndo : w.cl 24 = none
  nn_Busy : w.cl 25 = none
  nn_TooMany : w.cl 26 = none
  a__law_pour : Addr
  fd__law_pour : FuncData
  F__law_pour : Fun w.K "_law_pour" "_law_pour" s__law_pour a__law_pour fd__law_pour
  g__law_pour : mg "_law_pour" = some (.ref a__law_pour)
  a__law_machine : Addr
  fd__law_machine : FuncData
  F__law_machine : Fun w.K "_law_machine" "_law_machine" s__law_machine a__law_machine fd__law_machine
  g__law_machine : mg "_law_machine" = some (.ref a__law_machine)
  a__law_one_of : Addr
  fd__law_one_of : FuncData
  F__law_one_of : Fun w.K "_law_one_of" "_law_one_of" s__law_one_of a__law_one_of fd__law_one_of
  g__law_one_of : mg "_law_one_of" = some (.ref a__law_one_of)
  a__law_count : Addr
  fd__law_count : FuncData
  F__law_count : Fun w.K "_law_count" "_law_count" s__law_count a__law_count fd__law_count
  g__law_count : mg "_law_count" = some (.ref a__law_count)
  a__law_whole : Addr
  fd__law_whole : FuncData
  F__law_whole : Fun w.K "_law_whole" "_law_whole" s__law_whole a__law_whole fd__law_whole
  g__law_whole : mg "_law_whole" = some (.ref a__law_whole)
  a_is_between : Addr
  fd_is_between : FuncData
  F_is_between : Fun w.K "is_between" "is_between" s_is_between a_is_between fd_is_between
  g_is_between : mg "is_between" = some (.ref a_is_between)
  a_is_goal : Addr
  fd_is_goal : FuncData
  F_is_goal : Fun w.K "is_goal" "is_goal" s_is_goal a_is_goal fd_is_goal
  g_is_goal : mg "is_goal" = some (.ref a_is_goal)
  a_wrong_arrows : Addr
  fd_wrong_arrows : FuncData
  F_wrong_arrows : Fun w.K "wrong_arrows" "wrong_arrows" s_wrong_arrows a_wrong_arrows fd_wrong_arrows
  g_wrong_arrows : mg "wrong_arrows" = some (.ref a_wrong_arrows)
  a_wrong_end : Addr
  fd_wrong_end : FuncData
  F_wrong_end : Fun w.K "wrong_end" "wrong_end" s_wrong_end a_wrong_end fd_wrong_end
  g_wrong_end : mg "wrong_end" = some (.ref a_wrong_end)
  a_is_told : Addr
  fd_is_told : FuncData
  F_is_told : Fun w.K "is_told" "is_told" s_is_told a_is_told fd_is_told
  g_is_told : mg "is_told" = some (.ref a_is_told)
  a_is_integer : Addr
  fd_is_integer : FuncData
  F_is_integer : Fun w.K "is_integer" "is_integer" s_is_integer a_is_integer fd_is_integer
  g_is_integer : mg "is_integer" = some (.ref a_is_integer)
  a_is_empty : Addr
  fd_is_empty : FuncData
  F_is_empty : Fun w.K "is_empty" "is_empty" s_is_empty a_is_empty fd_is_empty
  g_is_empty : mg "is_empty" = some (.ref a_is_empty)
  a_end_counts : Addr
  fd_end_counts : FuncData
  F_end_counts : Fun w.K "end_counts" "end_counts" s_end_counts a_end_counts fd_end_counts
  g_end_counts : mg "end_counts" = some (.ref a_end_counts)
  a_counts_before : Addr
  fd_counts_before : FuncData
  F_counts_before : Fun w.K "counts_before" "counts_before" s_counts_before a_counts_before fd_counts_before
  g_counts_before : mg "counts_before" = some (.ref a_counts_before)
  a_all_counts : Addr
  fd_all_counts : FuncData
  F_all_counts : Fun w.K "all_counts" "all_counts" s_all_counts a_all_counts fd_all_counts
  g_all_counts : mg "all_counts" = some (.ref a_all_counts)
  a_count_of : Addr
  fd_count_of : FuncData
  F_count_of : Fun w.K "count_of" "count_of" s_count_of a_count_of fd_count_of
  g_count_of : mg "count_of" = some (.ref a_count_of)
  a_Machine___init__ : Addr
  fd_Machine___init__ : FuncData
  F_Machine___init__ : Fun w.K "__init__" "Machine.__init__" s_Machine___init__ a_Machine___init__ fd_Machine___init__
  a_made_of : Addr
  fd_made_of : FuncData
  F_made_of : Fun w.K "made_of" "made_of" s_made_of a_made_of fd_made_of
  g_made_of : mg "made_of" = some (.ref a_made_of)
  a_shows_count : Addr
  fd_shows_count : FuncData
  F_shows_count : Fun w.K "shows_count" "shows_count" s_shows_count a_shows_count fd_shows_count
  g_shows_count : mg "shows_count" = some (.ref a_shows_count)
  a_holds : Addr
  fd_holds : FuncData
  F_holds : Fun w.K "holds" "holds" s_holds a_holds fd_holds
  g_holds : mg "holds" = some (.ref a_holds)
  a__law_right : Addr
  fd__law_right : FuncData
  F__law_right : Fun w.K "_law_right" "_law_right" s__law_right a__law_right fd__law_right
  g__law_right : mg "_law_right" = some (.ref a__law_right)
  a__law_jug : Addr
  fd__law_jug : FuncData
  F__law_jug : Fun w.K "_law_jug" "_law_jug" s__law_jug a__law_jug fd__law_jug
  g__law_jug : mg "_law_jug" = some (.ref a__law_jug)
  a_law : Addr
  fd_law : FuncData
  F_law : Fun w.K "law" "law" s_law a_law fd_law
  g_law : mg "law" = some (.ref a_law)
  t_MOST_LETTERS : Tok
  g_MOST_LETTERS : mg "MOST_LETTERS" = some (.int 5 t_MOST_LETTERS)
  t_MOST_STANDS : Tok
  g_MOST_STANDS : mg "MOST_STANDS" = some (.int 8 t_MOST_STANDS)
  t_MOST_TEXT : Tok
  g_MOST_TEXT : mg "MOST_TEXT" = some (.int 300 t_MOST_TEXT)
  c_Machine : Addr
  g_Machine : mg "Machine" = some (.ref c_Machine)
  n_Machine : w.cl 0 = some c_Machine
  cl_Machine : Cls w.K c_Machine
  ci_Machine : ClsI w.K c_Machine
  mk_Machine : Mk w.K c_Machine a_Machine___init__
  na_Machine_arrows : NoAttr w.K c_Machine "arrows"
  na_Machine_ends : NoAttr w.K c_Machine "ends"
  na_Machine_letters : NoAttr w.K c_Machine "letters"
  i_Machine_int : PySem.W.kitOne w.K (.ref c_Machine) (.type "int") = some false
  i_Machine_bool : PySem.W.kitOne w.K (.ref c_Machine) (.type "bool") = some false
  i_Machine_tuple : PySem.W.kitOne w.K (.ref c_Machine) (.type "tuple") = some false
  i_Machine_str : PySem.W.kitOne w.K (.ref c_Machine) (.type "str") = some false
  d_SHOWN : Addr
  g_SHOWN : mg "SHOWN" = some (.ref d_SHOWN)
  vd_SHOWN : w.gv 0 = some (.ref d_SHOWN)
  kt_SHOWN : KTab w W 0 rowsS
  gv_shows_count : w.gv 8 = some (.ref a_shows_count)
  z_abs : mg "abs" = none
  z_all : mg "all" = none
  z_bool : mg "bool" = none
  z_divmod : mg "divmod" = none
  z_enumerate : mg "enumerate" = none
  z_int : mg "int" = none
  z_isinstance : mg "isinstance" = none
  z_len : mg "len" = none
  z_max : mg "max" = none
  z_min : mg "min" = none
  z_range : mg "range" = none
  z_repr : mg "repr" = none
  z_str : mg "str" = none
  z_sum : mg "sum" = none
  z_tuple : mg "tuple" = none
section
variable {P : Program} {W : World} {w : Wo} {mg : Str → Option Value} {base : Heap}
theorem fld_arrows (T : Tx W w mg) : Fld w cs_arrows [97, 114, 114, 111, 119, 115] := by
  intro c A hc h
  unfold cs_arrows at hc
  simp only [List.mem_cons, List.not_mem_nil, or_false] at hc
  rcases hc with rfl | rfl
  · rw [T.n_Machine] at h; cases h; exact ⟨T.cl_Machine, T.na_Machine_arrows⟩
  · rw [T.nn_Paths] at h; cases h
theorem fld_ends (T : Tx W w mg) : Fld w cs_ends [101, 110, 100, 115] := by
  intro c A hc h
  unfold cs_ends at hc
  simp only [List.mem_cons, List.not_mem_nil, or_false] at hc
  rcases hc with rfl | rfl
  · rw [T.n_Machine] at h; cases h; exact ⟨T.cl_Machine, T.na_Machine_ends⟩
  · rw [T.nn_Paths] at h; cases h
theorem fld_letters (T : Tx W w mg) : Fld w cs_letters [108, 101, 116, 116, 101, 114, 115] := by
  intro c A hc h
  unfold cs_letters at hc
  simp only [List.mem_cons, List.not_mem_nil, or_false] at hc
  rcases hc with rfl
  · rw [T.n_Machine] at h; cases h; exact ⟨T.cl_Machine, T.na_Machine_letters⟩
theorem isi_int (T : Tx W w mg) : IsiOk w (.type "int") tb_int cs_isi_int := by
  refine ⟨fun p hp => ?_, fun p hp => ?_⟩
  · unfold tb_int at hp
    simp only [List.mem_cons, List.not_mem_nil, or_false] at hp
    rcases hp with rfl | rfl | rfl | rfl | rfl | rfl | rfl
    · exact kit_ty (by decide +kernel)
    · exact kit_ty (by decide +kernel)
    · exact kit_ty (by decide +kernel)
    · exact kit_ty (by decide +kernel)
    · exact kit_ty (by decide +kernel)
    · exact kit_ty (by decide +kernel)
    · exact kit_ty (by decide +kernel)
  · unfold cs_isi_int at hp
    simp only [List.mem_cons, List.not_mem_nil, or_false] at hp
    rcases hp with rfl | rfl | rfl | rfl | rfl | rfl | rfl | rfl
    · intro A hA; rw [show w.cl _ = _ from T.n_Machine] at hA; cases hA; exact ⟨T.ci_Machine, T.i_Machine_int⟩
    · intro A hA; rw [show w.cl _ = _ from T.nn_Desk] at hA; cases hA
    · intro A hA; rw [show w.cl _ = _ from T.nn_Console] at hA; cases hA
    · intro A hA; rw [show w.cl _ = _ from T.nn_Kept] at hA; cases hA
    · intro A hA; rw [show w.cl _ = _ from T.nn_Trial] at hA; cases hA
    · intro A hA; rw [show w.cl _ = _ from T.nn_Run] at hA; cases hA
    · intro A hA; rw [show w.cl _ = _ from T.nn_Paths] at hA; cases hA
    · intro A hA; rw [show w.cl _ = _ from T.nn_Readings] at hA; cases hA
theorem isi_bool (T : Tx W w mg) : IsiOk w (.type "bool") tb_bool cs_isi_bool := by
  refine ⟨fun p hp => ?_, fun p hp => ?_⟩
  · unfold tb_bool at hp
    simp only [List.mem_cons, List.not_mem_nil, or_false] at hp
    rcases hp with rfl | rfl | rfl | rfl | rfl | rfl | rfl
    · exact kit_ty (by decide +kernel)
    · exact kit_ty (by decide +kernel)
    · exact kit_ty (by decide +kernel)
    · exact kit_ty (by decide +kernel)
    · exact kit_ty (by decide +kernel)
    · exact kit_ty (by decide +kernel)
    · exact kit_ty (by decide +kernel)
  · unfold cs_isi_bool at hp
    simp only [List.mem_cons, List.not_mem_nil, or_false] at hp
    rcases hp with rfl | rfl | rfl | rfl | rfl | rfl | rfl | rfl
    · intro A hA; rw [show w.cl _ = _ from T.n_Machine] at hA; cases hA; exact ⟨T.ci_Machine, T.i_Machine_bool⟩
    · intro A hA; rw [show w.cl _ = _ from T.nn_Desk] at hA; cases hA
    · intro A hA; rw [show w.cl _ = _ from T.nn_Console] at hA; cases hA
    · intro A hA; rw [show w.cl _ = _ from T.nn_Kept] at hA; cases hA
    · intro A hA; rw [show w.cl _ = _ from T.nn_Trial] at hA; cases hA
    · intro A hA; rw [show w.cl _ = _ from T.nn_Run] at hA; cases hA
    · intro A hA; rw [show w.cl _ = _ from T.nn_Paths] at hA; cases hA
    · intro A hA; rw [show w.cl _ = _ from T.nn_Readings] at hA; cases hA
theorem isi_tuple (T : Tx W w mg) : IsiOk w (.type "tuple") tb_tuple cs_isi_tuple := by
  refine ⟨fun p hp => ?_, fun p hp => ?_⟩
  · unfold tb_tuple at hp
    simp only [List.mem_cons, List.not_mem_nil, or_false] at hp
    rcases hp with rfl | rfl | rfl | rfl | rfl | rfl | rfl
    · exact kit_ty (by decide +kernel)
    · exact kit_ty (by decide +kernel)
    · exact kit_ty (by decide +kernel)
    · exact kit_ty (by decide +kernel)
    · exact kit_ty (by decide +kernel)
    · exact kit_ty (by decide +kernel)
    · exact kit_ty (by decide +kernel)
  · unfold cs_isi_tuple at hp
    simp only [List.mem_cons, List.not_mem_nil, or_false] at hp
    rcases hp with rfl | rfl | rfl | rfl | rfl | rfl | rfl | rfl
    · intro A hA; rw [show w.cl _ = _ from T.n_Machine] at hA; cases hA; exact ⟨T.ci_Machine, T.i_Machine_tuple⟩
    · intro A hA; rw [show w.cl _ = _ from T.nn_Desk] at hA; cases hA
    · intro A hA; rw [show w.cl _ = _ from T.nn_Console] at hA; cases hA
    · intro A hA; rw [show w.cl _ = _ from T.nn_Kept] at hA; cases hA
    · intro A hA; rw [show w.cl _ = _ from T.nn_Trial] at hA; cases hA
    · intro A hA; rw [show w.cl _ = _ from T.nn_Run] at hA; cases hA
    · intro A hA; rw [show w.cl _ = _ from T.nn_Paths] at hA; cases hA
    · intro A hA; rw [show w.cl _ = _ from T.nn_Readings] at hA; cases hA
theorem isi_str (T : Tx W w mg) : IsiOk w (.type "str") tb_str cs_isi_str := by
  refine ⟨fun p hp => ?_, fun p hp => ?_⟩
  · unfold tb_str at hp
    simp only [List.mem_cons, List.not_mem_nil, or_false] at hp
    rcases hp with rfl | rfl | rfl | rfl | rfl | rfl | rfl
    · exact kit_ty (by decide +kernel)
    · exact kit_ty (by decide +kernel)
    · exact kit_ty (by decide +kernel)
    · exact kit_ty (by decide +kernel)
    · exact kit_ty (by decide +kernel)
    · exact kit_ty (by decide +kernel)
    · exact kit_ty (by decide +kernel)
  · unfold cs_isi_str at hp
    simp only [List.mem_cons, List.not_mem_nil, or_false] at hp
    rcases hp with rfl | rfl | rfl | rfl | rfl | rfl | rfl | rfl
    · intro A hA; rw [show w.cl _ = _ from T.n_Machine] at hA; cases hA; exact ⟨T.ci_Machine, T.i_Machine_str⟩
    · intro A hA; rw [show w.cl _ = _ from T.nn_Desk] at hA; cases hA
    · intro A hA; rw [show w.cl _ = _ from T.nn_Console] at hA; cases hA
    · intro A hA; rw [show w.cl _ = _ from T.nn_Kept] at hA; cases hA
    · intro A hA; rw [show w.cl _ = _ from T.nn_Trial] at hA; cases hA
    · intro A hA; rw [show w.cl _ = _ from T.nn_Run] at hA; cases hA
    · intro A hA; rw [show w.cl _ = _ from T.nn_Paths] at hA; cases hA
    · intro A hA; rw [show w.cl _ = _ from T.nn_Readings] at hA; cases hA
theorem bd__law_pour_2 (T : Tx W w mg) : Bd w.K T.fd__law_pour ["_law_jug_here", "_law_many"] [] 2 [] [0, 1] := by
  obtain ⟨_, _, _, _, _, _, _, _, _, e, _, _⟩ := T.F__law_pour.ex
  refine ⟨fun s us ws _ h1 h2 => ?_, rfl, by decide⟩
  rw [e]
  match us, ws, h1, h2 with | [_, _], [], _, _ => exact .of_eq rfl
theorem bd__law_machine_3 (T : Tx W w mg) : Bd w.K T.fd__law_machine ["_law_jug_here", "_law_most", "_law_widest"] [] 3 [] [0, 1, 2] := by
  obtain ⟨_, _, _, _, _, _, _, _, _, e, _, _⟩ := T.F__law_machine.ex
  refine ⟨fun s us ws _ h1 h2 => ?_, rfl, by decide⟩
  rw [e]
  match us, ws, h1, h2 with | [_, _, _], [], _, _ => exact .of_eq rfl
theorem bd__law_one_of_2 (T : Tx W w mg) : Bd w.K T.fd__law_one_of ["_law_jug_here", "_law_menu"] [] 2 [] [0, 1] := by
  obtain ⟨_, _, _, _, _, _, _, _, _, e, _, _⟩ := T.F__law_one_of.ex
  refine ⟨fun s us ws _ h1 h2 => ?_, rfl, by decide⟩
  rw [e]
  match us, ws, h1, h2 with | [_, _], [], _, _ => exact .of_eq rfl
theorem bd__law_count_2 (T : Tx W w mg) : Bd w.K T.fd__law_count ["_law_plan", "_law_size"] [] 2 [] [0, 1] := by
  obtain ⟨_, _, _, _, _, _, _, _, _, e, _, _⟩ := T.F__law_count.ex
  refine ⟨fun s us ws _ h1 h2 => ?_, rfl, by decide⟩
  rw [e]
  match us, ws, h1, h2 with | [_, _], [], _, _ => exact .of_eq rfl
theorem bd__law_whole_1 (T : Tx W w mg) : Bd w.K T.fd__law_whole ["_law_thing"] [] 1 [] [0] := by
  obtain ⟨_, _, _, _, _, _, _, _, _, e, _, _⟩ := T.F__law_whole.ex
  refine ⟨fun s us ws _ h1 h2 => ?_, rfl, by decide⟩
  rw [e]
  match us, ws, h1, h2 with | [_], [], _, _ => exact .of_eq rfl
theorem bd_is_between_3 (T : Tx W w mg) : Bd w.K T.fd_is_between ["value", "low", "high"] [] 3 [] [0, 1, 2] := by
  obtain ⟨_, _, _, _, _, _, _, _, _, e, _, _⟩ := T.F_is_between.ex
  refine ⟨fun s us ws _ h1 h2 => ?_, rfl, by decide⟩
  rw [e]
  match us, ws, h1, h2 with | [_, _, _], [], _, _ => exact .of_eq rfl
theorem bd_is_goal_2 (T : Tx W w mg) : Bd w.K T.fd_is_goal ["value", "stands"] [] 2 [] [0, 1] := by
  obtain ⟨_, _, _, _, _, _, _, _, _, e, _, _⟩ := T.F_is_goal.ex
  refine ⟨fun s us ws _ h1 h2 => ?_, rfl, by decide⟩
  rw [e]
  match us, ws, h1, h2 with | [_, _], [], _, _ => exact .of_eq rfl
theorem bd_wrong_arrows_2 (T : Tx W w mg) : Bd w.K T.fd_wrong_arrows ["arrows", "letters"] [] 2 [] [0, 1] := by
  obtain ⟨_, _, _, _, _, _, _, _, _, e, _, _⟩ := T.F_wrong_arrows.ex
  refine ⟨fun s us ws _ h1 h2 => ?_, rfl, by decide⟩
  rw [e]
  match us, ws, h1, h2 with | [_, _], [], _, _ => exact .of_eq rfl
theorem bd_wrong_end_2 (T : Tx W w mg) : Bd w.K T.fd_wrong_end ["ends", "stands"] [] 2 [] [0, 1] := by
  obtain ⟨_, _, _, _, _, _, _, _, _, e, _, _⟩ := T.F_wrong_end.ex
  refine ⟨fun s us ws _ h1 h2 => ?_, rfl, by decide⟩
  rw [e]
  match us, ws, h1, h2 with | [_, _], [], _, _ => exact .of_eq rfl
theorem bd_is_told_1 (T : Tx W w mg) : Bd w.K T.fd_is_told ["value"] [] 1 [] [0] := by
  obtain ⟨_, _, _, _, _, _, _, _, _, e, _, _⟩ := T.F_is_told.ex
  refine ⟨fun s us ws _ h1 h2 => ?_, rfl, by decide⟩
  rw [e]
  match us, ws, h1, h2 with | [_], [], _, _ => exact .of_eq rfl
theorem bd_is_integer_1 (T : Tx W w mg) : Bd w.K T.fd_is_integer ["value"] [] 1 [] [0] := by
  obtain ⟨_, _, _, _, _, _, _, _, _, e, _, _⟩ := T.F_is_integer.ex
  refine ⟨fun s us ws _ h1 h2 => ?_, rfl, by decide⟩
  rw [e]
  match us, ws, h1, h2 with | [_], [], _, _ => exact .of_eq rfl
theorem bd_is_empty_1 (T : Tx W w mg) : Bd w.K T.fd_is_empty ["value"] [] 1 [] [0] := by
  obtain ⟨_, _, _, _, _, _, _, _, _, e, _, _⟩ := T.F_is_empty.ex
  refine ⟨fun s us ws _ h1 h2 => ?_, rfl, by decide⟩
  rw [e]
  match us, ws, h1, h2 with | [_], [], _, _ => exact .of_eq rfl
theorem bd_end_counts_1 (T : Tx W w mg) : Bd w.K T.fd_end_counts ["machine"] [] 1 [] [0] := by
  obtain ⟨_, _, _, _, _, _, _, _, _, e, _, _⟩ := T.F_end_counts.ex
  refine ⟨fun s us ws _ h1 h2 => ?_, rfl, by decide⟩
  rw [e]
  match us, ws, h1, h2 with | [_], [], _, _ => exact .of_eq rfl
theorem bd_counts_before_2 (T : Tx W w mg) : Bd w.K T.fd_counts_before ["machine", "counts"] [] 2 [] [0, 1] := by
  obtain ⟨_, _, _, _, _, _, _, _, _, e, _, _⟩ := T.F_counts_before.ex
  refine ⟨fun s us ws _ h1 h2 => ?_, rfl, by decide⟩
  rw [e]
  match us, ws, h1, h2 with | [_, _], [], _, _ => exact .of_eq rfl
theorem bd_all_counts_2 (T : Tx W w mg) : Bd w.K T.fd_all_counts ["machine", "length"] [] 2 [] [0, 1] := by
  obtain ⟨_, _, _, _, _, _, _, _, _, e, _, _⟩ := T.F_all_counts.ex
  refine ⟨fun s us ws _ h1 h2 => ?_, rfl, by decide⟩
  rw [e]
  match us, ws, h1, h2 with | [_, _], [], _, _ => exact .of_eq rfl
theorem bd_count_of_2 (T : Tx W w mg) : Bd w.K T.fd_count_of ["machine", "length"] [] 2 [] [0, 1] := by
  obtain ⟨_, _, _, _, _, _, _, _, _, e, _, _⟩ := T.F_count_of.ex
  refine ⟨fun s us ws _ h1 h2 => ?_, rfl, by decide⟩
  rw [e]
  match us, ws, h1, h2 with | [_, _], [], _, _ => exact .of_eq rfl
theorem bd_Machine___init___4 (T : Tx W w mg) : Bd w.K T.fd_Machine___init__ ["self", "letters", "arrows", "ends"] [] 4 [] [0, 1, 2, 3] := by
  obtain ⟨_, _, _, _, _, _, _, _, _, e, _, _⟩ := T.F_Machine___init__.ex
  refine ⟨fun s us ws _ h1 h2 => ?_, rfl, by decide⟩
  rw [e]
  match us, ws, h1, h2 with | [_, _, _, _], [], _, _ => exact .of_eq rfl
theorem bd_made_of_1 (T : Tx W w mg) : Bd w.K T.fd_made_of ["told"] [] 1 [] [0] := by
  obtain ⟨_, _, _, _, _, _, _, _, _, e, _, _⟩ := T.F_made_of.ex
  refine ⟨fun s us ws _ h1 h2 => ?_, rfl, by decide⟩
  rw [e]
  match us, ws, h1, h2 with | [_], [], _, _ => exact .of_eq rfl
theorem bd_shows_count_3 (T : Tx W w mg) : Bd w.K T.fd_shows_count ["told", "numbers", "paper"] [] 3 [] [0, 1, 2] := by
  obtain ⟨_, _, _, _, _, _, _, _, _, e, _, _⟩ := T.F_shows_count.ex
  refine ⟨fun s us ws _ h1 h2 => ?_, rfl, by decide⟩
  rw [e]
  match us, ws, h1, h2 with | [_, _, _], [], _, _ => exact .of_eq rfl
theorem bd_holds_0_paper_claim (T : Tx W w mg) : Bd w.K T.fd_holds ["claim", "paper"] ["paper", "claim"] 0 [] [1, 0] := by
  obtain ⟨_, _, _, _, _, _, _, _, _, e, _, _⟩ := T.F_holds.ex
  refine ⟨fun s us ws _ h1 h2 => ?_, rfl, by decide⟩
  rw [e]
  match us, ws, h1, h2 with | [], [_, _], _, _ => exact .of_eq rfl
theorem bd_holds_2 (T : Tx W w mg) : Bd w.K T.fd_holds ["claim", "paper"] [] 2 [] [0, 1] := by
  obtain ⟨_, _, _, _, _, _, _, _, _, e, _, _⟩ := T.F_holds.ex
  refine ⟨fun s us ws _ h1 h2 => ?_, rfl, by decide⟩
  rw [e]
  match us, ws, h1, h2 with | [_, _], [], _, _ => exact .of_eq rfl
theorem bd__law_right_1 (T : Tx W w mg) : Bd w.K T.fd__law_right ["_law_jug_here"] [] 1 [] [0] := by
  obtain ⟨_, _, _, _, _, _, _, _, _, e, _, _⟩ := T.F__law_right.ex
  refine ⟨fun s us ws _ h1 h2 => ?_, rfl, by decide⟩
  rw [e]
  match us, ws, h1, h2 with | [_], [], _, _ => exact .of_eq rfl
theorem bd__law_jug_2 (T : Tx W w mg) : Bd w.K T.fd__law_jug ["_law_cells", "_law_at"] [] 2 [] [0, 1] := by
  obtain ⟨_, _, _, _, _, _, _, _, _, e, _, _⟩ := T.F__law_jug.ex
  refine ⟨fun s us ws _ h1 h2 => ?_, rfl, by decide⟩
  rw [e]
  match us, ws, h1, h2 with | [_, _], [], _, _ => exact .of_eq rfl
theorem w__law_pour (T : Tx W w mg) : FnM P W w mg base CX0 exF 1 T.a__law_pour T.fd__law_pour ["_law_jug_here", "_law_many"] m__law_pour := by
  refine fnm_of T.hW T.F__law_pour sc__law_pour fun cdv A outer s H E C => ?_
  have nd := sc__law_pour.nd
  exact (mss_cons (ms_if (mt_cmp o_gt (me_ix C (me_var 0) me_int) me_int (nomark _)) (mss_cons (ms_asg (me_blt b_divmod (by rfl) T.z_divmod (by decide +kernel) (ma_cons (me_ix C (me_var 0) me_int) (ma_cons (me_var 1) ma_nil))) (mg_tup C 2 (mgs_cons (mg_sub p_setIx (me_var 0) me_int) (mgs_cons (mg_name 2 nd) mgs_nil)))) (mss_cons (ms_ret (me_var 2)) mss_nil)) mss_nil) (mss_cons (ms_asg (me_op (o_add C) (me_ix C (me_var 0) me_int) me_int) (mg_sub p_setIx (me_var 0) me_int)) (mss_cons (ms_asg (me_op o_mod (me_ty (b_int C) (by rfl) T.z_int (by decide +kernel) (ma_cons (me_op (o_add C) (me_op (o_add C) (me_op (o_mul C) (me_ix C (me_var 0) me_int) me_int) (me_op (o_mul C) (me_ty (b_int C) (by rfl) T.z_int (by decide +kernel) (ma_cons (me_op o_fdiv (me_ix C (me_var 0) me_int) me_int) ma_nil)) me_int)) (me_op (o_mul C) (me_ix C (me_var 0) me_int) me_int)) ma_nil)) me_int) (mg_sub p_setIx (me_var 0) me_int)) (mss_cons (ms_ret (me_op o_mod (me_ty (b_int C) (by rfl) T.z_int (by decide +kernel) (ma_cons (me_op o_fdiv (me_ix C (me_var 0) me_int) me_int) ma_nil)) (me_var 1))) mss_nil))))

theorem w__law_machine (T : Tx W w mg) : FnM P W w mg base CX0 exF 2 T.a__law_machine T.fd__law_machine ["_law_jug_here", "_law_most", "_law_widest"] m__law_machine := by
  refine fnm_of T.hW T.F__law_machine sc__law_machine fun cdv A outer s H E C => ?_
  have nd := sc__law_machine.nd
  exact (mss_cons (ms_asg (me_tup (ma_cons (me_op (o_add C) me_int (me_call (clb_fn C ((w__law_pour T).mono (by decide)) pass0 T.F__law_pour.kp (bd__law_pour_2 T) .nil (fun _ _ _ => .nil) tb_ok) (by rfl) T.g__law_pour (ma_cons (me_var 0) (ma_cons (me_var 1) ma_nil)))) (ma_cons (me_op (o_add C) me_int (me_call (clb_fn C ((w__law_pour T).mono (by decide)) pass0 T.F__law_pour.kp (bd__law_pour_2 T) .nil (fun _ _ _ => .nil) tb_ok) (by rfl) T.g__law_pour (ma_cons (me_var 0) (ma_cons (me_var 2) ma_nil)))) (ma_cons (me_lst ma_nil) ma_nil)))) (mg_tup C 3 (mgs_cons (mg_name 3 nd) (mgs_cons (mg_name 4 nd) (mgs_cons (mg_name 5 nd) mgs_nil))))) (mss_cons (ms_for C (mi_rng1 (by rfl) T.z_range (ma_cons (me_var 3) ma_nil)) (mg_name 6 nd) (mss_cons (ms_expr (me_bm C 1 F.plainAttrs_list F.slot_list_append F.type_list_append o_append (me_var 5) (ma_cons (me_ty (b_tuple C) (by rfl) T.z_tuple (by decide +kernel) (ma_cons (me_lc (EX2 := EXF) (own := [("_law_j", 8)]) (vs := [8]) (g := (Tg.nm 8)) C nd (mi_rng1 (by rfl) T.z_range (ma_cons (me_var 4) ma_nil)) (by kernel_rfl) (fun _ _ _ _ _ => (pg_name nd rfl (by first | exact Or.inl rfl | exact Or.inr rfl))) (fun _ _ _ _ _ C => mts_nil) (fun _ _ _ _ _ C => (me_if (mt_cmp o_gt (me_call (clb_fn C ((w__law_pour T).mono (by decide)) pass0 T.F__law_pour.kp (bd__law_pour_2 T) .nil (fun _ _ _ => .nil) tb_ok) (by rfl) T.g__law_pour (ma_cons (me_var 0) (ma_cons me_int ma_nil))) me_int (nomark _)) (me_call (clb_fn C ((w__law_pour T).mono (by decide)) pass0 T.F__law_pour.kp (bd__law_pour_2 T) .nil (fun _ _ _ => .nil) tb_ok) (by rfl) T.g__law_pour (ma_cons (me_var 0) (ma_cons (me_var 3) ma_nil))) me_non))) ma_nil)) ma_nil))) mss_nil)) (mss_cons (ms_setLc (EX2 := EXF) (own := [("_law_k", 6)]) (vs := [6]) (g := (Tg.nm 6)) C nd 7 rfl rfl (sw_true rfl rfl rfl (by decide +kernel)) (mi_rng1 (by rfl) T.z_range (ma_cons (me_var 3) ma_nil)) (by kernel_rfl) (fun _ _ _ _ _ => (pg_name nd rfl (by first | exact Or.inl rfl | exact Or.inr rfl))) (fun _ _ _ _ _ C => (pts_one (mt_cmp (o_eq C) (me_call (clb_fn C ((w__law_pour T).mono (by decide)) pass0 T.F__law_pour.kp (bd__law_pour_2 T) .nil (fun _ _ _ => .nil) tb_ok) (by rfl) T.g__law_pour (ma_cons (me_var 0) (ma_cons me_int ma_nil))) me_int (nomark _)))) (fun _ _ _ _ _ C => (me_var 6))) (mss_cons (ms_if (PW.pt (mw_and (mt_cmp (o_eq C) (me_var 7) (me_lst ma_nil) (nomark _)) (mw_one (mt_cmp o_gt (me_call (clb_fn C ((w__law_pour T).mono (by decide)) pass0 T.F__law_pour.kp (bd__law_pour_2 T) .nil (fun _ _ _ => .nil) tb_ok) (by rfl) T.g__law_pour (ma_cons (me_var 0) (ma_cons me_int ma_nil))) me_int (nomark _))))) (mss_cons (ms_set 7 nd (me_lst (ma_cons (me_call (clb_fn C ((w__law_pour T).mono (by decide)) pass0 T.F__law_pour.kp (bd__law_pour_2 T) .nil (fun _ _ _ => .nil) tb_ok) (by rfl) T.g__law_pour (ma_cons (me_var 0) (ma_cons (me_var 3) ma_nil))) ma_nil))) mss_nil) mss_nil) (mss_cons (ms_ret (me_tup (ma_cons (me_var 4) (ma_cons (me_ty (b_tuple C) (by rfl) T.z_tuple (by decide +kernel) (ma_cons (me_var 5) ma_nil)) (ma_cons (me_ty (b_tuple C) (by rfl) T.z_tuple (by decide +kernel) (ma_cons (me_var 7) ma_nil)) ma_nil))))) mss_nil)))))

theorem w__law_one_of (T : Tx W w mg) : FnM P W w mg base CX0 exF 2 T.a__law_one_of T.fd__law_one_of ["_law_jug_here", "_law_menu"] m__law_one_of := by
  refine fnm_of T.hW T.F__law_one_of sc__law_one_of fun cdv A outer s H E C => ?_
  have nd := sc__law_one_of.nd
  exact (mss_cons (ms_ret (me_ix C (me_var 1) (me_call (clb_fn C ((w__law_pour T).mono (by decide)) pass0 T.F__law_pour.kp (bd__law_pour_2 T) .nil (fun _ _ _ => .nil) tb_ok) (by rfl) T.g__law_pour (ma_cons (me_var 0) (ma_cons (me_blt (b_len C) (by rfl) T.z_len (by decide +kernel) (ma_cons (me_var 1) ma_nil)) ma_nil))))) mss_nil)

theorem w__law_count (T : Tx W w mg) : FnM P W w mg base CX0 exF 1 T.a__law_count T.fd__law_count ["_law_plan", "_law_size"] m__law_count := by
  refine fnm_of T.hW T.F__law_count sc__law_count fun cdv A outer s H E C => ?_
  have nd := sc__law_count.nd
  exact (mss_cons (ms_set 3 nd (me_lc (EX2 := EXF) (own := [("_law_k", 2)]) (vs := [2]) (g := (Tg.nm 2)) C nd (mi_rng1 (by rfl) T.z_range (ma_cons (me_blt (b_len C) (by rfl) T.z_len (by decide +kernel) (ma_cons (me_ix C (me_var 0) me_int) ma_nil)) ma_nil)) (by kernel_rfl) (fun _ _ _ _ _ => (pg_name nd rfl (by first | exact Or.inl rfl | exact Or.inr rfl))) (fun _ _ _ _ _ C => mts_nil) (fun _ _ _ _ _ C => (me_ty (b_int C) (by rfl) T.z_int (by decide +kernel) (ma_cons (me_cmp (o_eq C) (me_var 2) me_int (nomark _)) ma_nil))))) (mss_cons (ms_for C (mi_rng1 (by rfl) T.z_range (ma_cons (me_var 1) ma_nil)) (mg_name 4 nd) (mss_cons (ms_set 5 nd (me_op (o_mul C) (me_lst (ma_cons me_int ma_nil)) (me_blt (b_len C) (by rfl) T.z_len (by decide +kernel) (ma_cons (me_var 3) ma_nil)))) (mss_cons (ms_for C (mi_rng1 (by rfl) T.z_range (ma_cons (me_blt (b_len C) (by rfl) T.z_len (by decide +kernel) (ma_cons (me_var 3) ma_nil)) ma_nil)) (mg_name 2 nd) (mss_cons (ms_for C (mi_val C (me_ix C (me_ix C (me_var 0) me_int) (me_var 2))) (mg_name 6 nd) (mss_cons (ms_if (mt_cmp (o_isnot T.gvn) (me_var 6) me_non (nomark _)) (mss_cons (ms_asg (me_op (o_add C) (me_ix C (me_var 5) (me_var 6)) (me_ix C (me_var 3) (me_var 2))) (mg_sub p_setIx (me_var 5) (me_var 6))) mss_nil) mss_nil) mss_nil)) mss_nil)) (mss_cons (ms_set 3 nd (me_var 5)) mss_nil)))) (mss_cons (ms_ret (me_blt (b_sum C) (by rfl) T.z_sum (by decide +kernel) (ma_cons (me_lc (EX2 := EXF) (own := [("_law_k", 2)]) (vs := [2]) (g := (Tg.nm 2)) C nd (mi_val C (me_ix C (me_var 0) me_int)) (by kernel_rfl) (fun _ _ _ _ _ => (pg_name nd rfl (by first | exact Or.inl rfl | exact Or.inr rfl))) (fun _ _ _ _ _ C => mts_nil) (fun _ _ _ _ _ C => (me_ix C (me_var 3) (me_var 2)))) ma_nil))) mss_nil)))

theorem w__law_whole (T : Tx W w mg) : FnM P W w mg base CX0 exF 1 T.a__law_whole T.fd__law_whole ["_law_thing"] m__law_whole := by
  refine fnm_of T.hW T.F__law_whole sc__law_whole fun cdv A outer s H E C => ?_
  have nd := sc__law_whole.nd
  exact (mss_cons (ms_ret (me_and (me_isiT C (isi_int T) (me_var 0) (by rfl) T.z_isinstance (by rfl) T.z_int (by decide +kernel)) (me_one (me_not (me_isiT C (isi_bool T) (me_var 0) (by rfl) T.z_isinstance (by rfl) T.z_bool (by decide +kernel)))))) mss_nil)

theorem w_is_between (T : Tx W w mg) : FnM P W w mg base CX0 exF 1 T.a_is_between T.fd_is_between ["value", "low", "high"] m_is_between := by
  refine fnm_of T.hW T.F_is_between sc_is_between fun cdv A outer s H E C => ?_
  have nd := sc_is_between.nd
  exact (mss_cons (ms_ret (me_and (me_isiT C (isi_int T) (me_var 0) (by rfl) T.z_isinstance (by rfl) T.z_int (by decide +kernel)) (me_and (me_not (me_isiT C (isi_bool T) (me_var 0) (by rfl) T.z_isinstance (by rfl) T.z_bool (by decide +kernel))) (me_one (me_ch o_le o_le (me_var 1) (me_var 0) (me_var 2)))))) mss_nil)

theorem w_is_goal (T : Tx W w mg) : FnM P W w mg base CX0 exF 2 T.a_is_goal T.fd_is_goal ["value", "stands"] m_is_goal := by
  refine fnm_of T.hW T.F_is_goal sc_is_goal fun cdv A outer s H E C => ?_
  have nd := sc_is_goal.nd
  exact (mss_cons (ms_ret (me_or (me_cmp (o_is T.gvn) (me_var 0) me_non (nomark _)) (me_one (me_call (clb_fn C ((w_is_between T).mono (by decide)) pass0 T.F_is_between.kp (bd_is_between_3 T) .nil (fun _ _ _ => .nil) tb_ok) (by rfl) T.g_is_between (ma_cons (me_var 0) (ma_cons me_int (ma_cons (me_op o_sub (me_var 1) me_int) ma_nil))))))) mss_nil)

theorem w_wrong_arrows (T : Tx W w mg) : FnM P W w mg base CX0 exF 3 T.a_wrong_arrows T.fd_wrong_arrows ["arrows", "letters"] m_wrong_arrows := by
  refine fnm_of T.hW T.F_wrong_arrows sc_wrong_arrows fun cdv A outer s H E C => ?_
  have nd := sc_wrong_arrows.nd
  exact (mss_cons (ms_for C (mi_enum C (by rfl) T.z_enumerate (ma_cons (me_var 0) ma_nil)) (mg_tup C 2 (mgs_cons (mg_name 2 nd) (mgs_cons (mg_name 3 nd) mgs_nil))) (mss_cons (ms_if (PW.pt (mw_or (mt_not (mt_tru C (me_isiT C (isi_tuple T) (me_var 3) (by rfl) T.z_isinstance (by rfl) T.z_tuple (by decide +kernel)))) (mw_or (mt_cmp (o_ne C) (me_blt (b_len C) (by rfl) T.z_len (by decide +kernel) (ma_cons (me_var 3) ma_nil)) (me_var 1) (nomark _)) (mw_one (mt_not (mt_tru C (me_blt (b_all C) (by rfl) T.z_all (by decide +kernel) (ma_cons (me_lc (EX2 := EXF) (own := [("goal", 4)]) (vs := [4]) (g := (Tg.nm 4)) C nd (mi_val C (me_var 3)) (by kernel_rfl) (fun _ _ _ _ _ => (pg_name nd rfl (by first | exact Or.inl rfl | exact Or.inr rfl))) (fun _ _ _ _ _ C => mts_nil) (fun _ _ _ _ _ C => (me_call (clb_fn C ((w_is_goal T).mono (by decide)) pass0 T.F_is_goal.kp (bd_is_goal_2 T) .nil (fun _ _ _ => .nil) tb_ok) (by rfl) T.g_is_goal (ma_cons (me_var 4) (ma_cons (me_blt (b_len C) (by rfl) T.z_len (by decide +kernel) (ma_cons (me_var 0) ma_nil)) ma_nil))))) ma_nil)))))))) (mss_cons (ms_ret (me_var 2)) mss_nil) mss_nil) mss_nil)) (mss_cons (ms_ret me_non) mss_nil))

theorem w_wrong_end (T : Tx W w mg) : FnM P W w mg base CX0 exF 2 T.a_wrong_end T.fd_wrong_end ["ends", "stands"] m_wrong_end := by
  refine fnm_of T.hW T.F_wrong_end sc_wrong_end fun cdv A outer s H E C => ?_
  have nd := sc_wrong_end.nd
  exact (mss_cons (ms_set 2 nd (me_un o_neg me_int)) (mss_cons (ms_for C (mi_enum C (by rfl) T.z_enumerate (ma_cons (me_var 0) ma_nil)) (mg_tup C 2 (mgs_cons (mg_name 3 nd) (mgs_cons (mg_name 4 nd) mgs_nil))) (mss_cons (ms_if (PW.pt (mw_or (mt_not (mt_tru C (me_call (clb_fn C ((w_is_between T).mono (by decide)) pass0 T.F_is_between.kp (bd_is_between_3 T) .nil (fun _ _ _ => .nil) tb_ok) (by rfl) T.g_is_between (ma_cons (me_var 4) (ma_cons me_int (ma_cons (me_op o_sub (me_var 1) me_int) ma_nil)))))) (mw_one (mt_cmp o_le (me_var 4) (me_var 2) (nomark _))))) (mss_cons (ms_ret (me_var 3)) mss_nil) mss_nil) (mss_cons (ms_set 2 nd (me_var 4)) mss_nil))) (mss_cons (ms_ret me_non) mss_nil)))

theorem w_is_told (T : Tx W w mg) : FnM P W w mg base CX0 exF 4 T.a_is_told T.fd_is_told ["value"] m_is_told := by
  refine fnm_of T.hW T.F_is_told sc_is_told fun cdv A outer s H E C => ?_
  have nd := sc_is_told.nd
  exact (mss_cons (ms_if (PW.pt (mw_or (mt_not (mt_tru C (me_isiT C (isi_tuple T) (me_var 0) (by rfl) T.z_isinstance (by rfl) T.z_tuple (by decide +kernel)))) (mw_or (mt_cmp (o_ne C) (me_blt (b_len C) (by rfl) T.z_len (by decide +kernel) (ma_cons (me_var 0) ma_nil)) me_int (nomark _)) (mw_one (mt_not (mt_tru C (me_call (clb_fn C ((w_is_between T).mono (by decide)) pass0 T.F_is_between.kp (bd_is_between_3 T) .nil (fun _ _ _ => .nil) tb_ok) (by rfl) T.g_is_between (ma_cons (me_ix C (me_var 0) me_int) (ma_cons me_int (ma_cons (me_gint 5 (by rfl) T.g_MOST_LETTERS) ma_nil)))))))))) (mss_cons (ms_ret me_bl) mss_nil) mss_nil) (mss_cons (ms_asg (me_sl C (me_var 0) (mo_some me_int) mo_none) (mg_tup C 2 (mgs_cons (mg_name 1 nd) (mgs_cons (mg_name 2 nd) mgs_nil)))) (mss_cons (ms_if (PW.pt (mw_or (mt_not (mt_tru C (me_isiT C (isi_tuple T) (me_var 1) (by rfl) T.z_isinstance (by rfl) T.z_tuple (by decide +kernel)))) (mw_one (mt_not (mt_ch o_le o_le me_int (me_blt (b_len C) (by rfl) T.z_len (by decide +kernel) (ma_cons (me_var 1) ma_nil)) (me_gint 8 (by rfl) T.g_MOST_STANDS)))))) (mss_cons (ms_ret me_bl) mss_nil) mss_nil) (mss_cons (ms_if (mt_cmp (o_isnot T.gvn) (me_call (clb_fn C ((w_wrong_arrows T).mono (by decide)) pass0 T.F_wrong_arrows.kp (bd_wrong_arrows_2 T) .nil (fun _ _ _ => .nil) tb_ok) (by rfl) T.g_wrong_arrows (ma_cons (me_var 1) (ma_cons (me_ix C (me_var 0) me_int) ma_nil))) me_non (nomark _)) (mss_cons (ms_ret me_bl) mss_nil) mss_nil) (mss_cons (ms_ret (me_and (me_isiT C (isi_tuple T) (me_var 2) (by rfl) T.z_isinstance (by rfl) T.z_tuple (by decide +kernel)) (me_one (me_cmp (o_is T.gvn) (me_call (clb_fn C ((w_wrong_end T).mono (by decide)) pass0 T.F_wrong_end.kp (bd_wrong_end_2 T) .nil (fun _ _ _ => .nil) tb_ok) (by rfl) T.g_wrong_end (ma_cons (me_var 2) (ma_cons (me_blt (b_len C) (by rfl) T.z_len (by decide +kernel) (ma_cons (me_var 1) ma_nil)) ma_nil))) me_non (nomark _))))) mss_nil)))))

theorem w_is_integer (T : Tx W w mg) : FnM P W w mg base CX0 exF 1 T.a_is_integer T.fd_is_integer ["value"] m_is_integer := by
  refine fnm_of T.hW T.F_is_integer sc_is_integer fun cdv A outer s H E C => ?_
  have nd := sc_is_integer.nd
  exact (mss_cons (ms_ret (me_and (me_isiT C (isi_int T) (me_var 0) (by rfl) T.z_isinstance (by rfl) T.z_int (by decide +kernel)) (me_one (me_not (me_isiT C (isi_bool T) (me_var 0) (by rfl) T.z_isinstance (by rfl) T.z_bool (by decide +kernel)))))) mss_nil)

theorem w_is_empty (T : Tx W w mg) : FnM P W w mg base CX0 exF 1 T.a_is_empty T.fd_is_empty ["value"] m_is_empty := by
  refine fnm_of T.hW T.F_is_empty sc_is_empty fun cdv A outer s H E C => ?_
  have nd := sc_is_empty.nd
  exact (mss_cons (ms_ret (me_and (me_isiT C (isi_tuple T) (me_var 0) (by rfl) T.z_isinstance (by rfl) T.z_tuple (by decide +kernel)) (me_one (me_cmp (o_eq C) (me_blt (b_len C) (by rfl) T.z_len (by decide +kernel) (ma_cons (me_var 0) ma_nil)) me_int (nomark _))))) mss_nil)

theorem w_end_counts (T : Tx W w mg) : FnM P W w mg base CX0 exF 1 T.a_end_counts T.fd_end_counts ["machine"] m_end_counts := by
  refine fnm_of T.hW T.F_end_counts sc_end_counts fun cdv A outer s H E C => ?_
  have nd := sc_end_counts.nd
  exact (mss_cons (ms_ret (me_lc (EX2 := EXF) (own := [("stand", 1)]) (vs := [1]) (g := (Tg.nm 1)) C nd (mi_rng1 (by rfl) T.z_range (ma_cons (me_blt (b_len C) (by rfl) T.z_len (by decide +kernel) (ma_cons (me_fld C [97, 114, 114, 111, 119, 115] (by decide +kernel) (fld_arrows T) (me_var 0)) ma_nil)) ma_nil)) (by kernel_rfl) (fun _ _ _ _ _ => (pg_name nd rfl (by first | exact Or.inl rfl | exact Or.inr rfl))) (fun _ _ _ _ _ C => mts_nil) (fun _ _ _ _ _ C => (me_if (mt_cmp (o_in C) (me_var 1) (me_fld C [101, 110, 100, 115] (by decide +kernel) (fld_ends T) (me_var 0)) (by rfl)) me_int me_int)))) mss_nil)

theorem w_counts_before (T : Tx W w mg) : FnM P W w mg base CX0 exF 1 T.a_counts_before T.fd_counts_before ["machine", "counts"] m_counts_before := by
  refine fnm_of T.hW T.F_counts_before sc_counts_before fun cdv A outer s H E C => ?_
  have nd := sc_counts_before.nd
  exact (mss_cons (ms_set 2 nd (me_lst ma_nil)) (mss_cons (ms_for C (mi_val C (me_fld C [97, 114, 114, 111, 119, 115] (by decide +kernel) (fld_arrows T) (me_var 0))) (mg_name 3 nd) (mss_cons (ms_expr (me_bm C 1 F.plainAttrs_list F.slot_list_append F.type_list_append o_append (me_var 2) (ma_cons (me_blt (b_sum C) (by rfl) T.z_sum (by decide +kernel) (ma_cons (me_lc (EX2 := EXF) (own := [("goal", 4)]) (vs := [4]) (g := (Tg.nm 4)) C nd (mi_val C (me_var 3)) (by kernel_rfl) (fun _ _ _ _ _ => (pg_name nd rfl (by first | exact Or.inl rfl | exact Or.inr rfl))) (fun _ _ _ _ _ C => (pts_one (mt_cmp (o_isnot T.gvn) (me_var 4) me_non (nomark _)))) (fun _ _ _ _ _ C => (me_ix C (me_var 1) (me_var 4)))) ma_nil)) ma_nil))) mss_nil)) (mss_cons (ms_ret (me_var 2)) mss_nil)))

theorem w_all_counts (T : Tx W w mg) : FnM P W w mg base CX0 exF 2 T.a_all_counts T.fd_all_counts ["machine", "length"] m_all_counts := by
  refine fnm_of T.hW T.F_all_counts sc_all_counts fun cdv A outer s H E C => ?_
  have nd := sc_all_counts.nd
  exact (mss_cons (ms_set 2 nd (me_lst (ma_cons (me_call (clb_fn C ((w_end_counts T).mono (by decide)) pass0 T.F_end_counts.kp (bd_end_counts_1 T) .nil (fun _ _ _ => .nil) tb_ok) (by rfl) T.g_end_counts (ma_cons (me_var 0) ma_nil)) ma_nil))) (mss_cons (ms_for C (mi_rng1 (by rfl) T.z_range (ma_cons (me_var 1) ma_nil)) (mg_name 3 nd) (mss_cons (ms_expr (me_bm C 1 F.plainAttrs_list F.slot_list_append F.type_list_append o_append (me_var 2) (ma_cons (me_call (clb_fn C ((w_counts_before T).mono (by decide)) pass0 T.F_counts_before.kp (bd_counts_before_2 T) .nil (fun _ _ _ => .nil) tb_ok) (by rfl) T.g_counts_before (ma_cons (me_var 0) (ma_cons (me_ix C (me_var 2) (me_un o_neg me_int)) ma_nil))) ma_nil))) mss_nil)) (mss_cons (ms_ret (me_var 2)) mss_nil)))

theorem w_count_of (T : Tx W w mg) : FnM P W w mg base CX0 exF 3 T.a_count_of T.fd_count_of ["machine", "length"] m_count_of := by
  refine fnm_of T.hW T.F_count_of sc_count_of fun cdv A outer s H E C => ?_
  have nd := sc_count_of.nd
  exact (mss_cons (ms_ret (me_ix C (me_ix C (me_call (clb_fn C ((w_all_counts T).mono (by decide)) pass0 T.F_all_counts.kp (bd_all_counts_2 T) .nil (fun _ _ _ => .nil) tb_ok) (by rfl) T.g_all_counts (ma_cons (me_var 0) (ma_cons (me_var 1) ma_nil))) (me_var 1)) me_int)) mss_nil)

theorem w_Machine___init__ (T : Tx W w mg) : FnM P W w mg base CX0 exF 4 T.a_Machine___init__ T.fd_Machine___init__ ["self", "letters", "arrows", "ends"] m_Machine___init__ := by
  refine fnm_of T.hW T.F_Machine___init__ sc_Machine___init__ fun cdv A outer s H E C => ?_
  have nd := sc_Machine___init__.nd
  exact (mss_cons (ms_if (mt_not (mt_tru C (me_call (clb_fn C ((w_is_between T).mono (by decide)) pass0 T.F_is_between.kp (bd_is_between_3 T) .nil (fun _ _ _ => .nil) tb_ok) (by rfl) T.g_is_between (ma_cons (me_var 1) (ma_cons me_int (ma_cons (me_gint 5 (by rfl) T.g_MOST_LETTERS) ma_nil)))))) mss_never mss_nil) (mss_cons (ms_if (PW.pt (mw_or (mt_not (mt_tru C (me_isiT C (isi_tuple T) (me_var 2) (by rfl) T.z_isinstance (by rfl) T.z_tuple (by decide +kernel)))) (mw_one (mt_not (mt_ch o_le o_le me_int (me_blt (b_len C) (by rfl) T.z_len (by decide +kernel) (ma_cons (me_var 2) ma_nil)) (me_gint 8 (by rfl) T.g_MOST_STANDS)))))) mss_never mss_nil) (mss_cons (ms_set 4 nd (me_call (clb_fn C ((w_wrong_arrows T).mono (by decide)) pass0 T.F_wrong_arrows.kp (bd_wrong_arrows_2 T) .nil (fun _ _ _ => .nil) tb_ok) (by rfl) T.g_wrong_arrows (ma_cons (me_var 2) (ma_cons (me_var 1) ma_nil)))) (mss_cons (ms_if (mt_cmp (o_isnot T.gvn) (me_var 4) me_non (nomark _)) mss_never mss_nil) (mss_cons (ms_if (mt_not (mt_tru C (me_isiT C (isi_tuple T) (me_var 3) (by rfl) T.z_isinstance (by rfl) T.z_tuple (by decide +kernel)))) mss_never mss_nil) (mss_cons (ms_set 4 nd (me_call (clb_fn C ((w_wrong_end T).mono (by decide)) pass0 T.F_wrong_end.kp (bd_wrong_end_2 T) .nil (fun _ _ _ => .nil) tb_ok) (by rfl) T.g_wrong_end (ma_cons (me_var 3) (ma_cons (me_blt (b_len C) (by rfl) T.z_len (by decide +kernel) (ma_cons (me_var 2) ma_nil)) ma_nil)))) (mss_cons (ms_if (mt_cmp (o_isnot T.gvn) (me_var 4) me_non (nomark _)) mss_never mss_nil) (mss_cons (ms_fld C [108, 101, 116, 116, 101, 114, 115] (by decide +kernel) (fld_letters T) (me_var 0) (me_var 1)) (mss_cons (ms_fld C [97, 114, 114, 111, 119, 115] (by decide +kernel) (fld_arrows T) (me_var 0) (me_var 2)) (mss_cons (ms_fld C [101, 110, 100, 115] (by decide +kernel) (fld_ends T) (me_var 0) (me_var 3)) mss_nil))))))))))

theorem w_made_of (T : Tx W w mg) : FnM P W w mg base CX0 exF 6 T.a_made_of T.fd_made_of ["told"] m_made_of := by
  refine fnm_of T.hW T.F_made_of sc_made_of fun cdv A outer s H E C => ?_
  have nd := sc_made_of.nd
  exact (mss_cons (ms_ret (me_call (clb_cls 0 T.n_Machine C T.mk_Machine ((w_Machine___init__ T).mono (by decide)) pass0 (bd_Machine___init___4 T) .nil (fun _ _ _ => .nil) tf_ok) (by rfl) T.g_Machine (ma_cons (me_ix C (me_var 0) me_int) (ma_cons (me_ix C (me_var 0) me_int) (ma_cons (me_ix C (me_var 0) me_int) ma_nil))))) mss_nil)

theorem w_shows_count (T : Tx W w mg) : FnM P W w mg base CX0 exF 7 T.a_shows_count T.fd_shows_count ["told", "numbers", "paper"] m_shows_count := by
  refine fnm_of T.hW T.F_shows_count sc_shows_count fun cdv A outer s H E C => ?_
  have nd := sc_shows_count.nd
  exact (mss_cons (ms_asg (me_var 1) (mg_tup C 2 (mgs_cons (mg_name 3 nd) (mgs_cons (mg_name 4 nd) mgs_nil)))) (mss_cons (ms_if (PW.pt (mw_or (mt_not (mt_tru C (me_call (clb_fn C ((w_is_between T).mono (by decide)) pass0 T.F_is_between.kp (bd_is_between_3 T) .nil (fun _ _ _ => .nil) tb_ok) (by rfl) T.g_is_between (ma_cons (me_var 3) (ma_cons me_int (ma_cons (me_gint 300 (by rfl) T.g_MOST_TEXT) ma_nil)))))) (mw_or (mt_not (mt_tru C (me_call (clb_fn C ((w_is_integer T).mono (by decide)) pass0 T.F_is_integer.kp (bd_is_integer_1 T) .nil (fun _ _ _ => .nil) tb_ok) (by rfl) T.g_is_integer (ma_cons (me_var 4) ma_nil)))) (mw_one (mt_not (mt_tru C (me_call (clb_fn C ((w_is_empty T).mono (by decide)) pass0 T.F_is_empty.kp (bd_is_empty_1 T) .nil (fun _ _ _ => .nil) tb_ok) (by rfl) T.g_is_empty (ma_cons (me_var 2) ma_nil)))))))) (mss_cons (ms_ret me_bl) mss_nil) mss_nil) (mss_cons (ms_ret (me_cmp (o_eq C) (me_call (clb_fn C ((w_count_of T).mono (by decide)) pass0 T.F_count_of.kp (bd_count_of_2 T) .nil (fun _ _ _ => .nil) tb_ok) (by rfl) T.g_count_of (ma_cons (me_call (clb_fn C ((w_made_of T).mono (by decide)) pass0 T.F_made_of.kp (bd_made_of_1 T) .nil (fun _ _ _ => .nil) tb_ok) (by rfl) T.g_made_of (ma_cons (me_var 0) ma_nil)) (ma_cons (me_var 3) ma_nil))) (me_var 4) (nomark _))) mss_nil)))

theorem tabS_ok {k : Nat} (hk : 7 ≤ k) (T : Tx W w mg) : FTab P W w mg base k 3 tabS_ := by
  intro p hp
  unfold tabS_ at hp
  simp only [List.mem_cons, List.not_mem_nil, or_false] at hp
  rcases hp with rfl
  · exact ⟨_, _, _, T.gv_shows_count, T.F_shows_count.kp, (w_shows_count T).mono (by omega), bd_shows_count_3 T⟩

theorem w_holds (T : Tx W w mg) : FnM P W w mg base CX0 exF 8 T.a_holds T.fd_holds ["claim", "paper"] (m_holds tabS_) := by
  refine fnm_of T.hW T.F_holds sc_holds fun cdv A outer s H E C => ?_
  have nd := sc_holds.nd
  exact (mss_cons (ms_if (PW.pt (mw_or (mt_not (mt_tru C (me_isiT C (isi_tuple T) (me_var 0) (by rfl) T.z_isinstance (by rfl) T.z_tuple (by decide +kernel)))) (mw_or (mt_cmp o_lt (me_blt (b_len C) (by rfl) T.z_len (by decide +kernel) (ma_cons (me_var 0) ma_nil)) me_int (nomark _)) (mw_or (mt_not (mt_tru C (me_isiT C (isi_str T) (me_ix C (me_var 0) me_int) (by rfl) T.z_isinstance (by rfl) T.z_str (by decide +kernel)))) (mw_one (mt_cmp (o_knotin C T.kt_SHOWN) (me_ix C (me_var 0) me_int) (me_gl 0 (v := .ref T.d_SHOWN) (by rfl) T.g_SHOWN rfl T.vd_SHOWN) (by rfl))))))) (mss_cons (ms_ret me_bl) mss_nil) mss_nil) (mss_cons (ms_asg (me_kix C T.kt_SHOWN (me_gl 0 (v := .ref T.d_SHOWN) (by rfl) T.g_SHOWN rfl T.vd_SHOWN) (me_ix C (me_var 0) me_int)) (mg_tup C 2 (mgs_cons (mg_name 2 nd) (mgs_cons (mg_name 3 nd) mgs_nil)))) (mss_cons (ms_ret (me_and (me_cmp (o_eq C) (me_blt (b_len C) (by rfl) T.z_len (by decide +kernel) (ma_cons (me_var 0) ma_nil)) (me_var 2) (nomark _)) (me_and (me_call (clb_fn C ((w_is_told T).mono (by decide)) pass0 T.F_is_told.kp (bd_is_told_1 T) .nil (fun _ _ _ => .nil) tb_ok) (by rfl) T.g_is_told (ma_cons (me_ix C (me_var 0) me_int) ma_nil)) (me_one (me_callV C (tabS_ok (by decide) T) 3 (ma_cons (me_ix C (me_var 0) me_int) (ma_cons (me_sl C (me_var 0) (mo_some me_int) mo_none) (ma_cons (me_var 1) ma_nil)))))))) mss_nil)))

theorem w__law_right (T : Tx W w mg) : FnM P W w mg base CX0 exF 9 T.a__law_right T.fd__law_right ["_law_jug_here"] m__law_right := by
  refine fnm_of T.hW T.F__law_right sc__law_right fun cdv A outer s H E C => ?_
  have nd := sc__law_right.nd
  exact (mss_cons (ms_for C (mi_rng1 (by rfl) T.z_range (ma_cons me_int ma_nil)) (mg_name 1 nd) (mss_cons (ms_set 2 nd (me_call (clb_fn C ((w__law_machine T).mono (by decide)) pass0 T.F__law_machine.kp (bd__law_machine_3 T) .nil (fun _ _ _ => .nil) tb_ok) (by rfl) T.g__law_machine (ma_cons (me_var 0) (ma_cons me_int (ma_cons me_int ma_nil))))) (mss_cons (ms_for C (mi_rng1 (by rfl) T.z_range (ma_cons me_int ma_nil)) (mg_name 3 nd) (mss_cons (ms_set 4 nd (me_call (clb_fn C ((w__law_one_of T).mono (by decide)) pass0 T.F__law_one_of.kp (bd__law_one_of_2 T) .nil (fun _ _ _ => .nil) tb_ok) (by rfl) T.g__law_one_of (ma_cons (me_var 0) (ma_cons (me_lst (ma_cons (me_call (clb_fn C ((w__law_pour T).mono (by decide)) pass0 T.F__law_pour.kp (bd__law_pour_2 T) .nil (fun _ _ _ => .nil) tb_ok) (by rfl) T.g__law_pour (ma_cons (me_var 0) (ma_cons me_int ma_nil))) (ma_cons (me_call (clb_fn C ((w__law_pour T).mono (by decide)) pass0 T.F__law_pour.kp (bd__law_pour_2 T) .nil (fun _ _ _ => .nil) tb_ok) (by rfl) T.g__law_pour (ma_cons (me_var 0) (ma_cons me_int ma_nil))) (ma_cons me_int (ma_cons me_int (ma_cons me_int (ma_cons me_int ma_nil))))))) ma_nil)))) (mss_cons (ms_set 5 nd (me_call (clb_fn C ((w__law_count T).mono (by decide)) pass0 T.F__law_count.kp (bd__law_count_2 T) .nil (fun _ _ _ => .nil) tb_ok) (by rfl) T.g__law_count (ma_cons (me_var 2) (ma_cons (me_var 4) ma_nil)))) (mss_cons (ms_if (mt_cmp o_ge (me_var 5) (me_op o_pow me_int me_int) (nomark _)) (mss_cons (ms_par C 4 5 nd me_int (me_call (clb_fn C ((w__law_count T).mono (by decide)) pass0 T.F__law_count.kp (bd__law_count_2 T) .nil (fun _ _ _ => .nil) tb_ok) (by rfl) T.g__law_count (ma_cons (me_var 2) (ma_cons me_int ma_nil)))) mss_nil) mss_nil) (mss_cons (ms_set 6 nd (me_call (clb_fn C ((w__law_one_of T).mono (by decide)) pass0 T.F__law_one_of.kp (bd__law_one_of_2 T) .nil (fun _ _ _ => .nil) tb_ok) (by rfl) T.g__law_one_of (ma_cons (me_var 0) (ma_cons (me_lst (ma_cons (me_var 5) (ma_cons (me_var 5) (ma_cons (me_var 5) (ma_cons (me_op (o_add C) (me_var 5) me_int) (ma_cons (me_op o_sub (me_var 5) me_int) (ma_cons (me_un o_neg (me_var 5)) (ma_cons me_bl (ma_cons me_bl (ma_cons me_non (ma_cons (me_ty b_strI (by rfl) T.z_str (by decide +kernel) (ma_cons (me_var 5) ma_nil)) (ma_cons (me_tup (ma_cons (me_var 5) ma_nil)) ma_nil)))))))))))) ma_nil)))) (mss_cons (ms_set 7 nd (me_call (clb_fn C ((w__law_one_of T).mono (by decide)) pass0 T.F__law_one_of.kp (bd__law_one_of_2 T) .nil (fun _ _ _ => .nil) tb_ok) (by rfl) T.g__law_one_of (ma_cons (me_var 0) (ma_cons (me_op (o_add C) (me_op (o_mul C) (me_lst (ma_cons (me_var 4) ma_nil)) me_int) (me_lst (ma_cons (me_un o_neg me_int) (ma_cons me_int (ma_cons me_bl (ma_cons me_non (ma_cons (me_ty b_strI (by rfl) T.z_str (by decide +kernel) (ma_cons (me_var 4) ma_nil)) (ma_cons (me_tup (ma_cons (me_var 4) ma_nil)) (ma_cons (me_op o_pow me_int me_int) ma_nil))))))))) ma_nil)))) (mss_cons (ms_set 8 nd (me_call (clb_fn C ((w__law_one_of T).mono (by decide)) pass0 T.F__law_one_of.kp (bd__law_one_of_2 T) .nil (fun _ _ _ => .nil) tb_ok) (by rfl) T.g__law_one_of (ma_cons (me_var 0) (ma_cons (me_lst (ma_cons (me_tup ma_nil) (ma_cons (me_tup ma_nil) (ma_cons (me_tup ma_nil) (ma_cons (me_tup ma_nil) (ma_cons (me_tup ma_nil) (ma_cons (me_lst ma_nil) (ma_cons me_non (ma_cons (me_str []) (ma_cons me_int (ma_cons (me_tup (ma_cons (me_tup ma_nil) ma_nil)) (ma_cons me_bl ma_nil)))))))))))) ma_nil)))) (mss_cons (ms_set 9 nd (me_and (me_call (clb_fn C ((w__law_whole T).mono (by decide)) pass0 T.F__law_whole.kp (bd__law_whole_1 T) .nil (fun _ _ _ => .nil) tb_ok) (by rfl) T.g__law_whole (ma_cons (me_var 7) ma_nil)) (me_and (me_ch o_le o_le me_int (me_var 7) me_int) (me_and (me_call (clb_fn C ((w__law_whole T).mono (by decide)) pass0 T.F__law_whole.kp (bd__law_whole_1 T) .nil (fun _ _ _ => .nil) tb_ok) (by rfl) T.g__law_whole (ma_cons (me_var 6) ma_nil)) (me_one (me_cmp (o_eq C) (me_blt (b_reprA C) (by rfl) T.z_repr (by decide +kernel) (ma_cons (me_var 8) ma_nil)) (me_str [40, 41]) (nomark _))))))) (mss_cons (ms_par C 10 11 nd (me_and (me_var 9) (me_one (me_cmp (o_eq C) (me_var 6) (me_call (clb_fn C ((w__law_count T).mono (by decide)) pass0 T.F__law_count.kp (bd__law_count_2 T) .nil (fun _ _ _ => .nil) tb_ok) (by rfl) T.g__law_count (ma_cons (me_var 2) (ma_cons (me_var 7) ma_nil))) (nomark _)))) (me_tup (ma_cons (me_str [99, 111, 117, 110, 116]) (ma_cons (me_var 2) (ma_cons (me_var 7) (ma_cons (me_var 6) ma_nil)))))) (mss_cons (ms_if (mt_cmp (o_ne C) (me_blt (b_repr C) (by rfl) T.z_repr (by decide +kernel) (ma_cons (me_lst (ma_cons (me_call (clb_fn C ((w_holds T).mono (by decide)) pass0 T.F_holds.kp (bd_holds_2 T) .nil (fun _ _ _ => .nil) tb_ok) (by rfl) T.g_holds (ma_cons (me_var 11) (ma_cons (me_var 8) ma_nil))) (ma_cons (me_callK0 (clb_fn C ((w_holds T).mono (by decide)) pass0 T.F_holds.kp (bd_holds_0_paper_claim T) .nil (fun _ _ _ => .nil) tb_ok) (by rfl) T.g_holds (mk_cons (me_var 8) (mk_cons (me_var 11) mk_nil)) 2) ma_nil))) ma_nil)) (me_blt (b_repr C) (by rfl) T.z_repr (by decide +kernel) (ma_cons (me_lst (ma_cons (me_var 10) (ma_cons (me_var 10) ma_nil))) ma_nil)) (nomark _)) (mss_cons (ms_ret me_bl) mss_nil) mss_nil) mss_nil)))))))))) mss_nil))) (mss_cons (ms_ret me_bl) mss_nil))

theorem w__law_jug (T : Tx W w mg) : FnM P W w mg base CX0 exF 1 T.a__law_jug T.fd__law_jug ["_law_cells", "_law_at"] m__law_jug := by
  refine fnm_of T.hW T.F__law_jug sc__law_jug fun cdv A outer s H E C => ?_
  have nd := sc__law_jug.nd
  exact (mss_cons (ms_set 2 nd (me_if (mt_cmp o_lt (me_var 1) (me_blt (b_len C) (by rfl) T.z_len (by decide +kernel) (ma_cons (me_var 0) ma_nil)) (nomark _)) (me_ty (b_int C) (by rfl) T.z_int (by decide +kernel) (ma_cons (me_ix C (me_var 0) (me_var 1)) ma_nil)) (me_op (o_add C) (me_op (o_mul C) me_int (me_var 1)) me_int))) (mss_cons (ms_set 3 nd (me_op (o_add C) me_int (me_op (o_mul C) me_int (me_var 1)))) (mss_cons (ms_for C (mi_val C (me_sl C (me_var 0) mo_none (mo_some me_int))) (mg_name 4 nd) (mss_cons (ms_set 3 nd (me_op o_mod (me_ty (b_int C) (by rfl) T.z_int (by decide +kernel) (ma_cons (me_op (o_add C) (me_op (o_mul C) (me_var 3) me_int) (me_op o_mod (me_ty (b_int C) (by rfl) T.z_int (by decide +kernel) (ma_cons (me_var 4) ma_nil)) me_int)) ma_nil)) me_int)) mss_nil)) (mss_cons (ms_set 5 nd (me_if (PW.pt (mw_or (mt_cmp o_lt (me_var 2) me_int (nomark _)) (mw_one (mt_cmp o_ge (me_var 2) (me_op o_pow me_int me_int) (nomark _))))) (me_blt b_abs (by rfl) T.z_abs (by decide +kernel) (ma_cons (me_var 2) ma_nil)) me_int)) (mss_cons (ms_ret (me_lst (ma_cons (me_var 5) (ma_cons (me_op o_mod (me_ty (b_int C) (by rfl) T.z_int (by decide +kernel) (ma_cons (me_op (o_add C) (me_op (o_mul C) (me_var 3) me_int) (me_op o_mod (me_ty (b_int C) (by rfl) T.z_int (by decide +kernel) (ma_cons (me_var 2) ma_nil)) me_int)) ma_nil)) me_int) (ma_cons me_int ma_nil))))) mss_nil)))))

theorem w_law (T : Tx W w mg) : FnM P W w mg base CX0 exF 10 T.a_law T.fd_law ["_law_cells"] m_law := by
  refine fnm_of T.hW T.F_law sc_law fun cdv A outer s H E C => ?_
  have nd := sc_law.nd
  exact (mss_cons (ms_ret (me_blt (b_all C) (by rfl) T.z_all (by decide +kernel) (ma_cons (me_lc (EX2 := EXF) (own := [("_law_k", 1)]) (vs := [1]) (g := (Tg.nm 1)) C nd (mi_rng1 (by rfl) T.z_range (ma_cons (me_blt (b_max2 C) (by rfl) T.z_max (by decide +kernel) (ma_cons me_int (ma_cons (me_blt (b_min2 C) (by rfl) T.z_min (by decide +kernel) (ma_cons (me_blt (b_len C) (by rfl) T.z_len (by decide +kernel) (ma_cons (me_var 0) ma_nil)) (ma_cons me_int ma_nil))) ma_nil))) ma_nil)) (by kernel_rfl) (fun _ _ _ _ _ => (pg_name nd rfl (by first | exact Or.inl rfl | exact Or.inr rfl))) (fun _ _ _ _ _ C => mts_nil) (fun _ _ _ _ _ C => (me_call (clb_fn C ((w__law_right T).mono (by decide)) pass0 T.F__law_right.kp (bd__law_right_1 T) .nil (fun _ _ _ => .nil) tb_ok) (by rfl) T.g__law_right (ma_cons (me_call (clb_fn C ((w__law_jug T).mono (by decide)) pass0 T.F__law_jug.kp (bd__law_jug_2 T) .nil (fun _ _ _ => .nil) tb_ok) (by rfl) T.g__law_jug (ma_cons (me_var 0) (ma_cons (me_var 1) ma_nil))) ma_nil)))) ma_nil))) mss_nil)

end
theorem all_mk {l : PySem.W.OpenLaw} {W : World} {K : PySem.W.Frag} {h : Heap} {mg : Str → Option Value} {fa : Addr} (KX : K.In h) (G : h.Ns mainGlobals mg) (hfa : mg "law" = some (.ref fa))
    {f0 : Addr} {od0 an0 : Option Addr} {sl0 : Array (Option Value)} {oc0 kV0 dc0 pm0 cd0 ct0 : Value}
    {f1 : Addr} {od1 an1 : Option Addr} {sl1 : Array (Option Value)} {oc1 kV1 dc1 pm1 cd1 ct1 : Value}
    {f2 : Addr} {od2 an2 : Option Addr} {sl2 : Array (Option Value)} {oc2 kV2 dc2 pm2 cd2 ct2 : Value}
    {f3 : Addr} {od3 an3 : Option Addr} {sl3 : Array (Option Value)} {oc3 kV3 dc3 pm3 cd3 ct3 : Value}
    {f4 : Addr} {od4 an4 : Option Addr} {sl4 : Array (Option Value)} {oc4 kV4 dc4 pm4 cd4 ct4 : Value}
    {f5 : Addr} {od5 an5 : Option Addr} {sl5 : Array (Option Value)} {oc5 kV5 dc5 pm5 cd5 ct5 : Value}
    {f6 : Addr} {od6 an6 : Option Addr} {sl6 : Array (Option Value)} {oc6 kV6 dc6 pm6 cd6 ct6 : Value}
    {f7 : Addr} {od7 an7 : Option Addr} {sl7 : Array (Option Value)} {oc7 kV7 dc7 pm7 cd7 ct7 : Value}
    {f8 : Addr} {od8 an8 : Option Addr} {sl8 : Array (Option Value)} {oc8 kV8 dc8 pm8 cd8 ct8 : Value}
    {f9 : Addr} {od9 an9 : Option Addr} {sl9 : Array (Option Value)} {oc9 kV9 dc9 pm9 cd9 ct9 : Value}
    {f10 : Addr} {od10 an10 : Option Addr} {sl10 : Array (Option Value)} {oc10 kV10 dc10 pm10 cd10 ct10 : Value}
    {f11 : Addr} {od11 an11 : Option Addr} {sl11 : Array (Option Value)} {oc11 kV11 dc11 pm11 cd11 ct11 : Value}
    {f12 : Addr} {od12 an12 : Option Addr} {sl12 : Array (Option Value)} {oc12 kV12 dc12 pm12 cd12 ct12 : Value}
    {f13 : Addr} {od13 an13 : Option Addr} {sl13 : Array (Option Value)} {oc13 kV13 dc13 pm13 cd13 ct13 : Value}
    {f14 : Addr} {od14 an14 : Option Addr} {sl14 : Array (Option Value)} {oc14 kV14 dc14 pm14 cd14 ct14 : Value}
    {f15 : Addr} {od15 an15 : Option Addr} {sl15 : Array (Option Value)} {oc15 kV15 dc15 pm15 cd15 ct15 : Value}
    {f16 : Addr} {od16 an16 : Option Addr} {sl16 : Array (Option Value)} {oc16 kV16 dc16 pm16 cd16 ct16 : Value}
    {f17 : Addr} {od17 an17 : Option Addr} {sl17 : Array (Option Value)} {oc17 kV17 dc17 pm17 cd17 ct17 : Value}
    {f18 : Addr} {od18 an18 : Option Addr} {sl18 : Array (Option Value)} {oc18 kV18 dc18 pm18 cd18 ct18 : Value}
    {f19 : Addr} {od19 an19 : Option Addr} {sl19 : Array (Option Value)} {oc19 kV19 dc19 pm19 cd19 ct19 : Value}
    {f20 : Addr} {od20 an20 : Option Addr} {sl20 : Array (Option Value)} {oc20 kV20 dc20 pm20 cd20 ct20 : Value}
    {f21 : Addr} {od21 an21 : Option Addr} {sl21 : Array (Option Value)} {oc21 kV21 dc21 pm21 cd21 ct21 : Value}
    {f22 : Addr} {od22 an22 : Option Addr} {sl22 : Array (Option Value)} {oc22 kV22 dc22 pm22 cd22 ct22 : Value}
    {C0 : Addr}
    {t_MOST_LETTERS : Tok}
    {t_MOST_STANDS : Tok}
    {t_MOST_TEXT : Tok}
    {ffS0 : Addr}
    {ffS1 : Addr}
    {ffS2 : Addr}
    {ffS3 : Addr}
    {ffS4 : Addr}
    {ffS5 : Addr}
    {ffS6 : Addr}
    {d_SHOWN : Addr} {n_SHOWN : Nat} {hS0 hS1 hS2 hS3 hS4 hS5 hS6 hS7 : Int} {uS0 vS0 uS1 vS1 uS2 vS2 uS3 vS3 uS4 vS4 uS5 vS5 uS6 vS6 uS7 vS7 : Tok} {tS0 tS1 tS2 tS3 tS4 tS5 tS6 tS7 : Addr} {nS0 nS1 nS2 nS3 nS4 nS5 nS6 nS7 : Nat} {sS0 sS1 sS2 sS3 sS4 sS5 sS6 sS7 : Array (Option Value)}
    (aC0 : PySem.W.nsIn K mainGlobals "Machine" = some (some (.ref C0)))
    (pg0 : PySem.W.plainGet K C0 Str.empty = true)
    (hd0 : PySem.W.hasDictIn K C0 = true)
    (po0 : PySem.W.plainOver K C0 = true)
    (sa0 : PySem.W.findIn K (.ref C0) "__setattr__" = some (some (.builtin "object.__setattr__")))
    (ha0 : PySem.W.findIn K (.ref C0) "__class__" = some (some (.builtin "object.__class__")))
    (hn0 : PySem.W.specialIn K (.builtin "object.__class__") "__get__" = some (some (.builtin "getset_descriptor.__get__")))
    (ht0 : PySem.W.takesIn K (.builtin "object.__class__") = some true)
    (hm0 : PySem.W.mroIn K C0 (.type "object") = some true)
    (mk0 : PySem.W.makesIn K C0 = true)
    (kc0 : PySem.W.keepIn K (.ref C0) = true)
    (na0_arrows : PySem.W.findIn K (.ref C0) "arrows" = some none)
    (na0_ends : PySem.W.findIn K (.ref C0) "ends" = some none)
    (na0_letters : PySem.W.findIn K (.ref C0) "letters" = some none)
    (ii0_int : PySem.W.subIn K (.ref C0) (.type "int") = some false)
    (ii0_bool : PySem.W.subIn K (.ref C0) (.type "bool") = some false)
    (ii0_tuple : PySem.W.subIn K (.ref C0) (.type "tuple") = some false)
    (ii0_str : PySem.W.subIn K (.ref C0) (.type "str") = some false)
    (a0 : PySem.W.nsIn K mainGlobals "_law_pour" = some (some (.ref f0)))
    (l0 : K.lookup f0 = some ⟨oc0, od0, .func (PySem.W.fnOf "_law_pour" "_law_pour" (defArgs s__law_pour) (defBody s__law_pour) (defScope s__law_pour) .none kV0 dc0 pm0 an0 cd0 ct0), sl0⟩)
    (e0 : PySem.W.codeIn K cd0 "_law_pour" = true)
    (k0 : PySem.W.keepIn K (.ref f0) = true)
    (a1 : PySem.W.nsIn K mainGlobals "_law_machine" = some (some (.ref f1)))
    (l1 : K.lookup f1 = some ⟨oc1, od1, .func (PySem.W.fnOf "_law_machine" "_law_machine" (defArgs s__law_machine) (defBody s__law_machine) (defScope s__law_machine) .none kV1 dc1 pm1 an1 cd1 ct1), sl1⟩)
    (e1 : PySem.W.codeIn K cd1 "_law_machine" = true)
    (k1 : PySem.W.keepIn K (.ref f1) = true)
    (a2 : PySem.W.nsIn K mainGlobals "_law_one_of" = some (some (.ref f2)))
    (l2 : K.lookup f2 = some ⟨oc2, od2, .func (PySem.W.fnOf "_law_one_of" "_law_one_of" (defArgs s__law_one_of) (defBody s__law_one_of) (defScope s__law_one_of) .none kV2 dc2 pm2 an2 cd2 ct2), sl2⟩)
    (e2 : PySem.W.codeIn K cd2 "_law_one_of" = true)
    (k2 : PySem.W.keepIn K (.ref f2) = true)
    (a3 : PySem.W.nsIn K mainGlobals "_law_count" = some (some (.ref f3)))
    (l3 : K.lookup f3 = some ⟨oc3, od3, .func (PySem.W.fnOf "_law_count" "_law_count" (defArgs s__law_count) (defBody s__law_count) (defScope s__law_count) .none kV3 dc3 pm3 an3 cd3 ct3), sl3⟩)
    (e3 : PySem.W.codeIn K cd3 "_law_count" = true)
    (k3 : PySem.W.keepIn K (.ref f3) = true)
    (a4 : PySem.W.nsIn K mainGlobals "_law_whole" = some (some (.ref f4)))
    (l4 : K.lookup f4 = some ⟨oc4, od4, .func (PySem.W.fnOf "_law_whole" "_law_whole" (defArgs s__law_whole) (defBody s__law_whole) (defScope s__law_whole) .none kV4 dc4 pm4 an4 cd4 ct4), sl4⟩)
    (e4 : PySem.W.codeIn K cd4 "_law_whole" = true)
    (k4 : PySem.W.keepIn K (.ref f4) = true)
    (a5 : PySem.W.nsIn K mainGlobals "is_between" = some (some (.ref f5)))
    (l5 : K.lookup f5 = some ⟨oc5, od5, .func (PySem.W.fnOf "is_between" "is_between" (defArgs s_is_between) (defBody s_is_between) (defScope s_is_between) .none kV5 dc5 pm5 an5 cd5 ct5), sl5⟩)
    (e5 : PySem.W.codeIn K cd5 "is_between" = true)
    (k5 : PySem.W.keepIn K (.ref f5) = true)
    (a6 : PySem.W.nsIn K mainGlobals "is_goal" = some (some (.ref f6)))
    (l6 : K.lookup f6 = some ⟨oc6, od6, .func (PySem.W.fnOf "is_goal" "is_goal" (defArgs s_is_goal) (defBody s_is_goal) (defScope s_is_goal) .none kV6 dc6 pm6 an6 cd6 ct6), sl6⟩)
    (e6 : PySem.W.codeIn K cd6 "is_goal" = true)
    (k6 : PySem.W.keepIn K (.ref f6) = true)
    (a7 : PySem.W.nsIn K mainGlobals "wrong_arrows" = some (some (.ref f7)))
    (l7 : K.lookup f7 = some ⟨oc7, od7, .func (PySem.W.fnOf "wrong_arrows" "wrong_arrows" (defArgs s_wrong_arrows) (defBody s_wrong_arrows) (defScope s_wrong_arrows) .none kV7 dc7 pm7 an7 cd7 ct7), sl7⟩)
    (e7 : PySem.W.codeIn K cd7 "wrong_arrows" = true)
    (k7 : PySem.W.keepIn K (.ref f7) = true)
    (a8 : PySem.W.nsIn K mainGlobals "wrong_end" = some (some (.ref f8)))
    (l8 : K.lookup f8 = some ⟨oc8, od8, .func (PySem.W.fnOf "wrong_end" "wrong_end" (defArgs s_wrong_end) (defBody s_wrong_end) (defScope s_wrong_end) .none kV8 dc8 pm8 an8 cd8 ct8), sl8⟩)
    (e8 : PySem.W.codeIn K cd8 "wrong_end" = true)
    (k8 : PySem.W.keepIn K (.ref f8) = true)
    (a9 : PySem.W.nsIn K mainGlobals "is_told" = some (some (.ref f9)))
    (l9 : K.lookup f9 = some ⟨oc9, od9, .func (PySem.W.fnOf "is_told" "is_told" (defArgs s_is_told) (defBody s_is_told) (defScope s_is_told) .none kV9 dc9 pm9 an9 cd9 ct9), sl9⟩)
    (e9 : PySem.W.codeIn K cd9 "is_told" = true)
    (k9 : PySem.W.keepIn K (.ref f9) = true)
    (a10 : PySem.W.nsIn K mainGlobals "is_integer" = some (some (.ref f10)))
    (l10 : K.lookup f10 = some ⟨oc10, od10, .func (PySem.W.fnOf "is_integer" "is_integer" (defArgs s_is_integer) (defBody s_is_integer) (defScope s_is_integer) .none kV10 dc10 pm10 an10 cd10 ct10), sl10⟩)
    (e10 : PySem.W.codeIn K cd10 "is_integer" = true)
    (k10 : PySem.W.keepIn K (.ref f10) = true)
    (a11 : PySem.W.nsIn K mainGlobals "is_empty" = some (some (.ref f11)))
    (l11 : K.lookup f11 = some ⟨oc11, od11, .func (PySem.W.fnOf "is_empty" "is_empty" (defArgs s_is_empty) (defBody s_is_empty) (defScope s_is_empty) .none kV11 dc11 pm11 an11 cd11 ct11), sl11⟩)
    (e11 : PySem.W.codeIn K cd11 "is_empty" = true)
    (k11 : PySem.W.keepIn K (.ref f11) = true)
    (a12 : PySem.W.nsIn K mainGlobals "end_counts" = some (some (.ref f12)))
    (l12 : K.lookup f12 = some ⟨oc12, od12, .func (PySem.W.fnOf "end_counts" "end_counts" (defArgs s_end_counts) (defBody s_end_counts) (defScope s_end_counts) .none kV12 dc12 pm12 an12 cd12 ct12), sl12⟩)
    (e12 : PySem.W.codeIn K cd12 "end_counts" = true)
    (k12 : PySem.W.keepIn K (.ref f12) = true)
    (a13 : PySem.W.nsIn K mainGlobals "counts_before" = some (some (.ref f13)))
    (l13 : K.lookup f13 = some ⟨oc13, od13, .func (PySem.W.fnOf "counts_before" "counts_before" (defArgs s_counts_before) (defBody s_counts_before) (defScope s_counts_before) .none kV13 dc13 pm13 an13 cd13 ct13), sl13⟩)
    (e13 : PySem.W.codeIn K cd13 "counts_before" = true)
    (k13 : PySem.W.keepIn K (.ref f13) = true)
    (a14 : PySem.W.nsIn K mainGlobals "all_counts" = some (some (.ref f14)))
    (l14 : K.lookup f14 = some ⟨oc14, od14, .func (PySem.W.fnOf "all_counts" "all_counts" (defArgs s_all_counts) (defBody s_all_counts) (defScope s_all_counts) .none kV14 dc14 pm14 an14 cd14 ct14), sl14⟩)
    (e14 : PySem.W.codeIn K cd14 "all_counts" = true)
    (k14 : PySem.W.keepIn K (.ref f14) = true)
    (a15 : PySem.W.nsIn K mainGlobals "count_of" = some (some (.ref f15)))
    (l15 : K.lookup f15 = some ⟨oc15, od15, .func (PySem.W.fnOf "count_of" "count_of" (defArgs s_count_of) (defBody s_count_of) (defScope s_count_of) .none kV15 dc15 pm15 an15 cd15 ct15), sl15⟩)
    (e15 : PySem.W.codeIn K cd15 "count_of" = true)
    (k15 : PySem.W.keepIn K (.ref f15) = true)
    (a16 : PySem.W.findIn K (.ref C0) "__init__" = some (some (.ref f16)))
    (i16 : PySem.W.isFn K (.ref f16) = true)
    (l16 : K.lookup f16 = some ⟨oc16, od16, .func (PySem.W.fnOf "__init__" "Machine.__init__" (defArgs s_Machine___init__) (defBody s_Machine___init__) (defScope s_Machine___init__) .none kV16 dc16 pm16 an16 cd16 ct16), sl16⟩)
    (e16 : PySem.W.codeIn K cd16 "Machine.__init__" = true)
    (k16 : PySem.W.keepIn K (.ref f16) = true)
    (a17 : PySem.W.nsIn K mainGlobals "made_of" = some (some (.ref f17)))
    (l17 : K.lookup f17 = some ⟨oc17, od17, .func (PySem.W.fnOf "made_of" "made_of" (defArgs s_made_of) (defBody s_made_of) (defScope s_made_of) .none kV17 dc17 pm17 an17 cd17 ct17), sl17⟩)
    (e17 : PySem.W.codeIn K cd17 "made_of" = true)
    (k17 : PySem.W.keepIn K (.ref f17) = true)
    (a18 : PySem.W.nsIn K mainGlobals "shows_count" = some (some (.ref f18)))
    (l18 : K.lookup f18 = some ⟨oc18, od18, .func (PySem.W.fnOf "shows_count" "shows_count" (defArgs s_shows_count) (defBody s_shows_count) (defScope s_shows_count) .none kV18 dc18 pm18 an18 cd18 ct18), sl18⟩)
    (e18 : PySem.W.codeIn K cd18 "shows_count" = true)
    (k18 : PySem.W.keepIn K (.ref f18) = true)
    (a19 : PySem.W.nsIn K mainGlobals "holds" = some (some (.ref f19)))
    (l19 : K.lookup f19 = some ⟨oc19, od19, .func (PySem.W.fnOf "holds" "holds" (defArgs s_holds) (defBody s_holds) (defScope s_holds) .none kV19 dc19 pm19 an19 cd19 ct19), sl19⟩)
    (e19 : PySem.W.codeIn K cd19 "holds" = true)
    (k19 : PySem.W.keepIn K (.ref f19) = true)
    (a20 : PySem.W.nsIn K mainGlobals "_law_right" = some (some (.ref f20)))
    (l20 : K.lookup f20 = some ⟨oc20, od20, .func (PySem.W.fnOf "_law_right" "_law_right" (defArgs s__law_right) (defBody s__law_right) (defScope s__law_right) .none kV20 dc20 pm20 an20 cd20 ct20), sl20⟩)
    (e20 : PySem.W.codeIn K cd20 "_law_right" = true)
    (k20 : PySem.W.keepIn K (.ref f20) = true)
    (a21 : PySem.W.nsIn K mainGlobals "_law_jug" = some (some (.ref f21)))
    (l21 : K.lookup f21 = some ⟨oc21, od21, .func (PySem.W.fnOf "_law_jug" "_law_jug" (defArgs s__law_jug) (defBody s__law_jug) (defScope s__law_jug) .none kV21 dc21 pm21 an21 cd21 ct21), sl21⟩)
    (e21 : PySem.W.codeIn K cd21 "_law_jug" = true)
    (k21 : PySem.W.keepIn K (.ref f21) = true)
    (a22 : PySem.W.nsIn K mainGlobals "law" = some (some (.ref f22)))
    (l22 : K.lookup f22 = some ⟨oc22, od22, .func (PySem.W.fnOf "law" "law" (defArgs s_law) (defBody s_law) (defScope s_law) .none kV22 dc22 pm22 an22 cd22 ct22), sl22⟩)
    (e22 : PySem.W.codeIn K cd22 "law" = true)
    (k22 : PySem.W.keepIn K (.ref f22) = true)
    (g_MOST_LETTERS : PySem.W.nsIn K mainGlobals "MOST_LETTERS" = some (some (.int 5 t_MOST_LETTERS)))
    (g_MOST_STANDS : PySem.W.nsIn K mainGlobals "MOST_STANDS" = some (some (.int 8 t_MOST_STANDS)))
    (g_MOST_TEXT : PySem.W.nsIn K mainGlobals "MOST_TEXT" = some (some (.int 300 t_MOST_TEXT)))
    (g_SHOWN : PySem.W.nsIn K mainGlobals "SHOWN" = some (some (.ref d_SHOWN)))
    (q_SHOWN : K.lookup d_SHOWN = some ⟨.type "dict", none, .dict #[⟨hS0, .str "agree" uS0, .ref tS0⟩, ⟨hS1, .str "differ" uS1, .ref tS1⟩, ⟨hS2, .str "same" uS2, .ref tS2⟩, ⟨hS3, .str "apart" uS3, .ref tS3⟩, ⟨hS4, .str "lengths" uS4, .ref tS4⟩, ⟨hS5, .str "readable" uS5, .ref tS5⟩, ⟨hS6, .str "clash" uS6, .ref tS6⟩, ⟨hS7, .str "count" uS7, .ref tS7⟩] n_SHOWN, #[]⟩)
    (qS0 : K.lookup tS0 = some ⟨.type "tuple", none, .seq #[.int 4 vS0, .ref ffS0] nS0, sS0⟩)
    (qS1 : K.lookup tS1 = some ⟨.type "tuple", none, .seq #[.int 4 vS1, .ref ffS1] nS1, sS1⟩)
    (qS2 : K.lookup tS2 = some ⟨.type "tuple", none, .seq #[.int 3 vS2, .ref ffS2] nS2, sS2⟩)
    (qS3 : K.lookup tS3 = some ⟨.type "tuple", none, .seq #[.int 3 vS3, .ref ffS3] nS3, sS3⟩)
    (qS4 : K.lookup tS4 = some ⟨.type "tuple", none, .seq #[.int 4 vS4, .ref ffS4] nS4, sS4⟩)
    (qS5 : K.lookup tS5 = some ⟨.type "tuple", none, .seq #[.int 3 vS5, .ref ffS5] nS5, sS5⟩)
    (qS6 : K.lookup tS6 = some ⟨.type "tuple", none, .seq #[.int 3 vS6, .ref ffS6] nS6, sS6⟩)
    (qS7 : K.lookup tS7 = some ⟨.type "tuple", none, .seq #[.int 4 vS7, .ref f18] nS7, sS7⟩)
    (lit_SHOWN : PySem.W.KeysLit W.params (List.map rowE [(hS0, "agree", uS0, .ref tS0), (hS1, "differ", uS1, .ref tS1), (hS2, "same", uS2, .ref tS2), (hS3, "apart", uS3, .ref tS3), (hS4, "lengths", uS4, .ref tS4), (hS5, "readable", uS5, .ref tS5), (hS6, "clash", uS6, .ref tS6), (hS7, "count", uS7, .ref tS7)]))
    (low_SHOWN : (d_SHOWN == sysModules) = false)
    (z_abs : PySem.W.nsIn K mainGlobals "abs" = some none)
    (z_all : PySem.W.nsIn K mainGlobals "all" = some none)
    (z_bool : PySem.W.nsIn K mainGlobals "bool" = some none)
    (z_divmod : PySem.W.nsIn K mainGlobals "divmod" = some none)
    (z_enumerate : PySem.W.nsIn K mainGlobals "enumerate" = some none)
    (z_int : PySem.W.nsIn K mainGlobals "int" = some none)
    (z_isinstance : PySem.W.nsIn K mainGlobals "isinstance" = some none)
    (z_len : PySem.W.nsIn K mainGlobals "len" = some none)
    (z_max : PySem.W.nsIn K mainGlobals "max" = some none)
    (z_min : PySem.W.nsIn K mainGlobals "min" = some none)
    (z_range : PySem.W.nsIn K mainGlobals "range" = some none)
    (z_repr : PySem.W.nsIn K mainGlobals "repr" = some none)
    (z_str : PySem.W.nsIn K mainGlobals "str" = some none)
    (z_sum : PySem.W.nsIn K mainGlobals "sum" = some none)
    (z_tuple : PySem.W.nsIn K mainGlobals "tuple" = some none)
    : ∃ fd : FuncData, (∀ (s : Shared) (v : Value), BindsTo s fd ⟨[v], []⟩ [("_law_cells", v)]) ∧ ∀ base : Heap, K.In base → base.Ns mainGlobals mg → ∃ w : Wo, w.K = K ∧ FnM l.prog W w mg base CX0 exF 10 fa fd ["_law_cells"] m_law := by
  cases hfa.symm.trans (PySem.W.mg_of KX G a22)
  let T : Tx W ⟨K, fun c => if c = 0 then some C0 else none, gvOf [(0, d_SHOWN), (1, ffS0), (2, ffS1), (3, ffS2), (4, ffS3), (5, ffS4), (6, ffS5), (7, ffS6), (8, f18)], W⟩ mg := {
    hW := rfl
    gvn := gvn_of (l := [(0, d_SHOWN), (1, ffS0), (2, ffS1), (3, ffS2), (4, ffS3), (5, ffS4), (6, ffS5), (7, ffS6), (8, f18)])
    d_SHOWN := d_SHOWN
    g_SHOWN := PySem.W.mg_of KX G g_SHOWN
    vd_SHOWN := rfl
    kt_SHOWN := ktab_of (n := n_SHOWN) (rs := [(hS0, "agree", uS0, .ref tS0), (hS1, "differ", uS1, .ref tS1), (hS2, "same", uS2, .ref tS2), (hS3, "apart", uS3, .ref tS3), (hS4, "lengths", uS4, .ref tS4), (hS5, "readable", uS5, .ref tS5), (hS6, "clash", uS6, .ref tS6), (hS7, "count", uS7, .ref tS7)]) rfl q_SHOWN lit_SHOWN low_SHOWN (.cons (by decide +kernel) (v := .ref tS0) rfl (fun _ _ _ => gtup qS0 (by exact (by decide : 2 ≤ 1000)) (vs := [.int 4, .ref ffS0]) (.cons ⟨vS0, rfl⟩ (.cons rfl .nil)) (.cons (.int _) (.cons (.gl rfl) .nil))) (.cons (by decide +kernel) (v := .ref tS1) rfl (fun _ _ _ => gtup qS1 (by exact (by decide : 2 ≤ 1000)) (vs := [.int 4, .ref ffS1]) (.cons ⟨vS1, rfl⟩ (.cons rfl .nil)) (.cons (.int _) (.cons (.gl rfl) .nil))) (.cons (by decide +kernel) (v := .ref tS2) rfl (fun _ _ _ => gtup qS2 (by exact (by decide : 2 ≤ 1000)) (vs := [.int 3, .ref ffS2]) (.cons ⟨vS2, rfl⟩ (.cons rfl .nil)) (.cons (.int _) (.cons (.gl rfl) .nil))) (.cons (by decide +kernel) (v := .ref tS3) rfl (fun _ _ _ => gtup qS3 (by exact (by decide : 2 ≤ 1000)) (vs := [.int 3, .ref ffS3]) (.cons ⟨vS3, rfl⟩ (.cons rfl .nil)) (.cons (.int _) (.cons (.gl rfl) .nil))) (.cons (by decide +kernel) (v := .ref tS4) rfl (fun _ _ _ => gtup qS4 (by exact (by decide : 2 ≤ 1000)) (vs := [.int 4, .ref ffS4]) (.cons ⟨vS4, rfl⟩ (.cons rfl .nil)) (.cons (.int _) (.cons (.gl rfl) .nil))) (.cons (by decide +kernel) (v := .ref tS5) rfl (fun _ _ _ => gtup qS5 (by exact (by decide : 2 ≤ 1000)) (vs := [.int 3, .ref ffS5]) (.cons ⟨vS5, rfl⟩ (.cons rfl .nil)) (.cons (.int _) (.cons (.gl rfl) .nil))) (.cons (by decide +kernel) (v := .ref tS6) rfl (fun _ _ _ => gtup qS6 (by exact (by decide : 2 ≤ 1000)) (vs := [.int 3, .ref ffS6]) (.cons ⟨vS6, rfl⟩ (.cons rfl .nil)) (.cons (.int _) (.cons (.gl rfl) .nil))) (.cons (by decide +kernel) (v := .ref tS7) rfl (fun _ _ _ => gtup qS7 (by exact (by decide : 2 ≤ 1000)) (vs := [.int 4, .ref f18]) (.cons ⟨vS7, rfl⟩ (.cons rfl .nil)) (.cons (.int _) (.cons (.gl rfl) .nil))) (.nil)))))))))
    gv_shows_count := rfl
    nn_Desk := rfl
    nn_Console := rfl
    nn_Kept := rfl
    nn_Trial := rfl
    nn_Run := rfl
    nn_Paths := rfl
    nn_Readings := rfl
    nn_InputError := rfl
    nn_StateError := rfl
    nn_SizeError := rfl
    nn_NotAMachine := rfl
    nn_NotADesk := rfl
    nn_InvalidText := rfl
    nn_InvalidCount := rfl
    nn_InvalidLetter := rfl
    nn_InvalidStand := rfl
    nn_InvalidWord := rfl
    nn_InvalidLine := rfl
    nn_InvalidArrows := rfl
    nn_InvalidEnds := rfl
    nn_InvalidBook := rfl
    nn_InvalidTexts := rfl
    nn_InvalidDeeds := rfl
    nn_NothingToUndo := rfl
    nn_Busy := rfl
    nn_TooMany := rfl
    a__law_pour := f0
    fd__law_pour := _
    F__law_pour := fun_mk (st := s__law_pour) l0 e0 k0
    g__law_pour := PySem.W.mg_of KX G a0
    a__law_machine := f1
    fd__law_machine := _
    F__law_machine := fun_mk (st := s__law_machine) l1 e1 k1
    g__law_machine := PySem.W.mg_of KX G a1
    a__law_one_of := f2
    fd__law_one_of := _
    F__law_one_of := fun_mk (st := s__law_one_of) l2 e2 k2
    g__law_one_of := PySem.W.mg_of KX G a2
    a__law_count := f3
    fd__law_count := _
    F__law_count := fun_mk (st := s__law_count) l3 e3 k3
    g__law_count := PySem.W.mg_of KX G a3
    a__law_whole := f4
    fd__law_whole := _
    F__law_whole := fun_mk (st := s__law_whole) l4 e4 k4
    g__law_whole := PySem.W.mg_of KX G a4
    a_is_between := f5
    fd_is_between := _
    F_is_between := fun_mk (st := s_is_between) l5 e5 k5
    g_is_between := PySem.W.mg_of KX G a5
    a_is_goal := f6
    fd_is_goal := _
    F_is_goal := fun_mk (st := s_is_goal) l6 e6 k6
    g_is_goal := PySem.W.mg_of KX G a6
    a_wrong_arrows := f7
    fd_wrong_arrows := _
    F_wrong_arrows := fun_mk (st := s_wrong_arrows) l7 e7 k7
    g_wrong_arrows := PySem.W.mg_of KX G a7
    a_wrong_end := f8
    fd_wrong_end := _
    F_wrong_end := fun_mk (st := s_wrong_end) l8 e8 k8
    g_wrong_end := PySem.W.mg_of KX G a8
    a_is_told := f9
    fd_is_told := _
    F_is_told := fun_mk (st := s_is_told) l9 e9 k9
    g_is_told := PySem.W.mg_of KX G a9
    a_is_integer := f10
    fd_is_integer := _
    F_is_integer := fun_mk (st := s_is_integer) l10 e10 k10
    g_is_integer := PySem.W.mg_of KX G a10
    a_is_empty := f11
    fd_is_empty := _
    F_is_empty := fun_mk (st := s_is_empty) l11 e11 k11
    g_is_empty := PySem.W.mg_of KX G a11
    a_end_counts := f12
    fd_end_counts := _
    F_end_counts := fun_mk (st := s_end_counts) l12 e12 k12
    g_end_counts := PySem.W.mg_of KX G a12
    a_counts_before := f13
    fd_counts_before := _
    F_counts_before := fun_mk (st := s_counts_before) l13 e13 k13
    g_counts_before := PySem.W.mg_of KX G a13
    a_all_counts := f14
    fd_all_counts := _
    F_all_counts := fun_mk (st := s_all_counts) l14 e14 k14
    g_all_counts := PySem.W.mg_of KX G a14
    a_count_of := f15
    fd_count_of := _
    F_count_of := fun_mk (st := s_count_of) l15 e15 k15
    g_count_of := PySem.W.mg_of KX G a15
    a_Machine___init__ := f16
    fd_Machine___init__ := _
    F_Machine___init__ := fun_mk (st := s_Machine___init__) l16 e16 k16
    a_made_of := f17
    fd_made_of := _
    F_made_of := fun_mk (st := s_made_of) l17 e17 k17
    g_made_of := PySem.W.mg_of KX G a17
    a_shows_count := f18
    fd_shows_count := _
    F_shows_count := fun_mk (st := s_shows_count) l18 e18 k18
    g_shows_count := PySem.W.mg_of KX G a18
    a_holds := f19
    fd_holds := _
    F_holds := fun_mk (st := s_holds) l19 e19 k19
    g_holds := PySem.W.mg_of KX G a19
    a__law_right := f20
    fd__law_right := _
    F__law_right := fun_mk (st := s__law_right) l20 e20 k20
    g__law_right := PySem.W.mg_of KX G a20
    a__law_jug := f21
    fd__law_jug := _
    F__law_jug := fun_mk (st := s__law_jug) l21 e21 k21
    g__law_jug := PySem.W.mg_of KX G a21
    a_law := fa
    fd_law := _
    F_law := fun_mk (st := s_law) l22 e22 k22
    g_law := PySem.W.mg_of KX G a22
    t_MOST_LETTERS := t_MOST_LETTERS
    g_MOST_LETTERS := PySem.W.mg_of KX G g_MOST_LETTERS
    t_MOST_STANDS := t_MOST_STANDS
    g_MOST_STANDS := PySem.W.mg_of KX G g_MOST_STANDS
    t_MOST_TEXT := t_MOST_TEXT
    g_MOST_TEXT := PySem.W.mg_of KX G g_MOST_TEXT
    c_Machine := C0
    g_Machine := PySem.W.mg_of KX G aC0
    n_Machine := rfl
    cl_Machine := ⟨pg0, hd0, po0, sa0⟩
    ci_Machine := ⟨⟨pg0, hd0, po0, sa0⟩, ha0, hn0, ht0, hm0⟩
    mk_Machine := ⟨mk0, a16, i16, kc0⟩
    na_Machine_arrows := na0_arrows
    na_Machine_ends := na0_ends
    na_Machine_letters := na0_letters
    i_Machine_int := kit_ct (by decide +kernel) ii0_int
    i_Machine_bool := kit_ct (by decide +kernel) ii0_bool
    i_Machine_tuple := kit_ct (by decide +kernel) ii0_tuple
    i_Machine_str := kit_ct (by decide +kernel) ii0_str
    z_abs := PySem.W.mg_none_of KX G z_abs
    z_all := PySem.W.mg_none_of KX G z_all
    z_bool := PySem.W.mg_none_of KX G z_bool
    z_divmod := PySem.W.mg_none_of KX G z_divmod
    z_enumerate := PySem.W.mg_none_of KX G z_enumerate
    z_int := PySem.W.mg_none_of KX G z_int
    z_isinstance := PySem.W.mg_none_of KX G z_isinstance
    z_len := PySem.W.mg_none_of KX G z_len
    z_max := PySem.W.mg_none_of KX G z_max
    z_min := PySem.W.mg_none_of KX G z_min
    z_range := PySem.W.mg_none_of KX G z_range
    z_repr := PySem.W.mg_none_of KX G z_repr
    z_str := PySem.W.mg_none_of KX G z_str
    z_sum := PySem.W.mg_none_of KX G z_sum
    z_tuple := PySem.W.mg_none_of KX G z_tuple
  }
  exact ⟨T.fd_law, fun s v => .of_eq rfl, fun base _ _ => ⟨_, rfl, w_law T⟩⟩
end K48

end
section
set_option maxRecDepth 100000
set_option maxHeartbeats 4000000
namespace MC
open PySem L2

theorem nd {α : Sort _} {a b : α} (e : a = b) : a = b := e
/-- so that simp leaves Q alone -/
inductive Dm {α : Type} (Q : α → PH → Prop) : Type where
  | mk
/-- it ends well, and with Q -/
def Ws {α : Type} (r : R α) (Q : α → PH → Prop) (_ : Dm Q := .mk) : Prop := ∃ a h, r = .ok a h ∧ Q a h
/-- one of two, both left alone by simp -/
@[reducible] def RS {β : Type} (_ _ : R β) : Type := R β
def sel {β : Type} (c : Bool) (a b : R β) : RS a b := bif c then a else b
@[simp] theorem sel_true {β : Type} {a b : R β} : sel true a b = a := nd rfl
@[simp] theorem sel_false {β : Type} {a b : R β} : sel false a b = b := nd rfl
theorem Ws.bind {α β : Type} {r : R α} {f : α → PH → R β} {P : α → PH → Prop} {Q : β → PH → Prop} (w : Ws r P) (i : ∀ a h, P a h → Ws (f a h) Q) : Ws (r.bind f) Q := by
  obtain ⟨a, h, e, p⟩ := w
  rw [e]
  exact i a h p
theorem Ws.mono {α : Type} {r : R α} {P Q : α → PH → Prop} (w : Ws r P) (i : ∀ a h, P a h → Q a h) : Ws r Q := by
  obtain ⟨a, h, e, p⟩ := w
  exact ⟨a, h, e, i a h p⟩
@[simp] theorem Ws_ok {α : Type} {a : α} {h : PH} {Q : α → PH → Prop} : Ws (.ok a h) Q ↔ Q a h :=
  ⟨fun ⟨_, _, e, q⟩ => by cases e; exact q, fun q => ⟨a, h, rfl, q⟩⟩
@[simp] theorem Ws_stuck {α : Type} {Q : α → PH → Prop} : Ws (.stuck : R α) Q ↔ False := ⟨fun ⟨_, _, e, _⟩ => (by cases e), False.elim⟩
theorem Ws.eq {α : Type} {r : R α} {a : α} {h : PH} {Q : α → PH → Prop} (e : r = .ok a h) (q : Q a h) : Ws r Q := ⟨a, h, e, q⟩

section
variable {α β : Type} {env : En} {h : PH} {x : PV} {xs : List PV}
@[simp] theorem bind_ok {a : α} {f : α → PH → R β} : (R.ok a h).bind f = f a h := nd rfl
@[simp] theorem bind_st {f : α → PH → R β} : (R.stuck : R α).bind f = .stuck := nd rfl
@[simp] theorem noX_ok {a : α} : noX (R.ok a h) = .ok a h := nd rfl
@[simp] theorem e_nil : mNil env h = .ok (.nx env) h := nd rfl
@[simp] theorem e_seq {a b : MS} : mSeq a b env h = (a env h).bind fun f h1 => match f with
  | .nx e => b e h1
  | .rt v => .ok (.rt v) h1
  | .bk e => .ok (.bk e) h1
  | .ct e => .ok (.ct e) h1 := nd rfl
@[simp] theorem e_set {i : Nat} {m : ME} : mSet i m env h = (m env h).bind fun x h1 => .ok (.nx (env.set i (some x))) h1 := nd rfl
@[simp] theorem e_drop {m : ME} : mDrop m env h = (m env h).bind fun _ h1 => .ok (.nx env) h1 := nd rfl
@[simp] theorem e_ret {m : ME} : mRet m env h = (m env h).bind fun x h1 => .ok (.rt x) h1 := nd rfl
@[simp] theorem e_retN : mRetN env h = .ok (.rt .non) h := nd rfl
@[simp] theorem e_ifS {t : MT} {a b : MS} : mIfS t a b env h = (t env h).bind fun c h1 => sel c (a env h1) (b env h1) := nd rfl
@[simp] theorem e_break : mBreak env h = .ok (.bk env) h := nd rfl
@[simp] theorem e_cont : mCont env h = .ok (.ct env) h := nd rfl
@[simp] theorem e_asg {m : ME} {g : MG} : mAsg m g env h = (m env h).bind fun x h1 => (g x env h1).bind fun e h2 => .ok (.nx e) h2 := nd rfl
@[simp] theorem e_gname {i : Nat} : gName' i x env h = .ok (env.set i (some x)) h := nd rfl
@[simp] theorem e_gsnil : gsNil [] env h = .ok env h := nd rfl
@[simp] theorem e_gscons {g : MG} {gs : MGs} : gsCons g gs (x :: xs) env h = (g x env h).bind fun e h1 => gs xs e h1 := nd rfl
@[simp] theorem e_gtup {n : Nat} {gs : MGs} : gTup' n gs (.tup xs) env h = sel (xs.length == n) (gs xs env h) .stuck := nd rfl
@[simp] theorem e_par {i j : Nat} {ma mb : ME} : mPar i j ma mb env h = (ma env h).bind fun x h1 => (mb env h1).bind fun y h2 => .ok (.nx ((env.set i (some x)).set j (some y))) h2 := nd rfl
@[simp] theorem e_par3 {i j l : Nat} {ma mb mc : ME} : mPar3 i j l ma mb mc env h = (ma env h).bind fun x h1 => (mb env h1).bind fun y h2 => (mc env h2).bind fun z h3 => .ok (.nx (((env.set i (some x)).set j (some y)).set l (some z))) h3 := nd rfl
@[simp] theorem e_fun {n : Nat} {b : MS} : mFun n b xs h = (b (xs.map some ++ List.replicate (n - xs.length) none) h).bind fun f h1 => match f with
  | .nx _ => .ok .non h1
  | .rt v => .ok v h1
  | _ => .stuck := nd rfl
@[simp] theorem e_var {i : Nat} : mVar i env h = match env[i]? with
  | some (some x) => .ok x h
  | _ => .stuck := nd rfl
@[simp] theorem e_c : mC x env h = .ok x h := nd rfl
@[simp] theorem e_manil : maNil env h = .ok [] h := nd rfl
@[simp] theorem e_macons {m : ME} {ms : MA} : maCons m ms env h = (m env h).bind fun x h1 => (ms env h1).bind fun xs h2 => .ok (x :: xs) h2 := nd rfl
@[simp] theorem e_tup {ms : MA} : mTup ms env h = (ms env h).bind fun xs h1 => if xs.length ≤ LIM then .ok (.tup xs) h1 else .stuck := nd rfl
@[simp] theorem e_lst {ms : MA} : mLst ms env h = (ms env h).bind fun xs h1 => if xs.length ≤ LIM then .ok (.ref h1.length) (h1 ++ [.lst xs]) else .stuck := nd rfl
@[simp] theorem e_op {op : O2} {ma mb : ME} : mOp op ma mb env h = (ma env h).bind fun x h1 => (mb env h1).bind fun y h2 => op h2 x y := nd rfl
@[simp] theorem e_un {op : O1} {ma : ME} : mUn op ma env h = (ma env h).bind fun x h1 => op h1 x := nd rfl
@[simp] theorem e_tb {m : ME} : mTB m env h = asB (m env h) := nd rfl
@[simp] theorem e_asb {r : R PV} : asB r = r.bind fun x h => match x with
  | .bl b => .ok b h
  | _ => .stuck := nd rfl
@[simp] theorem e_tru {m : ME} : mTru m env h = (m env h).bind fun x h1 => match truth h1 x with
  | some b => .ok b h1
  | none => .stuck := nd rfl
@[simp] theorem e_and {a b : MT} : mAnd a b env h = (a env h).bind fun c h1 => sel c (b env h1) (.ok false h1) := nd rfl
@[simp] theorem e_or {a b : MT} : mOr a b env h = (a env h).bind fun c h1 => sel c (.ok true h1) (b env h1) := nd rfl
@[simp] theorem e_not {a : MT} : mNot a env h = (a env h).bind fun c h1 => .ok (!c) h1 := nd rfl
@[simp] theorem e_if {t : MT} {a b : ME} : mIf t a b env h = (t env h).bind fun c h1 => sel c (a env h1) (b env h1) := nd rfl
@[simp] theorem e_andV {a b : ME} : mAndV a b env h = (a env h).bind fun x h1 => match x with
  | .bl c => sel c (b env h1) (.ok (.bl false) h1)
  | _ => .stuck := nd rfl
@[simp] theorem e_orV {a b : ME} : mOrV a b env h = (a env h).bind fun x h1 => match x with
  | .bl c => sel c (.ok (.bl true) h1) (b env h1)
  | _ => .stuck := nd rfl
@[simp] theorem e_notV {a : ME} : mNotV a env h = (a env h).bind fun x h1 => match x with
  | .bl c => .ok (.bl (!c)) h1
  | _ => .stuck := nd rfl
@[simp] theorem e_ch {f g : O2} {ma mb mc : ME} : mCh f g ma mb mc env h = (ma env h).bind fun x h1 => (mb env h1).bind fun y h2 => (f h2 x y).bind fun z h3 => match z with
  | .bl true => (mc env h3).bind fun u h4 => g h4 y u
  | .bl false => .ok (.bl false) h3
  | _ => .stuck := nd rfl
@[simp] theorem e_cl0 {op : OC} {n : Nat} {ma : MA} : mCl0 op n ma env h = (ma env h).bind fun xs h1 => sel (xs.length == n) (op h1 xs) .stuck := nd rfl
@[simp] theorem e_cl {op : OC} {n j : Nat} {ma mk : MA} : mCl op n j ma mk env h = (ma env h).bind fun xs h1 => (mk env h1).bind fun ys h2 => sel (xs.length == n && ys.length == j) (op h2 (xs ++ ys)) .stuck := nd rfl
@[simp] theorem e_bt {op : OC} {ma : MA} : mBt op ma env h = (ma env h).bind fun xs h1 => op h1 xs := nd rfl
@[simp] theorem e_bm {ty : Nat} {op : OC} {mo : ME} {ma : MA} : mBM ty op mo ma env h = (mo env h).bind fun x h1 => sel (isTy h1 ty x) ((ma env h1).bind fun xs h2 => op h2 (x :: xs)) .stuck := nd rfl
@[simp] theorem e_opF {m : MF} {ix : List Nat} {dp : List PV} : opF m ix dp h xs = callG takeBack m (gI ix (xs ++ dp)) h := nd rfl
@[simp] theorem e_opC {c : Nat} {m : MF} {ix : List Nat} {dp : List PV} : opC c m ix dp h xs = callG takeFrz (initM c m ix dp) xs h := nd rfl
@[simp] theorem e_sl {m : ME} {l u : MO} : mSl m l u env h = (m env h).bind fun x h1 => (l env h1).bind fun lo h2 => (u env h2).bind fun hi h3 => opSl h3 x lo hi := nd rfl
@[simp] theorem e_monone : moNone env h = .ok none h := nd rfl
@[simp] theorem e_mosome {m : ME} : moSome m env h = (m env h).bind fun x h1 => match x with
  | .int i => .ok (some i) h1
  | _ => .stuck := nd rfl
@[simp] theorem e_for {mi : MI} {g : MG} {b : MS} : mFor mi g b env h = (mi env h).bind fun p h1 => forL g b p.2 p.1 env h1 := nd rfl
@[simp] theorem e_miV {m : ME} : miV m env h = (m env h).bind fun x h1 => match srcV h1 x with
  | some p => .ok p h1
  | none => srcD h1 x := nd rfl
@[simp] theorem e_rng1 {ma : MA} : miRng1 ma env h = (ma env h).bind fun xs h1 => match xs with
  | [.int j] => bif inR j then .ok (seqI 0 j.toNat, []) h1 else .stuck
  | _ => .stuck := nd rfl
@[simp] theorem e_enum {ma : MA} : miEnum ma env h = (ma env h).bind fun xs h1 => match xs with
  | [x] => match seqP h1 x with
    | some ys => .ok (numbered 0 ys, wtOf ys x) h1
    | none => .stuck
  | _ => .stuck := nd rfl
@[simp] theorem e_zip {ma : MA} : miZip ma env h = (ma env h).bind fun xs h1 => match xs with
  | [x, y] => match x, y with
    | .tup xs, .tup ys => .ok (pairs xs ys, []) h1
    | x, y => match lstP h1 x, lstP h1 y with
      | some xs, some ys => .ok (pairs xs ys, wtOf xs x ++ wtOf ys y) h1
      | _, _ => .stuck
  | _ => .stuck := nd rfl
@[simp] theorem e_lc {mi : MI} {g : Tg} {t : MT} {m : ME} {vs : List Nat} : mLc mi g t m vs env h = (mi env h).bind fun p h1 => lcL g t m p.2 (wipeE env vs) p.1 [] h1 := nd rfl
@[simp] theorem e_yes : mYes env h = .ok true h := nd rfl
@[simp] theorem e_gsub {op : O3} {mo mi : ME} : gSubM op mo mi x env h = (mo env h).bind fun o h1 => (mi env h1).bind fun i h2 => (op h2 o i x).bind fun _ h3 => .ok env h3 := nd rfl
@[simp] theorem e_setF {cs : List Nat} {f : Nm} {mo me : ME} : mSetF cs f mo me env h = (me env h).bind fun v h1 => (mo env h1).bind fun o h2 => match o with
  | .ref n => match h2[n]? with
    | some (.ins c fs) => bif cs.contains c && decide (fs.length < 1000) then .ok (.nx env) (h2.set n (.ins c (putP f v fs))) else .stuck
    | _ => .stuck
  | _ => .stuck := nd rfl
@[simp] theorem e_fld {cs : List Nat} {f : Nm} {m : ME} : mFld cs f m env h = (m env h).bind fun x h1 => match fldsOf h1 x with
  | some (c, fs) => bif cs.contains c then (match lookF f fs with
    | some v => .ok v h1
    | none => .stuck) else .stuck
  | none => .stuck := nd rfl
@[simp] theorem e_isi {tb cs : List (Nat × Bool)} {m : ME} : mIsi tb cs m env h = (m env h).bind fun x h1 => match kindP h1 x with
  | some k => match isiT tb cs k with
    | some b => .ok (.bl b) h1
    | none => .stuck
  | none => .stuck := nd rfl
@[simp] theorem e_rev {m : ME} : mRev m env h = (m env h).bind fun x h1 => match x with
  | .str s => bif decide (s.length ≤ LIM) then .ok (.str s.reverse) h1 else .stuck
  | x => match lstP h1 x with
    | some ys => .ok (.ref h1.length) (h1 ++ [.lst ys.reverse])
    | none => .stuck := nd rfl
@[simp] theorem e_aug {i : Nat} {op : O2} {me : ME} : mAug i op me env h = match env[i]? with
  | some (some x) => (me env h).bind fun y h1 => (op h1 x y).bind fun z h2 => .ok (.nx (env.set i (some z))) h2
  | _ => .stuck := nd rfl
@[simp] theorem v_add {i j : Int} : opAdd h (.int i) (.int j) = .ok (.int (i + j)) h := nd rfl
@[simp] theorem v_addS {a b : List Nat} : opAdd h (.str a) (.str b) = bif decide (a.length + b.length ≤ LIM) then .ok (.str (a ++ b)) h else .stuck := nd rfl
@[simp] theorem v_addT {a b : List PV} : opAdd h (.tup a) (.tup b) = bif decide (a.length + b.length ≤ LIM) then .ok (.tup (a ++ b)) h else .stuck := nd rfl
@[simp] theorem v_sub {i j : Int} : opSub h (.int i) (.int j) = .ok (.int (i - j)) h := nd rfl
theorem v_mul {i j : Int} (c : (-(2 ^ 64) < i ∧ i < 2 ^ 64) ∨ (-(2 ^ 64) < j ∧ j < 2 ^ 64)) : opMul h (.int i) (.int j) = .ok (.int (i * j)) h := by
  have : ((decide (-(2 ^ 64) < i) && decide (i < 2 ^ 64)) || (decide (-(2 ^ 64) < j) && decide (j < 2 ^ 64))) = true := by simpa using c
  show (bif (decide (-(2 ^ 64) < i) && decide (i < 2 ^ 64)) || (decide (-(2 ^ 64) < j) && decide (j < 2 ^ 64)) then (R.ok (.int (i * j)) h : R PV) else .stuck) = _
  rw [this]; rfl
@[simp] theorem v_mod {i j : Int} : opMod h (.int i) (.int j) = bif decide (0 < j) then .ok (.int (i % j)) h else .stuck := nd rfl
@[simp] theorem v_fdiv {i j : Int} : opFdiv h (.int i) (.int j) = bif decide (0 < j) && decide (j < 1073741824) then .ok (.int (i / j)) h else .stuck := nd rfl
@[simp] theorem v_neg {i : Int} {g : Int → Int} : unI g h (.int i) = .ok (.int (g i)) h := nd rfl
@[simp] theorem v_lt {i j : Int} : opLt h (.int i) (.int j) = .ok (.bl (decide (i < j))) h := nd rfl
@[simp] theorem v_le {i j : Int} : opLe h (.int i) (.int j) = .ok (.bl (decide (i ≤ j))) h := nd rfl
@[simp] theorem v_gt {i j : Int} : opGt h (.int i) (.int j) = .ok (.bl (decide (j < i))) h := nd rfl
@[simp] theorem v_ge {i j : Int} : opGe h (.int i) (.int j) = .ok (.bl (decide (j ≤ i))) h := nd rfl
@[simp] theorem v_is {neg : Bool} : opIs neg h x .non = .ok (.bl (bif neg then !isNon x else isNon x)) h := nd rfl
@[simp] theorem v_bint {i : Int} : bInt h [.int i] = .ok (.int i) h := nd rfl
@[simp] theorem v_babs {i : Int} : bAbs h [.int i] = .ok (.int (if i < 0 then -i else i)) h := nd rfl
@[simp] theorem v_bmax {i j : Int} : bMax2 h [.int i, .int j] = .ok (.int (if j > i then j else i)) h := nd rfl
@[simp] theorem v_bmin {i j : Int} : bMin2 h [.int i, .int j] = .ok (.int (if j < i then j else i)) h := nd rfl
@[simp] theorem v_bdm {i j : Int} : bDivmod h [.int i, .int j] = bif decide (0 < j) && decide (j < B30) then .ok (.tup [.int (i / j), .int (i % j)]) h else .stuck := nd rfl
@[simp] theorem v_btup {ys : List PV} : bTuple h [.tup ys] = .ok (.tup ys) h := nd rfl
@[simp] theorem v_btupR {n : Nat} {ys : List PV} (e : h[n]? = some (.lst ys)) : bTuple h [.ref n] = .ok (.tup ys) h := by
  show (match seqP h (.ref n) with
    | some ys => R.ok (PV.tup ys) h
    | none => .stuck) = _
  have : seqP h (.ref n) = some ys := by simp [seqP, e]
  rw [this]
end
end MC

end
section
set_option maxRecDepth 100000
set_option maxHeartbeats 4000000
namespace MC
open PySem L2

mutual
theorem ren_no (f : Nat → Option Nat) : ∀ x : PV, noRef x = true → renV f x = some x
  | .non, _ | .bl _, _ | .int _, _ | .str _, _ | .gl _, _ => by unfold renV; rfl
  | .tup xs, h => by unfold renV; rw [rens_no f xs (by unfold noRef at h; exact h)]
  | .scr xs, h => by unfold renV; rw [rens_no f xs (by unfold noRef at h; exact h)]
  | .rdic xs, h => by unfold renV; rw [renk_no f xs (by unfold noRef at h; exact h)]
  | .ins c fs, h => by unfold renV; rw [renf_no f fs (by unfold noRef at h; exact h)]
  | .ref n, h => by unfold noRef at h; cases h
theorem rens_no (f : Nat → Option Nat) : ∀ x : List PV, noRefs x = true → renVs f x = some x
  | [], _ => by unfold renVs; rfl
  | x :: xs, h => by
    unfold noRefs at h
    rw [Bool.and_eq_true] at h
    unfold renVs
    rw [ren_no f x h.1, rens_no f xs h.2]
theorem renk_no (f : Nat → Option Nat) : ∀ x : List (PV × PV), noRefK x = true → renK f x = some x
  | [], _ => by unfold renK; rfl
  | (k, x) :: xs, h => by
    unfold noRefK at h
    rw [Bool.and_eq_true, Bool.and_eq_true] at h
    unfold renK
    rw [ren_no f x h.2.1, renk_no f xs h.2.2]
theorem renf_no (f : Nat → Option Nat) : ∀ x : List (Nm × PV), noRefF x = true → renF f x = some x
  | [], _ => by unfold renF; rfl
  | (k, x) :: xs, h => by
    unfold noRefF at h
    rw [Bool.and_eq_true] at h
    unfold renF
    rw [ren_no f x h.1, renf_no f xs h.2]
end
mutual
theorem refs_no : ∀ x : PV, noRef x = true → refsV x = []
  | .non, _ | .bl _, _ | .int _, _ | .str _, _ | .gl _, _ => by unfold refsV; rfl
  | .tup xs, h => by unfold refsV; exact refss_no xs (by unfold noRef at h; exact h)
  | .scr xs, h => by unfold refsV; exact refss_no xs (by unfold noRef at h; exact h)
  | .rdic xs, h => by unfold refsV; exact refsk_no xs (by unfold noRef at h; exact h)
  | .ins c fs, h => by unfold refsV; exact refsf_no fs (by unfold noRef at h; exact h)
  | .ref n, h => by unfold noRef at h; cases h
theorem refss_no : ∀ x : List PV, noRefs x = true → refsVs x = []
  | [], _ => by unfold refsVs; rfl
  | x :: xs, h => by
    unfold noRefs at h
    rw [Bool.and_eq_true] at h
    unfold refsVs
    rw [refs_no x h.1, refss_no xs h.2]; rfl
theorem refsk_no : ∀ x : List (PV × PV), noRefK x = true → refsK x = []
  | [], _ => by unfold refsK; rfl
  | (k, x) :: xs, h => by
    unfold noRefK at h
    rw [Bool.and_eq_true, Bool.and_eq_true] at h
    unfold refsK
    first
      | rw [refs_no x h.2.1, refsk_no xs h.2.2]; rfl
      | simp [refs_no x h.2.1, refsk_no xs h.2.2, refs_no k h.1]
theorem refsf_no : ∀ x : List (Nm × PV), noRefF x = true → refsF x = []
  | [], _ => by unfold refsF; rfl
  | (k, x) :: xs, h => by
    unfold noRefF at h
    rw [Bool.and_eq_true] at h
    unfold refsF
    rw [refs_no x h.1, refsf_no xs h.2]; rfl
end
section
variable {m : MF} {xs : List PV} {h g : PH} {v : PV} {j k : Nat}
theorem reach0 (h : PH) : reach h FUEL [] [] = some [] := by unfold FUEL; rfl
theorem reach1 {o : PO} (e : h[j]? = some o) (r : refsO o = []) : reach h FUEL [j] [] = some [j] := by
  show reach h (398 + 1 + 1) [j] [] = _
  unfold reach
  simp only [List.contains_nil, cond_false, e, r, List.append_nil, List.nil_append]
  unfold reach
  rfl
theorem reach2 {o p : PO} (e : h[j]? = some o) (r : refsO o = []) (e2 : h[k]? = some p) (r2 : refsO p = []) (ne : j ≠ k) : reach h FUEL [j, k] [] = some [j, k] := by
  show reach h (397 + 1 + 1 + 1) [j, k] [] = _
  unfold reach
  simp only [List.contains_nil, cond_false, e, r, List.append_nil, List.nil_append]
  unfold reach
  have c : [j].contains k = false := by simp [Ne.symm ne]
  simp only [c, cond_false, e2, r2, List.append_nil]
  unfold reach
  rfl
theorem call_pure (hx : noRefs xs = true) (hm : m xs [] = .ok v g) (hv : noRef v = true) : callG takeBack m xs h = .ok v h := by
  have e1 : reach g FUEL (refsVs [v] ++ List.range ([] : List Nat).length) [] = some [] := by
    have : refsVs [v] = [] := refss_no [v] (by unfold noRefs; rw [hv]; rfl)
    rw [this]; exact reach0 g
  have e2 : takeBack h [] v g = .ok v h := by
    have : takeL h [] [v] g = some ([], [v], h) := by
      unfold takeL
      rw [e1]
      show (match renVs (backF [] (newsOf [] []) h.length) [v], (some [] : Option (List PO)), (some [] : Option (List PO)) with
        | some us, some os, some ns => some (newsOf [] [], us, setAll h [] os ++ ns)
        | _, _, _ => none) = _
      rw [rens_no _ [v] (by unfold noRefs; rw [hv]; rfl)]
      simp [setAll, newsOf]
    unfold takeBack
    rw [this]
  unfold callG
  rw [refss_no xs hx, reach0]
  show (match renVs (idx []) xs, (some [] : Option PH) with
    | some as, some hc => _
    | _, _ => _) = _
  rw [rens_no _ xs hx]
  simp only [hm]
  exact e2
theorem flatO_of {ys : List PV} (hy : noRefs ys = true) : refsO (.lst ys) = [] ∧ ∀ f, renO f (.lst ys) = some (.lst ys) := by
  refine ⟨by unfold refsO; exact refss_no ys hy, fun f => ?_⟩
  simp only [renO, rens_no f ys hy]
theorem idx_hd : idx [j] j = some 0 := by unfold idx; simp
theorem call_one {ys zs : List PV} (hj : h[j]? = some (.lst ys)) (hy : noRefs ys = true) (hx : noRefs xs = true) (hm : m (.ref 0 :: xs) [.lst ys] = .ok v g) (hg : g[0]? = some (.lst zs)) (hz : noRefs zs = true) (hv : noRef v = true) :
    callG takeBack m (.ref j :: xs) h = .ok v (h.set j (.lst zs)) := by
  obtain ⟨y1, y2⟩ := flatO_of hy
  obtain ⟨z1, z2⟩ := flatO_of hz
  have v1 : noRefs [v] = true := by unfold noRefs; rw [hv]; rfl
  have e2 : takeBack h [j] v g = .ok v (h.set j (.lst zs)) := by
    have : takeL h [j] [v] g = some ([], [v], h.set j (.lst zs)) := by
      unfold takeL
      have r0 : reach g FUEL (refsVs [v] ++ List.range [j].length) [] = some [0] := by
        rw [refss_no [v] v1]; exact reach1 hg z1
      rw [r0]
      have n0 : newsOf [j] [0] = [] := by simp [newsOf]
      simp only [n0]
      rw [rens_no _ [v] v1]
      have p0 : mapO (pick g (backF [j] [] h.length)) (List.range [j].length) = some [.lst zs] := by
        show mapO _ [0] = _
        simp [mapO, pick, hg, z2]
      rw [p0]
      simp [mapO, setAll]
    unfold takeBack
    rw [this]
  unfold callG
  have rr : refsVs (.ref j :: xs) = [j] := by unfold refsVs refsV; rw [refss_no xs hx]; rfl
  rw [rr, reach1 hj y1]
  have a0 : renVs (idx [j]) (.ref j :: xs) = some (.ref 0 :: xs) := by
    unfold renVs
    rw [rens_no _ xs hx]
    unfold renV
    rw [idx_hd]
  have h0 : mapO (pick h (idx [j])) [j] = some [.lst ys] := by simp [mapO, pick, hj, y2]
  simp only [a0, h0, hm]
  exact e2
theorem call_two {ys zs us ws : List PV} (hj : h[j]? = some (.lst ys)) (hy : noRefs ys = true) (hk : h[k]? = some (.lst us)) (hu : noRefs us = true) (ne : j ≠ k) (hx : noRefs xs = true) (hm : m (.ref 0 :: .ref 1 :: xs) [.lst ys, .lst us] = .ok v g) (hg : g[0]? = some (.lst zs)) (hz : noRefs zs = true)
    (hg2 : g[1]? = some (.lst ws)) (hw : noRefs ws = true) (hv : noRef v = true) : callG takeBack m (.ref j :: .ref k :: xs) h = .ok v ((h.set j (.lst zs)).set k (.lst ws)) := by
  obtain ⟨y1, y2⟩ := flatO_of hy
  obtain ⟨z1, z2⟩ := flatO_of hz
  obtain ⟨u1, u2⟩ := flatO_of hu
  obtain ⟨w1, w2⟩ := flatO_of hw
  have v1 : noRefs [v] = true := by unfold noRefs; rw [hv]; rfl
  have e2 : takeBack h [j, k] v g = .ok v ((h.set j (.lst zs)).set k (.lst ws)) := by
    have : takeL h [j, k] [v] g = some ([], [v], (h.set j (.lst zs)).set k (.lst ws)) := by
      unfold takeL
      have r0 : reach g FUEL (refsVs [v] ++ List.range [j, k].length) [] = some [0, 1] := by
        rw [refss_no [v] v1]; exact reach2 (j := 0) (k := 1) hg z1 hg2 w1 (Nat.ne_of_lt Nat.one_pos)
      rw [r0]
      have n0 : newsOf [j, k] [0, 1] = [] := by simp [newsOf]
      simp only [n0]
      rw [rens_no _ [v] v1]
      have p0 : mapO (pick g (backF [j, k] [] h.length)) (List.range [j, k].length) = some [.lst zs, .lst ws] := by
        show mapO _ [0, 1] = _
        simp [mapO, pick, hg, z2, hg2, w2]
      rw [p0]
      simp [mapO, setAll]
    unfold takeBack
    rw [this]
  unfold callG
  have rr : refsVs (.ref j :: .ref k :: xs) = [j, k] := by unfold refsVs refsV refsVs refsV; rw [refss_no xs hx]; rfl
  rw [rr, reach2 hj y1 hk u1 ne]
  have i0 : idx [j, k] j = some 0 := by unfold idx; simp
  have i1 : idx [j, k] k = some 1 := by
    unfold idx
    have : (j == k) = false := beq_eq_false_iff_ne.mpr ne
    simp [this, idx]
  have a0 : renVs (idx [j, k]) (.ref j :: .ref k :: xs) = some (.ref 0 :: .ref 1 :: xs) := by
    unfold renVs renVs
    rw [rens_no _ xs hx]
    unfold renV
    rw [i0, i1]
  have h0 : mapO (pick h (idx [j, k])) [j, k] = some [.lst ys, .lst us] := by simp [mapO, pick, hj, y2, hk, u2]
  simp only [a0, h0, hm]
  exact e2
theorem call_newl {ys : List PV} {i : Nat} (hx : noRefs xs = true) (hm : m xs [] = .ok (.ref i) g) (hg : g[i]? = some (.lst ys)) (hy : noRefs ys = true) : callG takeBack m xs h = .ok (.ref h.length) (h ++ [.lst ys]) := by
  obtain ⟨y1, y2⟩ := flatO_of hy
  have e2 : takeBack h [] (.ref i) g = .ok (.ref h.length) (h ++ [.lst ys]) := by
    have : takeL h [] [.ref i] g = some ([i], [.ref h.length], h ++ [.lst ys]) := by
      unfold takeL
      have r0 : reach g FUEL (refsVs [.ref i] ++ List.range ([] : List Nat).length) [] = some [i] := by
        have : refsVs [PV.ref i] = [i] := by unfold refsVs refsV refsVs; rfl
        rw [this]; exact reach1 hg y1
      rw [r0]
      have n0 : newsOf [] [i] = [i] := by simp [newsOf]
      simp only [n0]
      have b0 : backF [] [i] h.length i = some h.length := by simp [backF, idx_hd]
      have p0 : renVs (backF [] [i] h.length) [PV.ref i] = some [.ref h.length] := by unfold renVs renVs renV; rw [b0]
      rw [p0]
      have q0 : mapO (pick g (backF [] [i] h.length)) [i] = some [.lst ys] := by simp [mapO, pick, hg, y2]
      rw [q0]
      simp [mapO, setAll]
    unfold takeBack
    rw [this]
  unfold callG
  rw [refss_no xs hx, reach0]
  show (match renVs (idx []) xs, (some [] : Option PH) with
    | some as, some hc => _
    | _, _ => _) = _
  rw [rens_no _ xs hx]
  simp only [hm]
  exact e2
theorem zip_fs : ∀ fs : List (Nm × PV), (fs.map (·.1)).zip (fs.map (·.2)) = fs
  | [] => rfl
  | (a, b) :: r => by simp [zip_fs r]
theorem call_frz {c i : Nat} {fs : List (Nm × PV)} (hx : noRefs xs = true) (hm : m xs [] = .ok (.ref i) g) (hg : g[i]? = some (.ins c fs)) (hf : noRefs (fs.map (·.2)) = true) : callG takeFrz m xs h = .ok (.ins c fs) h := by
  have e2 : takeFrz h [] (.ref i) g = .ok (.ins c fs) h := by
    have : takeL h [] (fs.map (·.2)) g = some ([], fs.map (·.2), h) := by
      unfold takeL
      have r0 : reach g FUEL (refsVs (fs.map (·.2)) ++ List.range ([] : List Nat).length) [] = some [] := by
        rw [refss_no _ hf]; exact reach0 g
      rw [r0]
      show (match renVs (backF [] (newsOf [] []) h.length) (fs.map (·.2)), (some [] : Option (List PO)), (some [] : Option (List PO)) with
        | some us, some os, some ns => some (newsOf [] [], us, setAll h [] os ++ ns)
        | _, _, _ => none) = _
      rw [rens_no _ _ hf]
      simp [setAll, newsOf]
    unfold takeFrz
    simp only [hg, this]
    simp [zip_fs]
  unfold callG
  rw [refss_no xs hx, reach0]
  show (match renVs (idx []) xs, (some [] : Option PH) with
    | some as, some hc => _
    | _, _ => _) = _
  rw [rens_no _ xs hx]
  simp only [hm]
  exact e2
end
end MC
namespace MC
open PySem L2
@[simp] theorem Ws_noX {α : Type} {r : R α} {Q : α → PH → Prop} : Ws (noX r) Q ↔ Ws r Q := by
  cases r with
  | ok a h => exact Iff.rfl
  | exc c fs h => exact ⟨fun ⟨_, _, e, _⟩ => (by cases e), fun ⟨_, _, e, _⟩ => (by cases e)⟩
  | stuck => exact Iff.rfl
/-- behind a turn -/
def turnQ (I : En → PH → Prop) (Q : Fl → PH → Prop) : Fl → PH → Prop := fun f h => match f with
  | .nx e => I e h
  | .ct e => I e h
  | .bk e => Q (.nx e) h
  | .rt v => Q (.rt v) h
@[simp] theorem turn_nx {I : En → PH → Prop} {Q : Fl → PH → Prop} {e : En} {h : PH} : turnQ I Q (.nx e) h = I e h := nd rfl
@[simp] theorem turn_ct {I : En → PH → Prop} {Q : Fl → PH → Prop} {e : En} {h : PH} : turnQ I Q (.ct e) h = I e h := nd rfl
@[simp] theorem turn_bk {I : En → PH → Prop} {Q : Fl → PH → Prop} {e : En} {h : PH} : turnQ I Q (.bk e) h = Q (.nx e) h := nd rfl
@[simp] theorem turn_rt {I : En → PH → Prop} {Q : Fl → PH → Prop} {v : PV} {h : PH} : turnQ I Q (.rt v) h = Q (.rt v) h := nd rfl
theorem Ws_for {g : MG} {b : MS} {wt : Wt} {Q : Fl → PH → Prop} : ∀ {xs : List PV} (I : Nat → En → PH → Prop) {env : En} {h : PH}, I 0 env h → (∀ i env h, I i env h → watch wt h = true) →
    (∀ i x env h, xs[i]? = some x → I i env h → Ws (g x env h) fun e h1 => Ws (b e h1) (turnQ (I (i + 1)) Q)) → (∀ env h, I xs.length env h → Q (.nx env) h) → Ws (forL g b wt xs env h) Q
  | [], I, env, h, h0, hw, _, hd => by
    unfold forL
    rw [hw 0 env h h0]
    exact Ws_ok.mpr (hd env h h0)
  | x :: xs, I, env, h, h0, hw, hs, hd => by
    unfold forL
    rw [hw 0 env h h0, cond_true]
    refine Ws.bind (hs 0 x env h rfl h0) fun e h1 w => Ws.bind w fun f h2 q => ?_
    have go : ∀ e2, I 1 e2 h2 → Ws (forL g b wt xs e2 h2) Q := fun e2 q => Ws_for (fun i => I (i + 1)) q (fun i => hw (i + 1)) (fun i x env h e => hs (i + 1) x env h (by simpa using e)) hd
    cases f with
    | nx e2 => exact go e2 q
    | ct e2 => exact go e2 q
    | bk e2 => exact Ws_ok.mpr q
    | rt v => exact Ws_ok.mpr q
theorem Ws_lc {g : Tg} {t : MT} {m : ME} {wt : Wt} {e0 : En} {Q : PV → PH → Prop} : ∀ {xs : List PV} (I : Nat → List PV → PH → Prop) {acc : List PV} {h : PH}, I 0 acc h → (∀ i acc h, I i acc h → watch wt h = true) →
    (∀ i x acc h, xs[i]? = some x → I i acc h → ∃ e, tgM g x e0 = some e ∧ Ws (t e h) fun c h1 => bif c then Ws (m e h1) (fun y h2 => acc.length < LIM ∧ I (i + 1) (acc ++ [y]) h2) else I (i + 1) acc h1) →
    (∀ acc h, I xs.length acc h → Q (.ref h.length) (h ++ [.lst acc])) → Ws (lcL g t m wt e0 xs acc h) Q
  | [], I, acc, h, h0, hw, _, hd => by
    unfold lcL
    rw [hw 0 acc h h0]
    exact Ws_ok.mpr (hd acc h h0)
  | x :: xs, I, acc, h, h0, hw, hs, hd => by
    unfold lcL
    rw [hw 0 acc h h0, cond_true]
    obtain ⟨e, he, w⟩ := hs 0 x acc h rfl h0
    rw [he]
    have go : ∀ acc2 h2, I 1 acc2 h2 → Ws (lcL g t m wt e0 xs acc2 h2) Q := fun acc2 h2 q => Ws_lc (fun i => I (i + 1)) q (fun i => hw (i + 1)) (fun i x acc h e => hs (i + 1) x acc h (by simpa using e)) hd
    refine Ws.bind (Ws_noX.mpr w) fun c h1 q => ?_
    cases c with
    | false => exact go acc h1 q
    | true =>
      refine Ws.bind (Ws_noX.mpr q) fun y h2 ⟨hl, q2⟩ => ?_
      rw [decide_eq_true hl]
      exact go _ _ q2
end MC
namespace MC
open PySem L2
@[simp] theorem gI_nil {α : Type} {l : List α} : gI [] l = [] := nd rfl
@[simp] theorem gI_cons {α : Type} {i : Nat} {ix : List Nat} {l : List α} : gI (i :: ix) l = match l[i]? with
  | some x => x :: gI ix l
  | none => gI ix l := by
  unfold gI
  rw [List.filterMap_cons]
  cases l[i]? <;> rfl
section
variable {h : PH}
@[simp] theorem v_eqI {i j : Int} : opEq h (.int i) (.int j) = .ok (.bl (decide (i = j))) h := by
  have : (i == j) = decide (i = j) := by by_cases e : i = j <;> simp [e]
  show (bif SeqAt.shaped (.int i) && SeqAt.shaped (.int j) then (R.ok (.bl (PyData.eqv (.int i) (.int j))) h : R PV) else .stuck) = _
  simp [SeqAt.shaped, PyData.eqv, PyData.canLay0, PyData.depth, this]
@[simp] theorem v_neI {i j : Int} : opNe h (.int i) (.int j) = .ok (.bl (!decide (i = j))) h := by
  have : (i == j) = decide (i = j) := by by_cases e : i = j <;> simp [e]
  show (bif SeqAt.shaped (.int i) && SeqAt.shaped (.int j) then (R.ok (.bl (!PyData.eqv (.int i) (.int j))) h : R PV) else .stuck) = _
  simp [SeqAt.shaped, PyData.eqv, PyData.canLay0, PyData.depth, this]
theorem call_pureW {m : MF} {xs : List PV} {v : PV} (hx : noRefs xs = true) (hm : Ws (m xs []) fun u _ => u = v) (hv : noRef v = true) : callG takeBack m xs h = .ok v h := by
  obtain ⟨u, g, e, rfl⟩ := hm
  exact call_pure hx e hv
/-- a comprehension whose items are f of the source's -/
theorem Ws_map {g : Tg} {m : ME} {e0 : En} {Q : PV → PH → Prop} (f : PV → PV) (J : PH → Prop) {xs : List PV} (j0 : J h) (hl : xs.length ≤ LIM) (hs : ∀ x ∈ xs, ∀ h, J h → ∃ e, tgM g x e0 = some e ∧ Ws (m e h) fun y h' => y = f x ∧ J h')
    (hd : ∀ h0, J h0 → Q (.ref h0.length) (h0 ++ [.lst (xs.map f)])) : Ws (lcL g mYes m [] e0 xs [] h) Q := by
  refine Ws_lc (fun i acc h => i ≤ xs.length ∧ acc = (xs.take i).map f ∧ J h) ⟨Nat.zero_le _, rfl, j0⟩ (fun _ _ _ _ => rfl) (fun i x acc h e ⟨hi, ea, jh⟩ => ?_) fun acc h ⟨_, ea, jh⟩ => ?_
  · have hlt := (List.getElem?_eq_some_iff.mp e).1
    obtain ⟨e1, t1, w⟩ := hs x (List.mem_of_getElem? e) h jh
    refine ⟨e1, t1, ?_⟩
    rw [e_yes, Ws_ok, cond_true]
    refine w.mono fun y h' ⟨ey, jh'⟩ => ⟨?_, hlt, ?_, jh'⟩
    · subst ea
      rw [List.length_map, List.length_take]
      omega
    · subst ea; subst ey
      rw [List.take_add_one, e, List.map_append]; rfl
  · subst ea
    rw [List.take_length]
    exact hd h jh
/-- .. whose items keep P -/
theorem Ws_mapP {g : Tg} {m : ME} {e0 : En} {Q : PV → PH → Prop} (P : PV → Prop) (J : PH → Prop) {xs : List PV} (j0 : J h) (hl : xs.length ≤ LIM) (hs : ∀ x ∈ xs, ∀ h, J h → ∃ e, tgM g x e0 = some e ∧ Ws (m e h) fun y h' => P y ∧ J h')
    (hd : ∀ h0 ys, J h0 → ys.length = xs.length → (∀ y ∈ ys, P y) → Q (.ref h0.length) (h0 ++ [.lst ys])) : Ws (lcL g mYes m [] e0 xs [] h) Q := by
  refine Ws_lc (fun i acc h => i ≤ xs.length ∧ acc.length = i ∧ (∀ y ∈ acc, P y) ∧ J h) ⟨Nat.zero_le _, rfl, (fun _ z => nomatch z), j0⟩ (fun _ _ _ _ => rfl) (fun i x acc h e ⟨hi, ea, ha, jh⟩ => ?_) fun acc h ⟨_, ea, ha, jh⟩ => hd h acc jh ea ha
  have hlt := (List.getElem?_eq_some_iff.mp e).1
  obtain ⟨e1, t1, w⟩ := hs x (List.mem_of_getElem? e) h jh
  refine ⟨e1, t1, ?_⟩
  rw [e_yes, Ws_ok, cond_true]
  refine w.mono fun y h' ⟨ey, jh'⟩ => ⟨by omega, hlt, by simp [ea], fun z hz => ?_, jh'⟩
  rcases List.mem_append.mp hz with q | q
  · exact ha z q
  · rw [List.mem_singleton.mp q]; exact ey
theorem bls_true : ∀ n : Nat, blsP (List.replicate n (PV.bl true)) = some (List.replicate n true)
  | 0 => rfl
  | n + 1 => by simp [List.replicate_succ, blsP, bls_true n]
theorem all_last {ys : List PV} {bs : List Bool} (e : blsP ys = some bs) : bAll (h ++ [PO.lst ys]) [PV.ref h.length] = .ok (PV.bl (bs.all id)) (h ++ [PO.lst ys]) := by
  have : lstP (h ++ [PO.lst ys]) (.ref h.length) = some ys := by simp [lstP]
  simp only [bAll, this, e]
end
end MC
namespace MC
open PySem L2
section
variable {α β γ : Type} {h : PH} {x y : PV}
@[simp] theorem bind_asc {r : R α} {f : α → PH → R β} {g : β → PH → R γ} : (r.bind f).bind g = r.bind fun a h => (f a h).bind g := by cases r <;> rfl
@[simp] theorem src_tup {xs : List PV} : srcV h (.tup xs) = some (xs, []) := nd rfl
@[simp] theorem src_scr {xs : List PV} : srcV h (.scr xs) = some (xs, []) := nd rfl
@[simp] theorem src_str {s : List Nat} : srcV h (.str s) = some (signsOf s, []) := nd rfl
theorem src_ref {n : Nat} {xs : List PV} (e : h[n]? = some (.lst xs)) : srcV h (.ref n) = some (xs, [(n, xs)]) := by simp [srcV, e]
@[simp] theorem seq_tup {xs : List PV} : seqP h (.tup xs) = some xs := nd rfl
@[simp] theorem wt_tup {xs ys : List PV} : wtOf ys (.tup xs) = [] := nd rfl
@[simp] theorem wt_ref {n : Nat} {ys : List PV} : wtOf ys (.ref n) = [(n, ys)] := nd rfl
@[simp] theorem kd_non : kindP h .non = some (.inl 0) := nd rfl
@[simp] theorem kd_bl {b : Bool} : kindP h (.bl b) = some (.inl 1) := nd rfl
@[simp] theorem kd_int {i : Int} : kindP h (.int i) = some (.inl 2) := nd rfl
@[simp] theorem kd_str {s : List Nat} : kindP h (.str s) = some (.inl 3) := nd rfl
@[simp] theorem kd_tup {s : List PV} : kindP h (.tup s) = some (.inl 4) := nd rfl
@[simp] theorem kd_ins {c : Nat} {fs : List (Nm × PV)} : kindP h (.ins c fs) = some (.inr c) := nd rfl
@[simp] theorem tr_non : truth h .non = some false := nd rfl
@[simp] theorem tr_bl {b : Bool} : truth h (.bl b) = some b := nd rfl
@[simp] theorem tr_int {i : Int} : truth h (.int i) = some (i != 0) := nd rfl
@[simp] theorem len_tup {xs : List PV} : bLen h [.tup xs] = .ok (.int xs.length) h := nd rfl
theorem len_str {s : List Nat} (e : s.length ≤ LIM) : bLen h [.str s] = .ok (.int s.length) h := by
  show (bif decide (s.length ≤ LIM) then R.ok (PV.int s.length) h else .stuck) = _
  rw [decide_eq_true e]; rfl
theorem len_ref {n : Nat} {xs : List PV} (e : h[n]? = some (.lst xs)) : bLen h [.ref n] = .ok (.int xs.length) h := by simp [bLen, seqP, e]
@[simp] theorem fld_ins {c : Nat} {fs : List (Nm × PV)} : fldsOf h (.ins c fs) = some (c, fs) := nd rfl
@[simp] theorem ty_str {s : List Nat} : isTy h 0 (.str s) = true := nd rfl
theorem ty_lst {n : Nat} {xs : List PV} (e : h[n]? = some (.lst xs)) : isTy h 1 (.ref n) = true := by simp [isTy, lstP, e]
@[simp] theorem nn_non : MC.isNon .non = true := nd rfl
@[simp] theorem nn_int {i : Int} : MC.isNon (.int i) = false := nd rfl
@[simp] theorem nn_tup {i : List PV} : MC.isNon (.tup i) = false := nd rfl
@[simp] theorem nn_str {i : List Nat} : MC.isNon (.str i) = false := nd rfl
theorem mapB {g : Tg} {m : ME} {e0 : En} {Q : β → PH → Prop} {k : PV → PH → R β} (f : PV → PV) (J : PH → Prop) {xs : List PV} (j0 : J h) (hl : xs.length ≤ LIM) (hs : ∀ x ∈ xs, ∀ h, J h → ∃ e, tgM g x e0 = some e ∧ Ws (m e h) fun y h' => y = f x ∧ J h')
    (hd : ∀ h0, J h0 → Ws (k (.ref h0.length) (h0 ++ [.lst (xs.map f)])) Q) : Ws ((lcL g mYes m [] e0 xs [] h).bind k) Q :=
  Ws.bind (Ws_map (Q := fun v h' => ∃ h0, J h0 ∧ v = .ref h0.length ∧ h' = h0 ++ [.lst (xs.map f)]) f J j0 hl hs fun h0 j => ⟨h0, j, rfl, rfl⟩) fun v h' ⟨h0, j, e1, e2⟩ => by rw [e1, e2]; exact hd h0 j
theorem mapPB {g : Tg} {m : ME} {e0 : En} {Q : β → PH → Prop} {k : PV → PH → R β} (P : PV → Prop) (J : PH → Prop) {xs : List PV} (j0 : J h) (hl : xs.length ≤ LIM) (hs : ∀ x ∈ xs, ∀ h, J h → ∃ e, tgM g x e0 = some e ∧ Ws (m e h) fun y h' => P y ∧ J h')
    (hd : ∀ h0 ys, J h0 → ys.length = xs.length → (∀ y ∈ ys, P y) → Ws (k (.ref h0.length) (h0 ++ [.lst ys])) Q) : Ws ((lcL g mYes m [] e0 xs [] h).bind k) Q :=
  Ws.bind (Ws_mapP (Q := fun v h' => ∃ h0 ys, J h0 ∧ ys.length = xs.length ∧ (∀ y ∈ ys, P y) ∧ v = .ref h0.length ∧ h' = h0 ++ [.lst ys]) P J j0 hl hs fun h0 ys j l p => ⟨h0, ys, j, l, p, rfl, rfl⟩) fun v h' ⟨h0, ys, j, l, p, e1, e2⟩ => by rw [e1, e2]; exact hd h0 ys j l p
theorem forB {g : MG} {b : MS} {wt : Wt} {Q : β → PH → Prop} {k : Fl → PH → R β} {xs : List PV} (I : Nat → En → PH → Prop) {env : En} (h0 : I 0 env h) (hw : ∀ i env h, I i env h → watch wt h = true)
    (hs : ∀ i x env h, xs[i]? = some x → I i env h → Ws (g x env h) fun e h1 => Ws (b e h1) (turnQ (I (i + 1)) fun f h => Ws (k f h) Q)) (hd : ∀ env h, I xs.length env h → Ws (k (.nx env) h) Q) : Ws ((forL g b wt xs env h).bind k) Q :=
  Ws.bind (Ws_for I h0 hw hs hd) fun _ _ q => q
end
end MC

end
section
set_option maxRecDepth 100000
set_option maxHeartbeats 4000000
namespace MC
open PySem L2
section
variable {h : PH} {n : Nat}
theorem str_len_app (a b : Str) : (a ++ b).length = a.length + b.length := by
  show (a.cps ++ b.cps).size = _
  simp [Str.length]
theorem textFrom_le : ∀ (ts : List Str) (k : Nat) (acc : Str), (textFrom k acc ts).length ≤ acc.length + ((ts.map fun t => t.length + 2).sum)
  | [], k, acc => by show acc.length ≤ acc.length + 0; omega
  | t :: r, k, acc => by
    have ih := textFrom_le r (k + 1) (acc ++ (if k > 0 then ", " else "" : String) ++ t)
    have e : (acc ++ (if k > 0 then ", " else "" : String) ++ t).length ≤ acc.length + 2 + t.length := by
      rw [str_len_app, str_len_app]
      have : ((if k > 0 then ", " else "" : String) : Str).length ≤ 2 := by split <;> decide +kernel
      omega
    show (textFrom (k + 1) (acc ++ (if k > 0 then ", " else "" : String) ++ t) r).length ≤ _
    rw [List.map_cons, List.sum_cons]
    omega
theorem listText_le (ts : List Str) : (listText ts).length ≤ 2 + ((ts.map fun t => t.length + 2).sum) := by
  unfold listText
  rw [str_len_app]
  have h1 := textFrom_le ts 0 "["
  have h2 : (("[" : String) : Str).length = 1 := by decide +kernel
  have h3 : (("]" : String) : Str).length = 1 := by decide +kernel
  omega
theorem repr_str_le (s : List Nat) (hs : ∀ c ∈ s, c < 1114112) : (reprText (S s)).length ≤ 10 * s.length + 2 := by
  have := StrLaws.reprText_len (S s) (fun c hc => by
    rw [S_list] at hc
    exact Nat.lt_trans (hs c hc) (by decide))
  rw [S_len] at this
  exact this
/-- the text of a list of two equal texts -/
def rep2 (s : List Nat) : List Nat := (PyData.shown (.list [.str (S s), .str (S s)])).cps.toList
theorem repr_ss (s : List Nat) (hs : ∀ c ∈ s, c < 1114112) (hl : s.length ≤ 1000) (e : h[n]? = some (.lst [.str s, .str s])) : bRepr h [.ref n] = .ok (.str (rep2 s)) h := by
  have d : toD h DEP (.ref n) = some (.list [.str (S s), .str (S s)]) := by
    have z : toD h (19 + 1) (.ref n) = _ := toD.eq_def ..
    rw [show DEP = 19 + 1 from rfl, z]
    simp only [e]
    rfl
  have l : (PyData.shown (.list [.str (S s), .str (S s)])).length ≤ LIM := by
    show (listText [reprText (S s), reprText (S s)]).length ≤ LIM
    refine Nat.le_trans (listText_le _) ?_
    have := repr_str_le s hs
    simp [LIM]
    omega
  have r : reprD h (.ref n) = some (rep2 s) := by
    unfold reprD
    rw [d]
    simp only [decide_eq_true l]
    simp [PyData.showable, PyData.showableAll, PyData.hasDict, PyData.hasDictAll, PyData.depth, PyData.depthAll, rep2]
  simp [bRepr, isRefV, r]
def rep2b (b : Bool) : List Nat := (PyData.shown (.list [.bool b, .bool b])).cps.toList
theorem repr_bb (b : Bool) (e : h[n]? = some (.lst [.bl b, .bl b])) : bRepr h [.ref n] = .ok (.str (rep2b b)) h := by
  have d : toD h DEP (.ref n) = some (.list [.bool b, .bool b]) := by
    have z : toD h (19 + 1) (.ref n) = _ := toD.eq_def ..
    rw [show DEP = 19 + 1 from rfl, z]
    simp only [e]
    rfl
  have l : (PyData.shown (.list [.bool b, .bool b])).length ≤ LIM := by cases b <;> decide +kernel
  have r : reprD h (.ref n) = some (rep2b b) := by
    unfold reprD
    rw [d]
    simp only [decide_eq_true l]
    simp [PyData.showable, PyData.showableAll, PyData.hasDict, PyData.hasDictAll, PyData.depth, PyData.depthAll, rep2b]
  simp [bRepr, isRefV, r]
theorem v_eqS {s t : List Nat} (hs : PyData.strOk (S s) = true) (ht : PyData.strOk (S t) = true) : opEq h (.str s) (.str t) = .ok (.bl (decide (s = t))) h := by
  have : (S s == S t) = decide (s = t) := by
    by_cases e : s = t
    · subst e; simp
    · have : S s ≠ S t := fun z => e (S_inj z)
      simp [e, this]
  unfold opEq by2
  rw [show toD h DEP (.str s) = some (.str (S s)) from rfl, show toD h DEP (.str t) = some (.str (S t)) from rfl]
  simp [SeqAt.shaped, PyData.eqv, PyData.canLay0, PyData.depth, this, hs, ht]
theorem v_neS {s t : List Nat} (hs : PyData.strOk (S s) = true) (ht : PyData.strOk (S t) = true) : opNe h (.str s) (.str t) = .ok (.bl (!decide (s = t))) h := by
  have : (S s == S t) = decide (s = t) := by
    by_cases e : s = t
    · subst e; simp
    · have : S s ≠ S t := fun z => e (S_inj z)
      simp [e, this]
  unfold opNe by2
  rw [show toD h DEP (.str s) = some (.str (S s)) from rfl, show toD h DEP (.str t) = some (.str (S t)) from rfl]
  simp [SeqAt.shaped, PyData.eqv, PyData.canLay0, PyData.depth, this, hs, ht]
theorem atI_nat' {α : Type} {xs : List α} {i : Nat} {x : α} (e : xs[i]? = some x) : L2.atI xs (i : Int) = some x := atI_nat e
theorem ix_tup {xs : List PV} {i : Nat} {x : PV} (e : xs[i]? = some x) : opIx h (.tup xs) (.int i) = .ok x h := by
  show (match L2.atI xs (i : Int) with
    | some v => R.ok v h
    | none => .stuck) = _
  rw [atI_nat' e]
theorem ix_ref {xs : List PV} {i : Nat} {x : PV} (e0 : h[n]? = some (.lst xs)) (e : xs[i]? = some x) : opIx h (.ref n) (.int i) = .ok x h := by
  have : opIx h (.ref n) (.int i) = ixL h xs (.int i) := by simp [opIx, e0]
  rw [this]
  show (match L2.atI xs (i : Int) with
    | some v => R.ok v h
    | none => .stuck) = _
  rw [atI_nat' e]
theorem ix_str {s : List Nat} {i : Nat} {c : Nat} (e : s[i]? = some c) (hl : s.length ≤ LIM) : opIx h (.str s) (.int i) = .ok (.str [c]) h := by
  show (match L2.atI s (i : Int) with
    | some c => bif decide (s.length ≤ LIM) then R.ok (PV.str [c]) h else .stuck
    | none => .stuck) = _
  rw [atI_nat' e]
  simp [hl]
theorem in_str {c : Nat} {t : List Nat} : opIn false h (.str [c]) (.str t) = .ok (.bl (decide (c ∈ t))) h := rfl
theorem strs_map : ∀ zs : List (List Nat), strsP (zs.map PV.str) = some zs
  | [] => rfl
  | z :: zs => by simp [strsP, strs_map zs]
theorem glue_nil : ∀ zs : List (List Nat), glue [] zs = zs.flatten
  | [] => rfl
  | [z] => by simp [glue]
  | z :: y :: r => by
    show z ++ ([] ++ glue [] (y :: r)) = _
    rw [glue_nil (y :: r)]; simp
theorem join_nil {zs : List (List Nat)} (e : h[n]? = some (.lst (zs.map PV.str))) (hl : zs.flatten.length ≤ LIM) : oJoin h [.str [], .ref n] = .ok (.str zs.flatten) h := by
  have s : seqP h (.ref n) = some (zs.map PV.str) := by simp [seqP, e]
  have t : totL zs ≤ LIM := by
    unfold totL
    rw [← List.length_flatten]
    exact hl
  have t2 : totL zs + zs.length * ([] : List Nat).length ≤ LIM := by simpa using t
  simp only [oJoin, s, strs_map, glue_nil, decide_eq_true t2, cond_true]
theorem last_at {ys : List PO} {o : PO} : (ys ++ [o])[ys.length]? = some o := by simp
end
end MC

end
section
set_option maxRecDepth 100000
set_option maxHeartbeats 4000000
namespace MC
open PySem L2
def skd (a b c : Int) : PO := .lst [.int a, .int b, .int c]
/-- the j-th object is a draw list -/
def Dr (j : Nat) (h : PH) : Prop := ∃ a b c, h[j]? = some (skd a b c)
/-- all but the j-th object stands -/
def But (j : Nat) (h h' : PH) : Prop := h'.length = h.length ∧ ∀ i, i ≠ j → h'[i]? = h[i]?
theorem But.refl {j : Nat} {h : PH} : But j h h := ⟨rfl, fun _ _ => rfl⟩
theorem But.trans {j : Nat} {h h1 h2 : PH} (a : But j h h1) (b : But j h1 h2) : But j h h2 := ⟨b.1.trans a.1, fun i n => (b.2 i n).trans (a.2 i n)⟩
theorem Dr.lt {j : Nat} {h : PH} (d : Dr j h) : j < h.length := by
  obtain ⟨a, b, c, e⟩ := d
  exact (List.getElem?_eq_some_iff.mp e).1
theorem Dr.app {j : Nat} {h : PH} {o : List PO} (d : Dr j h) : Dr j (h ++ o) := by
  obtain ⟨a, b, c, e⟩ := d
  exact ⟨a, b, c, by rw [List.getElem?_append_left (List.getElem?_eq_some_iff.mp e).1]; exact e⟩
theorem get_app {h : PH} {i : Nat} {o : PO} {os : List PO} (e : h[i]? = some o) : (h ++ os)[i]? = some o := by
  rw [List.getElem?_append_left (List.getElem?_eq_some_iff.mp e).1]; exact e
/-- a function of draws: xs its other arguments, P its answer -/
def Fs (m : MF) (xs : List PV) (P : PV → Prop) : Prop := ∀ a b c, Ws (m (.ref 0 :: xs) [skd a b c]) fun v g => Dr 0 g ∧ noRef v = true ∧ P v
section
variable {α : Type} {m : MF} {xs : List PV} {P : PV → Prop} {h : PH} {j : Nat} {k : PV → PH → R α} {Q : α → PH → Prop}
theorem Fs.call (F : Fs m xs P) (hx : noRefs xs = true) (d : Dr j h) : Ws (callG takeBack m (.ref j :: xs) h) fun v h' => noRef v = true ∧ P v ∧ Dr j h' ∧ But j h h' := by
  have hl := d.lt
  obtain ⟨a, b, c, e⟩ := d
  obtain ⟨v, g, e1, ⟨a', b', c', e2⟩, nv, p⟩ := F a b c
  refine ⟨v, h.set j (skd a' b' c'), call_one (ys := [.int a, .int b, .int c]) (zs := [.int a', .int b', .int c']) e (by rfl) hx e1 e2 (by rfl) nv, nv, p, ⟨a', b', c', ?_⟩, ?_, fun i hi => ?_⟩
  · rw [List.getElem?_set_self hl]
  · rw [List.length_set]
  · rw [List.getElem?_set_ne (Ne.symm hi)]
theorem Fs.use (F : Fs m xs P) (hx : noRefs xs = true) (d : Dr j h) (q : ∀ v h', noRef v = true → P v → Dr j h' → But j h h' → Ws (k v h') Q) : Ws ((callG takeBack m (.ref j :: xs) h).bind k) Q :=
  (F.call hx d).bind fun v h' ⟨n, p, d', b⟩ => q v h' n p d' b
/-- .. that gets a list besides -/
def Fs2 (m : MF) (us : List PV) (xs : List PV) (P : PV → Prop) : Prop := ∀ a b c, Ws (m (.ref 0 :: .ref 1 :: xs) [skd a b c, .lst us]) fun v g => Dr 0 g ∧ (∃ ws, g[1]? = some (.lst ws) ∧ noRefs ws = true) ∧ noRef v = true ∧ P v
theorem Fs2.use {us : List PV} {i : Nat} (F : Fs2 m us xs P) (hx : noRefs xs = true) (hu : noRefs us = true) (d : Dr j h) (hi : h[i]? = some (.lst us)) (ne : j ≠ i) (q : ∀ v h', noRef v = true → P v → Dr j h' → h'.length = h.length → (∀ n, n ≠ j → n ≠ i → h'[n]? = h[n]?) → Ws (k v h') Q) :
    Ws ((callG takeBack m (.ref j :: .ref i :: xs) h).bind k) Q := by
  have hl := d.lt
  obtain ⟨a, b, c, e⟩ := d
  obtain ⟨v, g, e1, ⟨a', b', c', e2⟩, ⟨ws, e3, nw⟩, nv, p⟩ := F a b c
  refine Ws.bind (Ws.eq (Q := fun v' h' => v' = v ∧ h' = (h.set j (skd a' b' c')).set i (.lst ws)) (call_two (ys := [.int a, .int b, .int c]) (zs := [.int a', .int b', .int c']) e (by rfl) hi hu ne hx e1 e2 (by rfl) e3 nw nv) ⟨rfl, rfl⟩) fun v' h' ⟨ev, eh⟩ => ?_
  subst ev; subst eh
  refine q v' _ nv p ⟨a', b', c', ?_⟩ (by rw [List.length_set, List.length_set]) fun n h1 h2 => ?_
  · rw [List.getElem?_set_ne (Ne.symm ne), List.getElem?_set_self hl]
  · rw [List.getElem?_set_ne (Ne.symm h2), List.getElem?_set_ne (Ne.symm h1)]
end
section
variable {β : Type} {h : PH}
theorem watch_mk {k : Nat} {ys : List PV} (e : h[k]? = some (.lst ys)) : watch [(k, ys)] h = true := by
  simp [watch, e, beqVs_rf]
theorem mapW {g : Tg} {m : ME} {e0 : En} {wt : Wt} {Q : β → PH → Prop} {k : PV → PH → R β} (f : PV → PV) (J : PH → Prop) {xs : List PV} (hw : ∀ h, J h → watch wt h = true) (j0 : J h) (hl : xs.length ≤ LIM) (hs : ∀ x ∈ xs, ∀ h, J h → ∃ e, tgM g x e0 = some e ∧ Ws (m e h) fun y h' => y = f x ∧ J h')
    (hd : ∀ h0, J h0 → Ws (k (.ref h0.length) (h0 ++ [.lst (xs.map f)])) Q) : Ws ((lcL g mYes m wt e0 xs [] h).bind k) Q := by
  refine Ws.bind (Ws_lc (Q := fun v h' => ∃ h0, J h0 ∧ v = .ref h0.length ∧ h' = h0 ++ [.lst (xs.map f)]) (fun i acc h => i ≤ xs.length ∧ acc = (xs.take i).map f ∧ J h) ⟨Nat.zero_le _, rfl, j0⟩ (fun _ _ h q => hw h q.2.2) (fun i x acc h e ⟨hi, ea, jh⟩ => ?_) fun acc h ⟨_, ea, jh⟩ => ?_) fun v h' ⟨h0, j, e1, e2⟩ => by rw [e1, e2]; exact hd h0 j
  · have hlt := (List.getElem?_eq_some_iff.mp e).1
    obtain ⟨e1, t1, w⟩ := hs x (List.mem_of_getElem? e) h jh
    refine ⟨e1, t1, ?_⟩
    rw [e_yes, Ws_ok, cond_true]
    refine w.mono fun y h' ⟨ey, jh'⟩ => ⟨?_, hlt, ?_, jh'⟩
    · subst ea
      rw [List.length_map, List.length_take]
      omega
    · subst ea; subst ey
      rw [List.take_add_one, e, List.map_append]; rfl
  · subst ea
    rw [List.take_length]
    exact ⟨h, jh, rfl, rfl⟩
theorem mapPW {g : Tg} {m : ME} {e0 : En} {wt : Wt} {Q : β → PH → Prop} {k : PV → PH → R β} (P : PV → Prop) (J : PH → Prop) {xs : List PV} (hw : ∀ h, J h → watch wt h = true) (j0 : J h) (hl : xs.length ≤ LIM) (hs : ∀ x ∈ xs, ∀ h, J h → ∃ e, tgM g x e0 = some e ∧ Ws (m e h) fun y h' => P y ∧ J h')
    (hd : ∀ h0 ys, J h0 → ys.length = xs.length → (∀ y ∈ ys, P y) → Ws (k (.ref h0.length) (h0 ++ [.lst ys])) Q) : Ws ((lcL g mYes m wt e0 xs [] h).bind k) Q := by
  refine Ws.bind (Ws_lc (Q := fun v h' => ∃ h0 ys, J h0 ∧ ys.length = xs.length ∧ (∀ y ∈ ys, P y) ∧ v = .ref h0.length ∧ h' = h0 ++ [.lst ys]) (fun i acc h => i ≤ xs.length ∧ acc.length = i ∧ (∀ y ∈ acc, P y) ∧ J h) ⟨Nat.zero_le _, rfl, (fun _ z => nomatch z), j0⟩ (fun _ _ h q => hw h q.2.2.2) (fun i x acc h e ⟨hi, ea, ha, jh⟩ => ?_)
    fun acc h ⟨_, ea, ha, jh⟩ => ⟨h, acc, jh, ea, ha, rfl, rfl⟩) fun v h' ⟨h0, ys, j, l, p, e1, e2⟩ => by rw [e1, e2]; exact hd h0 ys j l p
  have hlt := (List.getElem?_eq_some_iff.mp e).1
  obtain ⟨e1, t1, w⟩ := hs x (List.mem_of_getElem? e) h jh
  refine ⟨e1, t1, ?_⟩
  rw [e_yes, Ws_ok, cond_true]
  refine w.mono fun y h' ⟨ey, jh'⟩ => ⟨by omega, hlt, by simp [ea], fun z hz => ?_, jh'⟩
  rcases List.mem_append.mp hz with q | q
  · exact ha z q
  · rw [List.mem_singleton.mp q]; exact ey
theorem eq_nil {is : List Int} {n m : Nat} (e : h[n]? = some (.lst (is.map PV.int))) (e2 : h[m]? = some (.lst [])) : opEq h (.ref n) (.ref m) = .ok (.bl is.isEmpty) h := by
  have mi : ∀ is : List Int, mapO (toD h 19) (is.map PV.int) = some (is.map PyData.int) := by
    intro is
    induction is with
    | nil => rfl
    | cons i r ih =>
      rw [List.map_cons]
      unfold mapO
      rw [show toD h 19 (.int i) = some (.int i) from rfl, ih]; rfl
  have d1 : toD h DEP (.ref n) = some (.list (is.map PyData.int)) := by
    have z : toD h (19 + 1) (.ref n) = _ := toD.eq_def ..
    rw [show DEP = 19 + 1 from rfl, z]
    simp only [e, mi]; rfl
  have d2 : toD h DEP (.ref m) = some (.list []) := by
    have z : toD h (19 + 1) (.ref m) = _ := toD.eq_def ..
    rw [show DEP = 19 + 1 from rfl, z]
    simp only [e2]; rfl
  have sh : ∀ is : List Int, PyData.canLayAll0 (is.map PyData.int) = true ∧ PyData.depthAll (is.map PyData.int) ≤ 1 := by
    intro is
    induction is with
    | nil => exact ⟨rfl, Nat.zero_le _⟩
    | cons i r ih => simp [PyData.canLayAll0, PyData.canLay0, PyData.depthAll, PyData.depth, ih]
  obtain ⟨s1, s2⟩ := sh is
  have s3 : SeqAt.shaped (.list (is.map PyData.int)) = true := by
    unfold SeqAt.shaped
    simp [PyData.canLay0, s1, PyData.depth]
    omega
  have s4 : SeqAt.shaped (.list []) = true := by rfl
  have ev : PyData.eqv (.list (is.map PyData.int)) (.list []) = is.isEmpty := by cases is <;> simp [PyData.eqv, PyData.eqvAll]
  unfold opEq by2
  rw [d1, d2]
  simp only [s3, s4, ev, Bool.and_self, cond_true]
end
end MC

end
section
set_option maxRecDepth 100000
set_option maxHeartbeats 4000000
namespace MC
open PySem L2
theorem ok_app {a b : Str} (ha : PyData.strOk a = true) (hb : PyData.strOk b = true) : PyData.strOk (a ++ b) = true := by
  unfold PyData.strOk at *
  show (a.cps ++ b.cps).all _ = true
  rw [Array.all_append, ha, hb]; rfl
theorem ok_text : ∀ (ts : List Str) (k : Nat) (acc : Str), PyData.strOk acc = true → (∀ t ∈ ts, PyData.strOk t = true) → PyData.strOk (textFrom k acc ts) = true
  | [], _, _, h, _ => h
  | t :: r, k, acc, h, ht => by
    have e : PyData.strOk ((if k > 0 then ", " else "" : String) : Str) = true := by split <;> decide +kernel
    exact ok_text r (k + 1) _ (ok_app (ok_app h e) (ht t List.mem_cons_self)) fun x hx => ht x (List.mem_cons_of_mem _ hx)
theorem ok_list (ts : List Str) (h : ∀ t ∈ ts, PyData.strOk t = true) : PyData.strOk (listText ts) = true := by
  unfold listText
  exact ok_app (ok_text ts 0 _ (by decide +kernel) h) (by decide +kernel)
theorem ok_reprC (q c : Nat) (hq : q = 34 ∨ q = 39) (hc : c ∈ [120, 121, 122]) : Builtin.Str.reprChar q c = [c] := by
  simp at hc
  rcases hq with rfl | rfl <;> rcases hc with rfl | rfl | rfl <;> decide +kernel
theorem ok_fold (q : Nat) (hq : q = 34 ∨ q = 39) : ∀ (s : List Nat) (acc : Array Nat), (∀ c ∈ s, c ∈ [120, 121, 122]) → acc.all (· < 0x110000) = true → (s.foldl (fun out c => out ++ (Builtin.Str.reprChar q c).toArray) acc).all (· < 0x110000) = true
  | [], _, _, h => h
  | c :: s, acc, hs, h => by
    have hc := hs c List.mem_cons_self
    rw [List.foldl_cons]
    refine ok_fold q hq s _ (fun d hd => hs d (List.mem_cons_of_mem _ hd)) ?_
    rw [ok_reprC q c hq hc, Array.all_append, h]
    simp at hc
    rcases hc with rfl | rfl | rfl <;> decide +kernel
theorem ok_repr (s : List Nat) (hs : ∀ c ∈ s, c ∈ [120, 121, 122]) : PyData.strOk (reprText (S s)) = true := by
  have hq : reprQuote (S s) = 34 ∨ reprQuote (S s) = 39 := by unfold reprQuote; split <;> simp
  have hq2 : decide (reprQuote (S s) < 0x110000) = true := by rcases hq with e | e <;> rw [e] <;> rfl
  unfold reprText PyData.strOk
  show (Array.push _ _).all _ = true
  have f : (S s).cps.foldl (fun out c => out ++ (Builtin.Str.reprChar (reprQuote (S s)) c).toArray) #[reprQuote (S s)] = s.foldl (fun out c => out ++ (Builtin.Str.reprChar (reprQuote (S s)) c).toArray) #[reprQuote (S s)] := by
    rw [← Array.foldl_toList]
    rfl
  rw [f]
  have a := ok_fold (reprQuote (S s)) hq s #[reprQuote (S s)] hs (by simpa using hq2)
  simp only [Array.all_push]
  rw [a, hq2]; rfl
theorem ok_rep2 (s : List Nat) (hs : ∀ c ∈ s, c ∈ [120, 121, 122]) : PyData.strOk (S (rep2 s)) = true := by
  unfold rep2
  rw [S_of]
  show PyData.strOk (listText [reprText (S s), reprText (S s)]) = true
  refine ok_list _ fun t ht => ?_
  simp at ht
  rw [ht]; exact ok_repr s hs
theorem ok_rep2b (b : Bool) : PyData.strOk (S (rep2b b)) = true := by
  unfold rep2b
  rw [S_of]
  cases b <;> decide +kernel
end MC

end
section
set_option maxRecDepth 100000
set_option maxHeartbeats 4000000
namespace MC
open PySem L2
mutual
/-- a value without objects, as data -/
def pd : PV → Option PyData
  | .non => some .none
  | .bl b => some (.bool b)
  | .int i => some (.int i)
  | .str s => some (.str (S s))
  | .tup xs => match pds xs with
    | some ds => some (.tuple ds)
    | none => none
  | _ => none
def pds : List PV → Option (List PyData)
  | [] => some []
  | x :: xs => match pd x, pds xs with
    | some d, some ds => some (d :: ds)
    | _, _ => none
end
mutual
/-- ints of fewer than K bits, signs that are signs; K bounds the texts -/
def pok (K : Nat) : PV → Bool
  | .non => true
  | .bl _ => true
  | .int i => decide (i.natAbs.log2 < K)
  | .str s => s.all fun c => decide (c < 1114112)
  | .tup xs => poks K xs
  | _ => false
def poks (K : Nat) : List PV → Bool
  | [] => true
  | x :: xs => pok K x && poks K xs
end
mutual
/-- how many nodes and signs -/
def pnd : PV → Nat
  | .str s => s.length + 1
  | .tup xs => pnds xs + 1
  | _ => 1
def pnds : List PV → Nat
  | [] => 0
  | x :: xs => pnd x + pnds xs
end
mutual
def pdp : PV → Nat
  | .tup xs => pdps xs + 1
  | _ => 0
def pdps : List PV → Nat
  | [] => 0
  | x :: xs => max (pdp x) (pdps xs)
end
theorem okA {cs : Array Nat} : PyData.strOk ⟨cs⟩ = true ↔ ∀ c ∈ cs.toList, c < 1114112 := by
  unfold PyData.strOk
  rw [← Array.all_toList, List.all_eq_true]
  simp
theorem ch_lt (c : Char) : c.toNat < 1114112 := by
  have h := c.valid
  simp only [UInt32.isValidChar, Nat.isValidChar] at h
  have : c.toNat = c.val.toNat := rfl
  omega
theorem ok_ofS (s : String) : PyData.strOk (Str.ofString s) = true := by
  rw [Str.ofString_eq_toList]
  refine okA.mpr fun c hc => ?_
  simp only [List.mem_map] at hc
  obtain ⟨d, _, rfl⟩ := hc
  exact ch_lt d
theorem rc_lt (q c : Nat) (hq : q < 1114112) (hc : c < 1114112) : ∀ d ∈ Builtin.Str.reprChar q c, d < 1114112 := by
  have dg : ∀ w : Nat, ∀ d ∈ (List.replicate (w - ((Nat.toDigits 16 c).map Char.toNat).length) 48 ++ (Nat.toDigits 16 c).map Char.toNat : List Nat), d < 1114112 := by
    intro w d hd
    rcases List.mem_append.mp hd with h | h
    · rw [List.eq_of_mem_replicate h]; decide
    · obtain ⟨x, _, rfl⟩ := List.mem_map.mp h
      exact ch_lt x
  intro d hd
  unfold Builtin.Str.reprChar at hd
  simp only at hd
  split at hd
  · simp at hd; omega
  split at hd
  · simp at hd; omega
  split at hd
  · simp at hd; omega
  split at hd
  · simp at hd; omega
  split at hd
  · simp at hd; omega
  split at hd
  · rcases List.mem_append.mp hd with h | h
    · simp at h; omega
    · exact dg 2 d h
  split at hd
  · rcases List.mem_append.mp hd with h | h
    · simp at h; omega
    · exact dg 4 d h
  · rcases List.mem_append.mp hd with h | h
    · simp at h; omega
    · exact dg 8 d h
theorem rfold_lt (q : Nat) (hq : q < 1114112) : ∀ (s : List Nat) (acc : Array Nat), (∀ c ∈ s, c < 1114112) → (∀ c ∈ acc.toList, c < 1114112) → ∀ c ∈ (s.foldl (fun out c => out ++ (Builtin.Str.reprChar q c).toArray) acc).toList, c < 1114112
  | [], _, _, h => h
  | c :: s, acc, hs, h => by
    rw [List.foldl_cons]
    refine rfold_lt q hq s _ (fun d hd => hs d (List.mem_cons_of_mem _ hd)) fun d hd => ?_
    rw [Array.toList_append] at hd
    rcases List.mem_append.mp hd with a | a
    · exact h d a
    · exact rc_lt q c hq (hs c List.mem_cons_self) d a
theorem ok_reprS (s : List Nat) (hs : ∀ c ∈ s, c < 1114112) : PyData.strOk (reprText (S s)) = true := by
  have hq : reprQuote (S s) < 1114112 := by unfold reprQuote; split <;> decide
  unfold reprText
  refine okA.mpr ?_
  have f : (S s).cps.foldl (fun out c => out ++ (Builtin.Str.reprChar (reprQuote (S s)) c).toArray) #[reprQuote (S s)] = s.foldl (fun out c => out ++ (Builtin.Str.reprChar (reprQuote (S s)) c).toArray) #[reprQuote (S s)] := by
    rw [← Array.foldl_toList]; rfl
  rw [f]
  intro c hc
  rw [Array.toList_push] at hc
  rcases List.mem_append.mp hc with h | h
  · exact rfold_lt _ hq s _ hs (by simpa using hq) c h
  · rw [List.mem_singleton.mp h]; exact hq
theorem ok_joinL (sep : Str) (hs : PyData.strOk sep = true) : ∀ ts : List Str, (∀ t ∈ ts, PyData.strOk t = true) → PyData.strOk (Str.join sep ts) = true
  | [], _ => (by decide +kernel : PyData.strOk Str.empty = true)
  | [t], h => h t List.mem_cons_self
  | t :: u :: r, h => ok_app (ok_app (h t List.mem_cons_self) hs) (ok_joinL sep hs (u :: r) fun y hy => h y (List.mem_cons_of_mem _ hy))
theorem ok_tuple (ts : List Str) (h : ∀ t ∈ ts, PyData.strOk t = true) : PyData.strOk (tupleText ts) = true := by
  unfold tupleText
  refine ok_app (ok_app (by decide +kernel) (ok_joinL _ (by decide +kernel) ts h)) ?_
  split <;> decide +kernel
/-- what is needed of data whose text is asked for -/
structure Good (K : Nat) (n : Nat) (d : PyData) : Prop where
  s1 : d.showable = true
  s2 : d.hasDict = false
  s3 : d.shown.length + 2 ≤ (K + 12) * n
  s4 : PyData.strOk d.shown = true
theorem int_len {i : Int} {K : Nat} (hK : 0 < K) (h : i.natAbs.log2 < K) : (PyData.shown (.int i)).length ≤ K + 1 := by
  rw [PyData.shown_int, Str.ofString_eq_toList]
  show (List.map Char.toNat (toString i).toList).toArray.size ≤ K + 1
  rw [List.size_toArray, List.length_map]
  exact int_text_length_le hK h
theorem sum_two (ts : List Str) : ((ts.map (·.length)).sum + 2 * ts.length) = (ts.map fun t => t.length + 2).sum := by
  induction ts with
  | nil => rfl
  | cons t r ih => simp only [List.map_cons, List.sum_cons, List.length_cons]; omega
mutual
theorem pd_good {K : Nat} (hK : 0 < K) (h2 : K ≤ 1920) : ∀ x : PV, pok K x = true → ∃ d, pd x = some d ∧ Good K (pnd x) d ∧ d.depth ≤ pdp x
  | .non, _ => ⟨_, rfl, ⟨rfl, rfl, by rw [PyData.shown_none]; show 4 + 2 ≤ (K + 12) * 1; omega, by decide +kernel⟩, Nat.le_refl _⟩
  | .bl b, _ => ⟨_, rfl, ⟨rfl, rfl, by
      have : (PyData.shown (.bool b)).length ≤ 5 := by cases b <;> decide
      show _ ≤ (K + 12) * 1
      omega, by cases b <;> decide +kernel⟩, Nat.le_refl _⟩
  | .int i, h => by
    have h1 : i.natAbs.log2 < K := by unfold pok at h; simpa using h
    have := int_len hK h1
    refine ⟨_, rfl, ⟨?_, rfl, by show _ ≤ (K + 12) * 1; omega, by rw [PyData.shown_int]; exact ok_ofS _⟩, Nat.le_refl _⟩
    simp [PyData.showable]; omega
  | .str s, h => by
    have h1 : ∀ c ∈ s, c < 1114112 := by unfold pok at h; simpa using h
    have := repr_str_le s h1
    refine ⟨_, rfl, ⟨rfl, rfl, ?_, by rw [PyData.shown_str]; exact ok_reprS s h1⟩, Nat.le_refl _⟩
    rw [PyData.shown_str]
    show _ ≤ (K + 12) * (s.length + 1)
    have q : 10 * s.length + 12 ≤ (K + 12) * (s.length + 1) := by
      have : 12 * (s.length + 1) ≤ (K + 12) * (s.length + 1) := Nat.mul_le_mul_right _ (by omega)
      omega
    omega
  | .tup xs, h => by
    obtain ⟨ds, e, g1, g2, g3, g4, g5⟩ := pds_good hK h2 xs (by unfold pok at h; exact h)
    refine ⟨.tuple ds, by simp [pd, e], ⟨by simpa [PyData.showable] using g1, by simpa [PyData.hasDict] using g2, ?_, ?_⟩, ?_⟩
    · have l := tupleText_len_le (PyData.shownAll ds)
      have s2 := sum_two (PyData.shownAll ds)
      show (tupleText (PyData.shownAll ds)).length + 2 ≤ (K + 12) * (pnds xs + 1)
      rw [Nat.mul_add]
      omega
    · show PyData.strOk (tupleText (PyData.shownAll ds)) = true
      exact ok_tuple _ g4
    · simp only [PyData.depth, pdp]; omega
theorem pds_good {K : Nat} (hK : 0 < K) (h2 : K ≤ 1920) : ∀ xs : List PV, poks K xs = true → ∃ ds, pds xs = some ds ∧ PyData.showableAll ds = true ∧ PyData.hasDictAll ds = false ∧ ((PyData.shownAll ds).map fun t => t.length + 2).sum ≤ (K + 12) * pnds xs ∧ (∀ t ∈ PyData.shownAll ds, PyData.strOk t = true) ∧ PyData.depthAll ds ≤ pdps xs
  | [], _ => ⟨[], rfl, rfl, rfl, Nat.le_refl _, (fun _ h => by simp [PyData.shownAll] at h), Nat.le_refl _⟩
  | x :: xs, h => by
    unfold poks at h
    rw [Bool.and_eq_true] at h
    obtain ⟨d, e, g, gd⟩ := pd_good hK h2 x h.1
    obtain ⟨ds, e2, g1, g2, g3, g4, g5⟩ := pds_good hK h2 xs h.2
    refine ⟨d :: ds, by simp [pds, e, e2], by simp [PyData.showableAll, g.s1, g1], by simp [PyData.hasDictAll, g.s2, g2], ?_, ?_, ?_⟩
    · simp only [PyData.shownAll, List.map_cons, List.sum_cons, pnds]
      have := g.s3
      rw [Nat.mul_add]
      omega
    · intro t ht
      simp only [PyData.shownAll] at ht
      rcases List.mem_cons.mp ht with rfl | q
      · exact g.s4
      · exact g4 t q
    · simp only [PyData.depthAll, pdps]; omega
end
theorem toD_pd (h : PH) : ∀ (n : Nat) (x : PV) (d : PyData), pd x = some d → pdp x < n → toD h n x = some d
  | 0, _, _, _, l => absurd l (Nat.not_lt_zero _)
  | n + 1, x, d, e, l => by
    have z : toD h (n + 1) x = _ := toD.eq_def ..
    rw [z]
    cases x with
    | non => simpa [pd] using e
    | bl b => simpa [pd] using e
    | int i => simpa [pd] using e
    | str s => simpa [pd] using e
    | tup xs =>
      have hh : ∀ xs : List PV, ∀ ds, pds xs = some ds → pdps xs < n → mapO (toD h n) xs = some ds := by
        intro xs
        induction xs with
        | nil => intro ds e _; simp only [pds] at e; rw [← Option.some.inj e]; rfl
        | cons y ys ih =>
          intro ds e l
          simp only [pdps] at l
          unfold pds at e
          cases e1 : pd y with
          | none => rw [e1] at e; cases e
          | some d1 =>
            cases e2 : pds ys with
            | none => simp only [e1, e2] at e; cases e
            | some ds1 =>
              simp only [e1, e2] at e
              unfold mapO
              rw [toD_pd h n y d1 e1 (by omega), ih ds1 e2 (by omega)]
              exact e
      unfold pd at e
      simp only [pdp] at l
      cases e1 : pds xs with
      | none => rw [e1] at e; cases e
      | some ds =>
        rw [e1] at e
        simp only [hh xs ds e1 (by omega)]
        exact e
    | scr xs => simp [pd] at e
    | rdic xs => simp [pd] at e
    | ins c fs => simp [pd] at e
    | ref m => simp [pd] at e
    | gl m => simp [pd] at e
theorem mapO_pds (h : PH) (n : Nat) : ∀ (xs : List PV) (ds : List PyData), pds xs = some ds → pdps xs < n → mapO (toD h n) xs = some ds
  | [], ds, e, _ => by simp only [pds] at e; rw [← Option.some.inj e]; rfl
  | y :: ys, ds, e, l => by
    simp only [pdps] at l
    unfold pds at e
    cases e1 : pd y with
    | none => rw [e1] at e; cases e
    | some d1 =>
      cases e2 : pds ys with
      | none => simp only [e1, e2] at e; cases e
      | some ds1 =>
        simp only [e1, e2] at e
        unfold mapO
        rw [toD_pd h n y d1 e1 (by omega), mapO_pds h n ys ds1 e2 (by omega)]
        exact e
/-- the text of a list of plain values -/
def repL (xs : List PV) : List Nat := match pds xs with
  | some ds => (PyData.shown (.list ds)).cps.toList
  | none => []
def repV (x : PV) : List Nat := match pd x with
  | some d => (PyData.shown d).cps.toList
  | none => []
section
variable {h : PH} {n K : Nat} {xs : List PV}
theorem repr_l (hK : 0 < K) (h2 : K ≤ 1920) (e : h[n]? = some (.lst xs)) (g : poks K xs = true) (gd : pdps xs < 19) (gs : (K + 12) * (pnds xs + 1) ≤ LIM) : bRepr h [.ref n] = .ok (.str (repL xs)) h := by
  obtain ⟨ds, e1, g1, g2, g3, g4, g5⟩ := pds_good hK h2 xs g
  have d : toD h DEP (.ref n) = some (.list ds) := by
    have z : toD h (19 + 1) (.ref n) = _ := toD.eq_def ..
    rw [show DEP = 19 + 1 from rfl, z]
    simp only [e, mapO_pds h 19 xs ds e1 gd]; rfl
  have l : (PyData.shown (.list ds)).length ≤ LIM := by
    have l := listText_len_le (PyData.shownAll ds)
    have s2 := sum_two (PyData.shownAll ds)
    refine Nat.le_trans ?_ gs
    show (listText (PyData.shownAll ds)).length ≤ _
    rw [Nat.mul_add]
    omega
  have r : reprD h (.ref n) = some (repL xs) := by
    unfold reprD
    rw [d]
    have dp : (PyData.list ds).depth ≤ 60 := by simp only [PyData.depth]; omega
    simp only [decide_eq_true l, decide_eq_true dp]
    simp [PyData.showable, g1, PyData.hasDict, g2, repL, e1]
  simp [bRepr, isRefV, r]
theorem ok_repL (hK : 0 < K) (h2 : K ≤ 1920) (g : poks K xs = true) : PyData.strOk (S (repL xs)) = true := by
  obtain ⟨ds, e1, g1, g2, g3, g4, g5⟩ := pds_good hK h2 xs g
  unfold repL
  simp only [e1, S_of]
  exact ok_list _ g4
theorem repr_v {ys : List PV} (hK : 0 < K) (h2 : K ≤ 1920) (g : pok K (.tup ys) = true) (gd : pdp (.tup ys) < 20) (gs : (K + 12) * (pnd (.tup ys) + 1) ≤ LIM) : bRepr h [.tup ys] = .ok (.str (repV (.tup ys))) h := by
  obtain ⟨d, e1, g, gd2⟩ := pd_good hK h2 (.tup ys) g
  have r : reprD h (.tup ys) = some (repV (.tup ys)) := by
    unfold reprD
    rw [toD_pd h DEP _ d e1 gd]
    have dp : d.depth ≤ 60 := by omega
    have l : d.shown.length ≤ LIM := by
      have := g.s3
      have := Nat.mul_le_mul_left (K + 12) (show pnd (.tup ys) ≤ pnd (.tup ys) + 1 by omega)
      omega
    simp only [decide_eq_true l, decide_eq_true dp]
    simp [g.s1, g.s2, repV, e1]
  simp [bRepr, isRefV, r]
theorem ok_repV {x : PV} (hK : 0 < K) (h2 : K ≤ 1920) (g : pok K x = true) : PyData.strOk (S (repV x)) = true := by
  obtain ⟨d, e1, g, _⟩ := pd_good hK h2 x g
  unfold repV
  simp only [e1, S_of]
  exact g.s4
end
end MC

end
section
set_option maxRecDepth 100000
set_option maxHeartbeats 4000000
namespace MC
open PySem L2
section
variable {m : MF} {xs as : List PV} {h g hc : PH} {u v : PV} {fp live : List Nat} {os ns : List PO}
theorem call_gen (r : reach h FUEL (refsVs xs) [] = some fp) (ra : renVs (idx fp) xs = some as) (rh : mapO (pick h (idx fp)) fp = some hc) (hm : m as hc = .ok v g)
    (rl : reach g FUEL (refsVs [v] ++ List.range fp.length) [] = some live) (rv : renVs (backF fp (newsOf fp live) h.length) [v] = some [u])
    (ro : mapO (pick g (backF fp (newsOf fp live) h.length)) (List.range fp.length) = some os) (rn : mapO (pick g (backF fp (newsOf fp live) h.length)) (newsOf fp live) = some ns) : callG takeBack m xs h = .ok u (setAll h fp os ++ ns) := by
  unfold callG
  simp only [r, ra, rh, hm]
  unfold takeBack takeL
  simp only [rl, rv, ro, rn]
/-- one list is handed over and stays, a new one comes back -/
theorem call_1n {j i : Nat} {ys zs : List PV} (hr : refsVs xs = [j]) (ha : renVs (idx [j]) xs = some as) (hj : h[j]? = some (.lst ys)) (hy : noRefs ys = true) (hm : m as [.lst ys] = .ok (.ref i) g) (hi : i ≠ 0) (hg0 : g[0]? = some (.lst ys)) (hg : g[i]? = some (.lst zs)) (hz : noRefs zs = true) :
    callG takeBack m xs h = .ok (.ref h.length) (h ++ [.lst zs]) := by
  obtain ⟨y1, y2⟩ := flatO_of hy
  obtain ⟨z1, z2⟩ := flatO_of hz
  have rl : reach g FUEL (refsVs [.ref i] ++ List.range [j].length) [] = some [i, 0] := by
    have : refsVs [PV.ref i] = [i] := by unfold refsVs refsV refsVs; rfl
    rw [this]
    exact reach2 hg z1 hg0 y1 hi
  have nw : newsOf [j] [i, 0] = [i] := by
    unfold newsOf
    rw [List.filter_cons, List.filter_cons]
    have : decide ([j].length ≤ i) = true := decide_eq_true (show 1 ≤ i by omega)
    rw [this]
    rfl
  have e := call_gen (m := m) (h := h) (xs := xs) (as := as) (v := .ref i) (u := .ref h.length) (fp := [j]) (hc := [.lst ys]) (live := [i, 0]) (os := [.lst ys]) (ns := [.lst zs]) (g := g) (by rw [hr]; exact reach1 hj y1) ha (by simp [mapO, pick, hj, y2]) hm rl
    (by
      rw [nw]; unfold renVs renV renVs
      have : backF [j] [i] h.length i = some h.length := by
        unfold backF
        have : decide (i < [j].length) = false := by simp; omega
        rw [this]; simp [idx_hd]
      rw [this])
    (by
      rw [nw]
      show mapO _ [0] = _
      simp [mapO, pick, hg0, y2])
    (by
      rw [nw]
      simp [mapO, pick, hg, z2])
  rw [e]
  have : setAll h [j] [PO.lst ys] = h := by
    show h.set j (PO.lst ys) = h
    obtain ⟨l, e⟩ := List.getElem?_eq_some_iff.mp hj
    rw [← e, List.set_getElem_self]
  rw [this]
theorem reach_flat : ∀ (js seen : List Nat) (f : Nat), js.length ≤ f → (∀ j ∈ js, ∃ ys, g[j]? = some (.lst ys) ∧ noRefs ys = true) → js.Nodup → (∀ j ∈ js, j ∉ seen) → reach g f js seen = some (seen ++ js)
  | [], seen, f, _, _, _, _ => by unfold reach; rw [List.append_nil]
  | j :: js, seen, 0, h, _, _, _ => by simp at h
  | j :: js, seen, f + 1, h, hj, nd, hs => by
    obtain ⟨ys, e, hy⟩ := hj j List.mem_cons_self
    unfold reach
    have c : seen.contains j = false := by
      have := hs j List.mem_cons_self
      simpa using this
    rw [c, cond_false, e]
    simp only [(flatO_of hy).1, List.nil_append]
    rw [reach_flat js (seen ++ [j]) f (by simpa using h) (fun x hx => hj x (List.mem_cons_of_mem _ hx)) (List.nodup_cons.mp nd).2 fun x hx => ?_]
    · simp
    · intro q
      rcases List.mem_append.mp q with q | q
      · exact hs x (List.mem_cons_of_mem _ hx) q
      · rw [List.mem_singleton.mp q] at hx
        exact (List.nodup_cons.mp nd).1 hx
theorem refs_map : ∀ js : List Nat, refsVs (js.map PV.ref) = js
  | [] => by unfold refsVs; rfl
  | j :: js => by
    rw [List.map_cons]
    unfold refsVs refsV
    rw [refs_map js]; rfl
theorem idx_at : ∀ {l : List Nat} {t n : Nat}, l.Nodup → l[t]? = some n → idx l n = some t
  | [], _, _, _, e => by simp at e
  | m :: r, 0, n, _, e => by
    have : m = n := by simpa using e
    subst this
    unfold idx; simp
  | m :: r, t + 1, n, nd, e => by
    have e : r[t]? = some n := by simpa using e
    have ne : m ≠ n := fun q => (List.nodup_cons.mp nd).1 (q ▸ List.mem_of_getElem? e)
    unfold idx
    rw [beq_eq_false_iff_ne.mpr ne, cond_false, idx_at (List.nodup_cons.mp nd).2 e]
theorem ren_map (f : Nat → Option Nat) : ∀ (js ks : List Nat), js.length = ks.length → (∀ (t j : Nat), js[t]? = some j → f j = ks[t]?) → renVs f (js.map PV.ref) = some (ks.map PV.ref)
  | [], [], _, _ => by unfold renVs; rfl
  | [], _ :: _, h, _ => by simp at h
  | _ :: _, [], h, _ => by simp at h
  | j :: js, k :: ks, h, hf => by
    have e0 : f j = some k := hf 0 j rfl
    rw [List.map_cons, List.map_cons]
    unfold renVs renV
    rw [e0, ren_map f js ks (by simpa using h) fun t x e => hf (t + 1) x e]
theorem mapO_flat {f : Nat → Option Nat} : ∀ {js : List Nat} {zss : List (List PV)}, js.length = zss.length → (∀ (t j : Nat), js[t]? = some j → ∃ zs, zss[t]? = some zs ∧ g[j]? = some (.lst zs) ∧ noRefs zs = true) → mapO (pick g f) js = some (zss.map PO.lst)
  | [], [], _, _ => rfl
  | [], _ :: _, h, _ => by simp at h
  | _ :: _, [], h, _ => by simp at h
  | j :: js, z :: zss, h, hf => by
    obtain ⟨zs, e1, e2, e3⟩ := hf 0 j rfl
    have e1 : z = zs := by simpa using e1
    subst e1
    unfold mapO
    rw [show pick g f j = some (.lst z) from by simp [pick, e2, (flatO_of e3).2], mapO_flat (by simpa using h) fun t x e => hf (t + 1) x e]
    rfl
/-- a list of lists in a heap -/
def LL (h : PH) (v : PV) (zss : List (List PV)) : Prop := ∃ (i : Nat) (js : List Nat), v = .ref i ∧ h[i]? = some (.lst (js.map PV.ref)) ∧ (i :: js).Nodup ∧ js.length = zss.length ∧ ∀ (t j : Nat), js[t]? = some j → ∃ zs, zss[t]? = some zs ∧ h[j]? = some (.lst zs) ∧ noRefs zs = true
/-- nothing is handed over, a list of lists comes back -/
theorem call_ll {zss : List (List PV)} (hx : noRefs xs = true) (hm : m xs [] = .ok v g) (hl : LL g v zss) (lz : zss.length ≤ 390) :
    ∃ h', callG takeBack m xs h = .ok (.ref h.length) (h ++ h') ∧ LL (h ++ h') (.ref h.length) zss := by
  obtain ⟨i, js, rfl, e0, nd, hlen, he⟩ := hl
  have hfl : ∀ j ∈ js, ∃ ys, g[j]? = some (.lst ys) ∧ noRefs ys = true := fun j hj => by
    obtain ⟨t, et⟩ := List.mem_iff_getElem?.mp hj
    obtain ⟨zs, _, q⟩ := he t j et
    exact ⟨zs, q⟩
  have nd2 := List.nodup_cons.mp nd
  have rl : reach g FUEL (refsVs [PV.ref i] ++ List.range ([] : List Nat).length) [] = some (i :: js) := by
    have : refsVs [PV.ref i] = [i] := by unfold refsVs refsV refsVs; rfl
    rw [this]
    show reach g (399 + 1) [i] [] = _
    unfold reach
    simp only [List.contains_nil, cond_false, e0, refsO, refs_map, List.append_nil, List.nil_append]
    exact reach_flat js [i] 399 (by omega) hfl nd2.2 fun x hx q => nd2.1 (List.mem_singleton.mp q ▸ hx)
  have nw : newsOf [] (i :: js) = i :: js := by
    unfold newsOf
    exact List.filter_eq_self.mpr fun a _ => by simp
  have bf : ∀ (t n : Nat), (i :: js)[t]? = some n → backF [] (i :: js) h.length n = some (h.length + t) := fun t n e => by
    unfold backF
    simp [idx_at nd e]
  have ks : List Nat := js
  have r0 : renVs (backF [] (i :: js) h.length) [PV.ref i] = some [.ref h.length] := by
    unfold renVs renV renVs
    rw [bf 0 i rfl]
    rfl
  have r1 : renVs (backF [] (i :: js) h.length) (js.map PV.ref) = some (((List.range js.length).map fun t => h.length + (t + 1)).map PV.ref) := by
    refine ren_map _ _ _ (by simp) fun t j e => ?_
    rw [bf (t + 1) j (by simpa using e)]
    have hlt := (List.getElem?_eq_some_iff.mp e).1
    rw [List.getElem?_map, List.getElem?_range hlt]; rfl
  have e := call_gen (m := m) (h := h) (xs := xs) (as := xs) (v := .ref i) (u := .ref h.length) (fp := []) (hc := []) (live := i :: js) (os := []) (ns := .lst (((List.range js.length).map fun t => h.length + (t + 1)).map PV.ref) :: zss.map PO.lst) (g := g) (by rw [refss_no xs hx]; exact reach0 h) (rens_no _ xs hx) rfl hm rl
    (by rw [nw]; exact r0) rfl (by
      rw [nw]
      unfold mapO
      rw [show pick g (backF [] (i :: js) h.length) i = some (.lst (((List.range js.length).map fun t => h.length + (t + 1)).map PV.ref)) from by simp only [pick, e0, renO, r1], mapO_flat hlen he])
  refine ⟨_, e, h.length, (List.range js.length).map fun t => h.length + (t + 1), rfl, ?_, ?_, by simpa using hlen, ?_⟩
  · show (h ++ _)[h.length]? = _
    simp
  · refine List.nodup_cons.mpr ⟨fun q => ?_, ?_⟩
    · obtain ⟨t, _, e⟩ := List.mem_map.mp q
      omega
    · exact (List.nodup_range).map _ fun a b hab => by omega
  · intro t j ej
    rw [List.getElem?_map] at ej
    obtain ⟨s, es, rfl⟩ := Option.map_eq_some_iff.mp ej
    have hlt : s < js.length := by
      have := List.mem_of_getElem? es
      exact List.mem_range.mp this
    have : s = t := by
      have hl := (List.getElem?_eq_some_iff.mp es)
      obtain ⟨hl, q⟩ := hl
      simpa using q.symm
    subst this
    obtain ⟨zs, q1, q2, q3⟩ := he s js[s] (List.getElem?_eq_getElem hlt)
    refine ⟨zs, q1, ?_, q3⟩
    show (h ++ _)[h.length + (s + 1)]? = _
    rw [List.getElem?_append_right (by omega)]
    have : h.length + (s + 1) - h.length = s + 1 := by omega
    rw [this, List.getElem?_cons_succ, List.getElem?_map, q1]; rfl
end
end MC

end
section
set_option maxRecDepth 100000
set_option maxHeartbeats 4000000
namespace MM
open PySem L2 MC
theorem between_ok (v a b : Int) : m_is_between [.int v, .int a, .int b] [] = .ok (.bl (decide (a ≤ v) && decide (v ≤ b))) [] := by
  unfold m_is_between
  by_cases h1 : a ≤ v <;> by_cases h2 : v ≤ b <;> simp [b_is_between, kindP, isiT, tb_int, tb_bool, List.lookup, h1, h2]
theorem between_c (v a b : Int) (h : PH) : callG takeBack m_is_between [.int v, .int a, .int b] h = .ok (.bl (decide (a ≤ v) && decide (v ≤ b))) h :=
  call_pure rfl (between_ok v a b) rfl
def gl (n : Int) (v : PV) : Prop := v = .non ∨ ∃ i, v = .int i ∧ 0 ≤ i ∧ i < n
theorem goal_c (v : PV) (n : Int) (g : gl n v) (h : PH) : callG takeBack m_is_goal [v, .int n] h = .ok (.bl true) h := by
  have : m_is_goal [v, .int n] [] = .ok (.bl true) [] := by
    unfold m_is_goal
    rcases g with rfl | ⟨i, rfl, h0, h1⟩
    · simp [b_is_goal, MC.isNon]
    · simp [b_is_goal, MC.isNon, between_c, h0, show i ≤ n - 1 by omega]
  rcases g with rfl | ⟨i, rfl, _⟩ <;> exact call_pure rfl this rfl
def rowOk (n : Int) (L : Nat) (x : PV) : Prop := ∃ gs, x = .tup gs ∧ gs.length = L ∧ ∀ g ∈ gs, gl n g
theorem num_at {xs : List PV} {i : Nat} {p : PV} (e : (numbered 0 xs)[i]? = some p) : ∃ x, xs[i]? = some x ∧ p = .tup [.int (i : Nat), x] := by
  rw [numbered_get] at e
  split at e
  · rename_i x ex
    cases e
    exact ⟨x, ex, by rw [Nat.zero_add]⟩
  · cases e
theorem map_true (gs : List PV) : gs.map (fun _ => PV.bl true) = List.replicate gs.length (.bl true) := by
  rw [List.map_const']
theorem wrong_arrows_w (rows : List PV) (L : Nat) (hL : L ≤ 5) (hr : ∀ r ∈ rows, rowOk rows.length L r) : Ws (m_wrong_arrows [.tup rows, .int L] []) fun v _ => v = .non := by
  unfold m_wrong_arrows
  simp [b_wrong_arrows]
  refine forB (fun i e h => ∃ x y z, e = [some (.tup rows), some (.int L), x, y, z]) ⟨_, _, _, rfl⟩ (fun _ _ _ _ => rfl) (fun i p env h hp ⟨x, y, z, ee⟩ => ?_) fun env h ⟨x, y, z, ee⟩ => ?_
  · subst ee
    obtain ⟨r, hr0, rfl⟩ := num_at hp
    obtain ⟨gs, rfl, hgl, hg⟩ := hr r (List.mem_of_getElem? hr0)
    simp [isiT, tb_tuple, List.lookup, hgl]
    refine mapB (fun _ => .bl true) (fun _ => True) trivial (by rw [hgl]; exact Nat.le_trans hL (by decide)) (fun g hg0 h _ => ⟨_, rfl, ?_⟩) fun h0 _ => ?_
    · simp [wipeE, goal_c g _ (hg g hg0)]
    · simp [map_true, all_last (bls_true _)]
  · subst ee; simp
theorem rows_noref : ∀ {rows : List PV} {n : Int} {L : Nat}, (∀ r ∈ rows, rowOk n L r) → noRefs rows = true := by
  intro rows n L hr
  have gls : ∀ gs : List PV, (∀ g ∈ gs, gl n g) → noRefs gs = true := by
    intro gs
    induction gs with
    | nil => intro _; rfl
    | cons g gs ih =>
      intro hg
      unfold noRefs
      rw [ih fun x hx => hg x (List.mem_cons_of_mem _ hx), Bool.and_true]
      rcases hg g List.mem_cons_self with rfl | ⟨i, rfl, _⟩ <;> rfl
  induction rows with
  | nil => rfl
  | cons r rs ih =>
    unfold noRefs
    rw [ih fun x hx => hr x (List.mem_cons_of_mem _ hx), Bool.and_true]
    obtain ⟨gs, rfl, _, hg⟩ := hr r List.mem_cons_self
    unfold noRef
    exact gls gs hg
theorem ints_noref : ∀ is : List Int, noRefs (is.map PV.int) = true
  | [] => rfl
  | i :: is => by
    rw [List.map_cons]
    unfold noRefs
    rw [ints_noref is]; rfl
theorem wrong_arrows_c (rows : List PV) (L : Nat) (hL : L ≤ 5) (hr : ∀ r ∈ rows, rowOk rows.length L r) (h : PH) : callG takeBack m_wrong_arrows [.tup rows, .int L] h = .ok .non h :=
  call_pureW (by simp [noRefs, noRef, rows_noref hr]) (wrong_arrows_w rows L hL hr) rfl
/-- the ends: ever greater, within the stands -/
def endsOk (n : Int) (is : List Int) : Prop := is.Pairwise (· < ·) ∧ ∀ i ∈ is, 0 ≤ i ∧ i < n
theorem wrong_end_w (is : List Int) (n : Int) (hi : endsOk n is) : Ws (m_wrong_end [.tup (is.map PV.int), .int n] []) fun v _ => v = .non := by
  unfold m_wrong_end
  simp [b_wrong_end]
  refine forB (fun j e h => ∃ l y z, e = [some (.tup (is.map PV.int)), some (.int n), some (.int l), y, z] ∧ ∀ k v, j ≤ k → is[k]? = some v → l < v) ⟨-1, _, _, rfl, fun k v _ e => ?_⟩ (fun _ _ _ _ => rfl) (fun j p env h hp ⟨l, y, z, ee, hl⟩ => ?_) fun env h ⟨l, y, z, ee, _⟩ => ?_
  · have := hi.2 v (List.mem_of_getElem? e); omega
  · subst ee
    obtain ⟨r, hr0, rfl⟩ := num_at hp
    rw [List.getElem?_map] at hr0
    obtain ⟨v, hv, rfl⟩ := Option.map_eq_some_iff.mp hr0
    have b1 := hi.2 v (List.mem_of_getElem? hv)
    have b2 := hl j v (Nat.le_refl _) hv
    simp [between_c, show 0 ≤ v from b1.1, show v ≤ n - 1 by omega, show ¬ v ≤ l by omega]
    intro k u hk hu
    obtain ⟨l1, e1⟩ := List.getElem?_eq_some_iff.mp hv
    obtain ⟨l2, e2⟩ := List.getElem?_eq_some_iff.mp hu
    have := List.pairwise_iff_getElem.mp hi.1 j k l1 l2 (by omega)
    rw [e1, e2] at this
    exact this
  · subst ee; simp
theorem wrong_end_c (is : List Int) (n : Int) (hi : endsOk n is) (h : PH) : callG takeBack m_wrong_end [.tup (is.map PV.int), .int n] h = .ok .non h :=
  call_pureW (by simp [noRefs, noRef, ints_noref]) (wrong_end_w is n hi) rfl
/-- a machine's value -/
def mach (L : Nat) (rows : List PV) (is : List Int) : PV := .ins 0 [([108, 101, 116, 116, 101, 114, 115], .int L), ([97, 114, 114, 111, 119, 115], .tup rows), ([101, 110, 100, 115], .tup (is.map PV.int))]
structure MachOk (L : Nat) (rows : List PV) (is : List Int) : Prop where
  l1 : 1 ≤ L
  l5 : L ≤ 5
  n1 : 1 ≤ rows.length
  n8 : rows.length ≤ 8
  rws : ∀ r ∈ rows, rowOk rows.length L r
  ends : endsOk rows.length is
theorem init_w (L : Nat) (rows : List PV) (is : List Int) (ok : MachOk L rows is) : Ws (m_Machine___init__ [.ref 0, .int L, .tup rows, .tup (is.map PV.int)] [.ins 0 []]) fun v g => v = .non ∧ g[0]? = some (.ins 0 [([108, 101, 116, 116, 101, 114, 115], .int L), ([97, 114, 114, 111, 119, 115], .tup rows), ([101, 110, 100, 115], .tup (is.map PV.int))]) := by
  have hL : 1 ≤ (L : Int) ∧ (L : Int) ≤ 5 := ⟨by have := ok.l1; omega, by have := ok.l5; omega⟩
  have hn : 1 ≤ (rows.length : Int) ∧ (rows.length : Int) ≤ 8 := ⟨by have := ok.n1; omega, by have := ok.n8; omega⟩
  unfold m_Machine___init__
  simp [b_Machine___init__, between_c, hL.1, hL.2, hn.1, hn.2, isiT, tb_tuple, List.lookup, wrong_arrows_c rows L ok.l5 ok.rws, wrong_end_c is _ ok.ends, cs_letters, cs_arrows, cs_ends, putP]
theorem make_c (L : Nat) (rows : List PV) (is : List Int) (ok : MachOk L rows is) (h : PH) : callG takeFrz (initM 0 m_Machine___init__ [0, 1, 2, 3] []) [.int L, .tup rows, .tup (is.map PV.int)] h = .ok (mach L rows is) h := by
  have r1 := rows_noref ok.rws
  obtain ⟨v, g, e, rfl, hg⟩ := init_w L rows is ok
  refine call_frz (i := 0) (g := g) (by simp [noRefs, noRef, r1, ints_noref]) ?_ hg (by simp [noRefs, noRef, r1, ints_noref])
  unfold initM
  simp [e]
theorem strs_noref : ∀ ws : List (List Nat), noRefs (ws.map PV.str) = true
  | [] => rfl
  | w :: ws => by
    rw [List.map_cons]
    unfold noRefs
    rw [strs_noref ws]; rfl
theorem signs_true (s : List Nat) : (signsOf s).map (fun _ => PV.bl true) = List.replicate s.length (.bl true) := by
  rw [List.map_const']
  unfold signsOf
  rw [List.length_map]
theorem mem_signs {s : List Nat} {x : PV} (h : x ∈ signsOf s) : ∃ c ∈ s, x = .str [c] := by
  obtain ⟨c, hc, e⟩ := List.mem_map.mp h
  exact ⟨c, hc, e.symm⟩
theorem lim_of {n : Nat} (h : n ≤ 1000) : n ≤ LIM := Nat.le_trans h (by decide)
section
variable {L : Nat} {rows : List PV} {is : List Int} {ws us : List (List Nat)}
theorem mach_noref (ok : MachOk L rows is) : noRef (mach L rows is) = true := by
  simp [mach, noRef, noRefF, noRefs, rows_noref ok.rws, ints_noref]
theorem check_machine_c (ok : MachOk L rows is) (h : PH) : callG takeBack m_check_machine [mach L rows is] h = .ok .non h := by
  refine call_pureW (by simp [noRefs, mach_noref ok]) ?_ rfl
  unfold m_check_machine
  simp [b_check_machine, mach, isiT, cs_isi_Machine, List.lookup]
end
end MM

end
section
set_option maxRecDepth 100000
set_option maxHeartbeats 4000000
namespace MC
open PySem L2
section
variable {β : Type} {h : PH} {n : Nat}
theorem filtW {g : Tg} {t : MT} {m : ME} {e0 : En} {wt : Wt} {Q : β → PH → Prop} {k : PV → PH → R β} (p : PV → Bool) (f : PV → PV) (J : PH → Prop) {xs : List PV} (hw : ∀ h, J h → watch wt h = true) (j0 : J h) (hl : xs.length ≤ LIM)
    (hs : ∀ x ∈ xs, ∀ h, J h → ∃ e, tgM g x e0 = some e ∧ Ws (t e h) fun c h1 => c = p x ∧ J h1 ∧ (p x = true → Ws (m e h1) fun y h2 => y = f x ∧ J h2))
    (hd : ∀ h0, J h0 → Ws (k (.ref h0.length) (h0 ++ [.lst ((xs.filter p).map f)])) Q) : Ws ((lcL g t m wt e0 xs [] h).bind k) Q := by
  refine Ws.bind (Ws_lc (Q := fun v h' => ∃ h0, J h0 ∧ v = .ref h0.length ∧ h' = h0 ++ [.lst ((xs.filter p).map f)]) (fun i acc h => i ≤ xs.length ∧ acc = ((xs.take i).filter p).map f ∧ J h) ⟨Nat.zero_le _, rfl, j0⟩ (fun _ _ h ⟨_, _, j⟩ => hw h j) (fun i x acc h e ⟨hi, ea, jh⟩ => ?_) fun acc h ⟨_, ea, jh⟩ => ?_) fun v h' ⟨h0, j, e1, e2⟩ => by rw [e1, e2]; exact hd h0 j
  · have hlt := (List.getElem?_eq_some_iff.mp e).1
    obtain ⟨e1, t1, w⟩ := hs x (List.mem_of_getElem? e) h jh
    refine ⟨e1, t1, w.mono fun c h1 ⟨ec, j1, w2⟩ => ?_⟩
    have tk : ((xs.take (i + 1)).filter p).map f = ((xs.take i).filter p).map f ++ (if p x then [f x] else []) := by
      rw [List.take_add_one, e, List.filter_append, List.map_append]
      cases q : p x <;> simp [q]
    subst ec
    cases q : p x with
    | false => exact ⟨hlt, by rw [tk, q, ea]; simp, j1⟩
    | true =>
      refine (w2 q).mono fun y h2 ⟨ey, j2⟩ => ⟨?_, hlt, by rw [tk, q, ea, ey]; simp, j2⟩
      have : ((xs.take i).filter p).length ≤ (xs.take i).length := List.length_filter_le ..
      rw [ea, List.length_map]
      rw [List.length_take] at this
      omega
  · subst ea
    rw [List.take_length]
    exact ⟨h, jh, rfl, rfl⟩
theorem ints_map : ∀ is : List Int, intsP (is.map PV.int) = some is
  | [] => rfl
  | i :: is => by simp [intsP, ints_map is]
theorem sum_last {is : List Int} : bSum (h ++ [.lst (is.map PV.int)]) [.ref h.length] = .ok (.int is.sum) (h ++ [.lst (is.map PV.int)]) := by
  have : lstP (h ++ [PO.lst (is.map PV.int)]) (.ref h.length) = some (is.map PV.int) := by simp [lstP]
  simp only [bSum, this, ints_map]
theorem in_ints {k : Int} {is : List Int} : opIn false h (.int k) (.tup (is.map PV.int)) = .ok (.bl (decide (k ∈ is))) h := by
  have m : ∀ is : List Int, mapO (toD h DEP) (is.map PV.int) = some (is.map PyData.int) := by
    intro is
    induction is with
    | nil => rfl
    | cons i r ih =>
      rw [List.map_cons]
      unfold mapO
      rw [show toD h DEP (.int i) = some (.int i) from rfl, ih]; rfl
  have c : ∀ is : List Int, PyData.canLayAll0 (is.map PyData.int) = true := by
    intro is
    induction is with
    | nil => rfl
    | cons i r ih => simp [PyData.canLayAll0, PyData.canLay0, ih]
  have a : ((is.map PyData.int).any fun z => PyData.eqv z (.int k)) = decide (k ∈ is) := by
    induction is with
    | nil => rfl
    | cons i r ih =>
      rw [List.map_cons, List.any_cons, ih]
      by_cases e : i = k
      · subst e; simp [PyData.eqv]
      · have e2 : ¬ k = i := fun q => e q.symm
        simp [PyData.eqv, e, e2]
  show inItems false h (.int k) (is.map PV.int) = _
  unfold inItems
  rw [m, show toD h DEP (.int k) = some (.int k) from rfl]
  have s : SeqAt.shaped (.int k) = true := by simp [SeqAt.shaped, PyData.canLay0, PyData.depth]
  simp only [s, c, a, Bool.and_self, cond_true, negB, cond_false]
theorem app_c {xs : List PV} {v : PV} (e : h[n]? = some (.lst xs)) (hl : xs.length < LIM) : oAppend h [.ref n, v] = .ok .non (h.set n (.lst (xs ++ [v]))) := by
  simp only [oAppend, e, decide_eq_true hl, cond_true]
theorem len_seqI {n : Nat} : (seqI 0 n).length = n := by unfold seqI; rw [List.length_map, List.length_range]
theorem at_seqI {n t : Nat} {x : PV} (e : (seqI 0 n)[t]? = some x) : t < n ∧ x = .int t := by
  have hl := (List.getElem?_eq_some_iff.mp e).1
  rw [len_seqI] at hl
  unfold seqI at e
  rw [List.getElem?_map, List.getElem?_range hl] at e
  cases e
  exact ⟨hl, by simp⟩
theorem mem_seqI {n : Nat} {x : PV} (h : x ∈ seqI 0 n) : ∃ i : Nat, i < n ∧ x = .int i := by
  unfold seqI at h
  obtain ⟨i, hi, e⟩ := List.mem_map.mp h
  exact ⟨i, List.mem_range.mp hi, by rw [← e]; simp⟩
theorem inR_small {i : Int} (h0 : 0 ≤ i) (h1 : i ≤ 1000) : inR i = true := by unfold inR L62; simp; omega
theorem ix_last {xs : List PV} {x : PV} (e0 : h[n]? = some (.lst (xs ++ [x]))) : opIx h (.ref n) (.int (-1)) = .ok x h := by
  have : opIx h (.ref n) (.int (-1)) = ixL h (xs ++ [x]) (.int (-1)) := by simp [opIx, e0]
  rw [this]
  have z : L2.atI (xs ++ [x]) (-1) = some x := by
    unfold L2.atI
    have : ixN (xs ++ [x]).length (-1) = some xs.length := by unfold ixN; simp; omega
    rw [this]; simp
  show (match L2.atI (xs ++ [x]) (-1) with
    | some v => R.ok v h
    | none => .stuck) = _
  rw [z]
end
end MC
namespace MM
open PySem L2 MC
def ov : Option Nat → PV
  | none => .non
  | some g => .int g
def rowV (r : List (Option Nat)) : PV := .tup (r.map ov)
def rowsV (rs : List (List (Option Nat))) : List PV := rs.map rowV
def enI (es : List Nat) : List Int := es.map fun (e : Nat) => (e : Int)
def gsOf (rs : List (List (Option Nat))) (k : Nat) : List Nat := ((rs[k]?).getD []).filterMap id
/-- how many rows of t letters lead from stand k to an end -/
def Bt (rs : List (List (Option Nat))) (es : List Nat) : Nat → Nat → Nat
  | 0, k => if k ∈ es then 1 else 0
  | t + 1, k => ((gsOf rs k).map (Bt rs es t)).sum
def cnts (rs : List (List (Option Nat))) (es : List Nat) (t : Nat) : List PV := (List.range rs.length).map fun k => .int (Bt rs es t k)
section
variable {L : Nat} {rs : List (List (Option Nat))} {es : List Nat}
theorem rowsV_len : (rowsV rs).length = rs.length := by unfold rowsV; rw [List.length_map]
theorem cnts_noref (t : Nat) : noRefs (cnts rs es t) = true := by
  have := ints_noref ((List.range rs.length).map fun k => (Bt rs es t k : Int))
  unfold cnts
  rw [List.map_map] at this
  exact this
/-- a good machine, as data -/
def TO (L : Nat) (rs : List (List (Option Nat))) (es : List Nat) : Prop := MachOk L (rowsV rs) (enI es)
def mk (L : Nat) (rs : List (List (Option Nat))) (es : List Nat) : PV := mach L (rowsV rs) (enI es)
theorem TO.row (o : TO L rs es) {k : Nat} {r : List (Option Nat)} (e : rs[k]? = some r) : r.length = L ∧ ∀ g, some g ∈ r → g < rs.length := by
  have := o.rws (rowV r) (by unfold rowsV; exact List.mem_map.mpr ⟨r, List.mem_of_getElem? e, rfl⟩)
  obtain ⟨gs, q1, q2, q3⟩ := this
  have q1 : r.map ov = gs := by
    unfold rowV at q1
    exact PV.tup.inj q1
  subst q1
  refine ⟨by simpa using q2, fun g hg => ?_⟩
  have := q3 (ov (some g)) (List.mem_map.mpr ⟨_, hg, rfl⟩)
  rw [rowsV_len] at this
  rcases this with q | ⟨i, q, a, b⟩
  · cases q
  · have : (g : Int) = i := by unfold ov at q; exact PV.int.inj q
    omega
theorem TO.goals (o : TO L rs es) (k : Nat) : (gsOf rs k).length ≤ 5 ∧ ∀ g ∈ gsOf rs k, g < rs.length := by
  unfold gsOf
  cases e : rs[k]? with
  | none => exact ⟨Nat.zero_le _, fun _ h => nomatch h⟩
  | some r =>
    obtain ⟨l, h⟩ := o.row e
    refine ⟨?_, fun g hg => ?_⟩
    · have := List.length_filterMap_le id r
      have := o.l5
      show (r.filterMap id).length ≤ 5
      omega
    · obtain ⟨x, hx, q⟩ := List.mem_filterMap.mp hg
      have : x = some g := q
      exact h g (this ▸ hx)
theorem Bt_le (o : TO L rs es) : ∀ t k, Bt rs es t k ≤ 5 ^ t
  | 0, k => by unfold Bt; split <;> decide
  | t + 1, k => by
    obtain ⟨l, _⟩ := o.goals k
    have : ∀ gs : List Nat, (gs.map (Bt rs es t)).sum ≤ gs.length * 5 ^ t := by
      intro gs
      induction gs with
      | nil => simp
      | cons g gs ih =>
        have := Bt_le o t g
        rw [List.map_cons, List.sum_cons, List.length_cons, Nat.add_mul]
        omega
    have h1 := this (gsOf rs k)
    have h2 : (gsOf rs k).length * 5 ^ t ≤ 5 * 5 ^ t := Nat.mul_le_mul_right _ l
    unfold Bt
    rw [Nat.pow_succ, Nat.mul_comm]
    omega
theorem en_mem {k : Nat} : ((k : Int) ∈ enI es) ↔ k ∈ es := by
  unfold enI
  rw [List.mem_map]
  exact ⟨fun ⟨a, h, e⟩ => by have : a = k := by omega
                             exact this ▸ h, fun h => ⟨k, h, rfl⟩⟩
theorem end_counts_c (o : TO L rs es) (h : PH) : callG takeBack m_end_counts [mk L rs es] h = .ok (.ref h.length) (h ++ [.lst (cnts rs es 0)]) := by
  have nm : noRef (mk L rs es) = true := mach_noref o
  have n8 : rs.length ≤ 8 := by have := o.n8; rw [rowsV_len] at this; exact this
  have w : Ws (m_end_counts [mk L rs es] []) fun v g => v = .ref 0 ∧ g = [.lst (cnts rs es 0)] := by
    unfold m_end_counts
    simp [b_end_counts, mk, mach, cs_arrows, lookF, rowsV_len, inR_small (i := (rs.length : Int)) (by omega) (by omega)]
    refine mapB (fun x => match x with
      | .int i => .int (if i ∈ enI es then 1 else 0)
      | _ => .non) (fun h => h = []) rfl (by rw [len_seqI]; exact lim_of (by omega)) (fun x hx h e => ?_) fun h0 e => ?_
    · subst e
      obtain ⟨k, hk, rfl⟩ := mem_seqI hx
      refine ⟨_, rfl, ?_⟩
      by_cases q : (k : Int) ∈ enI es <;> simp [wipeE, cs_ends, lookF, in_ints, q]
    · subst e
      simp
      unfold seqI cnts
      rw [List.map_map]
      refine List.map_congr_left fun k hk => ?_
      show PV.int (if (0 + (k : Int)) ∈ enI es then 1 else 0) = _
      rw [Int.zero_add]
      unfold Bt
      by_cases q : k ∈ es
      · rw [if_pos (en_mem.mpr q), if_pos q]; rfl
      · rw [if_neg (fun z => q (en_mem.mp z)), if_neg q]; rfl
  obtain ⟨v, g, e, rfl, rfl⟩ := w
  exact call_newl (i := 0) (ys := cnts rs es 0) (by simp [noRefs, nm]) e rfl (cnts_noref 0)
theorem sum_nat (f : Nat → Nat) : ∀ l : List Nat, (l.map fun g => ((f g : Nat) : Int)).sum = (((l.map f).sum : Nat) : Int)
  | [] => rfl
  | a :: l => by simp [sum_nat f l]
theorem filt_row (f : PV → Int) (F : Nat → Nat) (hf : ∀ g : Nat, f (.int g) = F g) : ∀ r : List (Option Nat), (((r.map ov).filter fun x => !MC.isNon x).map f).sum = ((((r.filterMap id).map F).sum : Nat) : Int)
  | [] => rfl
  | none :: r => by
    have := filt_row f F hf r
    simpa [ov] using this
  | some g :: r => by
    have := filt_row f F hf r
    simp [ov, hf, this]
def bI (rs : List (List (Option Nat))) (es : List Nat) (t : Nat) (x : PV) : Int := match x with
  | .int i => ((Bt rs es t i.toNat : Nat) : Int)
  | _ => 0
theorem counts_before_c (o : TO L rs es) {t j : Nat} {h : PH} (hj : h[j]? = some (.lst (cnts rs es t))) : callG takeBack m_counts_before [mk L rs es, .ref j] h = .ok (.ref h.length) (h ++ [.lst (cnts rs es (t + 1))]) := by
  have nm : noRef (mk L rs es) = true := mach_noref o
  have n8 : rs.length ≤ 8 := by have := o.n8; rw [rowsV_len] at this; exact this
  have w : Ws (m_counts_before [mk L rs es, .ref 0] [.lst (cnts rs es t)]) fun v g => v = .ref 1 ∧ g[0]? = some (.lst (cnts rs es t)) ∧ g[1]? = some (.lst (cnts rs es (t + 1))) := by
    unfold m_counts_before
    simp [b_counts_before, mk, mach, cs_arrows, lookF, LIM]
    refine forB (fun i e h => ∃ x y, e = [some (mach L (rowsV rs) (enI es)), some (.ref 0), some (.ref 1), x, y] ∧ h[0]? = some (.lst (cnts rs es t)) ∧ h[1]? = some (.lst ((cnts rs es (t + 1)).take i))) ⟨_, _, rfl, rfl, by simp⟩ (fun _ _ _ _ => rfl) (fun i x env h hx ⟨y, z, ee, h0, h1⟩ => ?_) fun env h ⟨y, z, ee, h0, h1⟩ => ?_
    · subst ee
      unfold rowsV at hx
      rw [List.getElem?_map] at hx
      obtain ⟨r, hr, rfl⟩ := Option.map_eq_some_iff.mp hx
      obtain ⟨lr, hg⟩ := o.row hr
      have hi := (List.getElem?_eq_some_iff.mp hr).1
      simp [ty_lst h1, rowV]
      refine filtW (fun x => !MC.isNon x) (fun x => .int (bI rs es t x)) (fun h => h[0]? = some (.lst (cnts rs es t)) ∧ h[1]? = some (.lst ((cnts rs es (t + 1)).take i))) (fun _ _ => rfl) ⟨h0, h1⟩ (by rw [List.length_map]; exact lim_of (by have := o.l5; omega)) (fun x hx h ⟨g0, g1⟩ => ?_) fun h3 ⟨g0, g1⟩ => ?_
      · obtain ⟨a, ha, rfl⟩ := List.mem_map.mp hx
        refine ⟨_, rfl, ?_⟩
        cases a with
        | none => simp [wipeE, ov, MC.isNon, g0, g1]
        | some a =>
          have hl := hg a ha
          have e1 : (cnts rs es t)[a]? = some (.int (Bt rs es t a)) := by
            unfold cnts
            rw [List.getElem?_map, List.getElem?_range hl]; rfl
          simp [wipeE, ov, MC.isNon, ix_ref g0 e1, g0, g1, bI]
      · have e2 := filt_row (bI rs es t) (Bt rs es t) (fun g => by simp [bI]) r
        have e : (((r.map ov).filter fun x => !MC.isNon x).map fun x => PV.int (bI rs es t x)) = (((r.map ov).filter fun x => !MC.isNon x).map (bI rs es t)).map PV.int := by rw [List.map_map]; rfl
        rw [e]
        have sl := sum_last (h := h3) (is := ((r.map ov).filter fun x => !MC.isNon x).map (bI rs es t))
        rw [e2] at sl
        have es' : gsOf rs i = r.filterMap id := by unfold gsOf; rw [hr]; rfl
        have lt : (List.take i (cnts rs es (t + 1))).length < LIM := by
          rw [List.length_take]
          exact Nat.lt_of_le_of_lt (Nat.min_le_left _ _) (Nat.lt_of_lt_of_le (show i < 1000 by omega) (by decide))
        have nx : (cnts rs es (t + 1)).take (i + 1) = (cnts rs es (t + 1)).take i ++ [.int ((List.map (Bt rs es t) (List.filterMap id r)).sum : Nat)] := by
          rw [List.take_add_one]
          refine congrArg (List.take i (cnts rs es (t + 1)) ++ ·) ?_
          unfold cnts
          rw [List.getElem?_map, List.getElem?_range hi]
          show [PV.int (Bt rs es (t + 1) i)] = _
          unfold Bt
          rw [es']
        simp only [List.map_map] at sl
        have ap : ∀ v, oAppend (h3 ++ [PO.lst (List.map (PV.int ∘ bI rs es t) (List.filter (fun x => !MC.isNon x) (List.map ov r)))]) [.ref 1, v] = _ := fun v => app_c (get_app g1) lt
        have l1 : 1 < h3.length := (List.getElem?_eq_some_iff.mp g1).1
        simp [sl, ap, nx, l1, g0, List.getElem?_append_left, show 0 < h3.length by omega]
        exact (List.getElem?_eq_some_iff.mp g0).2
    · subst ee
      simp
      refine ⟨h0, ?_⟩
      rw [h1, List.take_of_length_le]
      simp [cnts, rowsV_len]
  obtain ⟨v, g, e, rfl, g0, g1⟩ := w
  exact call_1n (i := 1) (by unfold refsVs refsVs; rw [refs_no _ nm]; simp [refsV, refsVs]) (as := [mk L rs es, .ref 0]) (by unfold renVs renVs; rw [ren_no _ _ nm]; simp [renV, idx_hd, renVs]) hj (cnts_noref t) e (by decide) g0 g1 (cnts_noref (t + 1))

theorem n8 (o : TO L rs es) : 1 ≤ rs.length ∧ rs.length ≤ 8 := by
  have h1 := o.n1
  have h8 := o.n8
  rw [rowsV_len] at h1 h8
  exact ⟨h1, h8⟩
def lls (rs : List (List (Option Nat))) (es : List Nat) (n : Nat) : List (List PV) := (List.range n).map (cnts rs es)
/-- the list of lists that grows -/
def AC (rs : List (List (Option Nat))) (es : List Nat) (i : Nat) (h : PH) : Prop := ∃ js : List Nat, h[1]? = some (.lst (js.map PV.ref)) ∧ (1 :: js).Nodup ∧ js.length = i + 1 ∧ ∀ (t j : Nat), js[t]? = some j → h[j]? = some (.lst (cnts rs es t))
theorem AC.more {i : Nat} {h : PH} (hi : i < 300) : AC rs es i h → ∃ j, h[j]? = some (.lst (cnts rs es i)) ∧ isTy h 1 (.ref 1) = true ∧ opIx h (.ref 1) (.int (-1)) = .ok (.ref j) h ∧ ∃ h', oAppend (h ++ [PO.lst (cnts rs es (i + 1))]) [.ref 1, .ref h.length] = .ok .non h' ∧ AC rs es (i + 1) h' := by
  intro ⟨js, h1, nd, lj, hj⟩
  have nn := List.nodup_cons.mp nd
  obtain ⟨j, ej⟩ : ∃ j, js[i]? = some j := ⟨_, List.getElem?_eq_getElem (by omega)⟩
  have sp : js = js.take i ++ [j] := by
    have a : js.take (i + 1) = js := List.take_of_length_le (by omega)
    rw [List.take_add_one, ej] at a
    exact a.symm
  have spm : js.map PV.ref = (js.take i).map PV.ref ++ [.ref j] := by
    have := congrArg (List.map PV.ref) sp
    rw [List.map_append] at this
    exact this
  have l1 := (List.getElem?_eq_some_iff.mp h1).1
  refine ⟨j, hj i j ej, ty_lst h1, ix_last (xs := (js.take i).map PV.ref) (by rw [h1, spm]), _, app_c (get_app h1) (by rw [List.length_map]; exact Nat.lt_of_le_of_lt (show js.length ≤ 301 by omega) (by decide)), js ++ [h.length], ?_, ?_, by simp [lj], fun t k e => ?_⟩
  · rw [List.getElem?_set_self (by rw [List.length_append]; omega)]; simp
  · have lt : ∀ k ∈ js, k < h.length := fun k hk => by
      obtain ⟨t, et⟩ := List.mem_iff_getElem?.mp hk
      exact (List.getElem?_eq_some_iff.mp (hj t k et)).1
    refine List.nodup_cons.mpr ⟨?_, ?_⟩
    · intro q
      rcases List.mem_append.mp q with q | q
      · exact nn.1 q
      · have := List.mem_singleton.mp q
        omega
    · refine List.nodup_append.mpr ⟨nn.2, by simp, fun a ha b hb q => ?_⟩
      have := lt a ha
      rw [List.mem_singleton.mp hb] at q
      omega
  · have ne : ∀ k ∈ js, 1 ≠ k := fun k hk q => nn.1 (q ▸ hk)
    by_cases ht : t < js.length
    · rw [List.getElem?_append_left ht] at e
      rw [List.getElem?_set_ne (ne k (List.mem_of_getElem? e))]
      exact get_app (hj t k e)
    · rw [List.getElem?_append_right (by omega)] at e
      have : t - js.length = 0 := by
        rcases Nat.eq_zero_or_pos (t - js.length) with z | z
        · exact z
        · rw [List.getElem?_eq_none (by simp; omega)] at e; cases e
      rw [this] at e
      have e : h.length = k := by simpa using e
      subst e
      rw [List.getElem?_set_ne (by omega), show t = i + 1 by omega]
      simp
theorem all_counts_w (o : TO L rs es) (n : Nat) (hn : n ≤ 300) : Ws (m_all_counts [mk L rs es, .int n] []) fun v g => LL g v (lls rs es (n + 1)) := by
  unfold m_all_counts
  simp [b_all_counts, end_counts_c o, LIM]
  simp [inR_small (i := (n : Int)) (by omega) (by omega)]
  refine forB (fun i e h => ∃ x, e = [some (mk L rs es), some (.int n), some (.ref 1), x] ∧ AC rs es i h)
    ⟨_, rfl, [0], rfl, by decide, rfl, fun t j e => ?_⟩ (fun _ _ _ _ => rfl) (fun i x env h hx ⟨y, ee, ac⟩ => ?_) fun env h ⟨y, ee, js, h1, nd, lj, hj⟩ => ?_
  · match t with
    | 0 => cases e; rfl
    | t + 1 => simp at e
  · subst ee
    have hi := (at_seqI hx).1
    obtain ⟨j, hj, ty, ex, h', ap, ac'⟩ := ac.more (by omega)
    have cb := counts_before_c o hj
    simp [ty, ex, cb, ap, ac']
  · subst ee
    rw [len_seqI] at lj
    simp
    refine ⟨1, js, rfl, h1, nd, by simp [lls, lj], fun t j e => ⟨cnts rs es t, ?_, hj t j e, cnts_noref t⟩⟩
    have := (List.getElem?_eq_some_iff.mp e).1
    unfold lls
    rw [List.getElem?_map, List.getElem?_range (by omega)]; rfl
theorem all_counts_c (o : TO L rs es) (n : Nat) (hn : n ≤ 300) (h : PH) : ∃ h', callG takeBack m_all_counts [mk L rs es, .int n] h = .ok (.ref h.length) (h ++ h') ∧ LL (h ++ h') (.ref h.length) (lls rs es (n + 1)) := by
  have nm : noRef (mk L rs es) = true := mach_noref o
  obtain ⟨v, g, e, hl⟩ := all_counts_w o n hn
  exact call_ll (by simp [noRefs, nm, noRef]) e hl (by simp [lls]; omega)
theorem _root_.MC.LL.two {h : PH} {v : PV} {zss : List (List PV)} (l : LL h v zss) {t k : Nat} {zs : List PV} {z : PV} (e : zss[t]? = some zs) (e2 : zs[k]? = some z) : ∃ j, opIx h v (.int t) = .ok (.ref j) h ∧ opIx h (.ref j) (.int k) = .ok z h := by
  obtain ⟨i, js, rfl, e0, nd, hlen, he⟩ := l
  have : t < js.length := by rw [hlen]; exact (List.getElem?_eq_some_iff.mp e).1
  obtain ⟨zs', q1, q2, q3⟩ := he t js[t] (List.getElem?_eq_getElem this)
  rw [e] at q1
  cases q1
  exact ⟨js[t], ix_ref e0 (by rw [List.getElem?_map, List.getElem?_eq_getElem this]; rfl), ix_ref q2 e2⟩
theorem lls_at {n t : Nat} (h : t < n) : (lls rs es n)[t]? = some (cnts rs es t) := by
  unfold lls
  rw [List.getElem?_map, List.getElem?_range h]; rfl
theorem cnts_at {t k : Nat} (h : k < rs.length) : (cnts rs es t)[k]? = some (.int (Bt rs es t k)) := by
  unfold cnts
  rw [List.getElem?_map, List.getElem?_range h]; rfl
theorem count_of_c (o : TO L rs es) (n : Nat) (hn : n ≤ 300) (h : PH) : callG takeBack m_count_of [mk L rs es, .int n] h = .ok (.int (Bt rs es n 0)) h := by
  have nm : noRef (mk L rs es) = true := mach_noref o
  refine call_pureW (by simp [noRefs, nm, noRef]) ?_ rfl
  obtain ⟨h', e, l⟩ := all_counts_c o n hn []
  obtain ⟨j, x1, x2⟩ := l.two (t := n) (k := 0) (lls_at (by omega)) (cnts_at (n8 o).1)
  have x2 : opIx ([] ++ h') (.ref j) (.int 0) = _ := x2
  unfold m_count_of
  simp [b_count_of]
  rw [e]
  simp only [bind_ok]
  simp
  have x1 : opIx h' (.ref 0) (.int n) = .ok (.ref j) h' := x1
  have x2 : opIx h' (.ref j) (.int 0) = _ := x2
  simp [x1, x2]
end
end MM

end
section
set_option maxRecDepth 100000
set_option maxHeartbeats 4000000
namespace MM
open PySem L2 MC
def dg (n : Int) (v : PV) : Prop := ∃ d, v = .int d ∧ 0 ≤ d ∧ d < n
theorem pour_ok (n : Int) (h0 : 0 < n) (h1 : n < B30) (a b c : Int) : ∃ d a' b' c', 0 ≤ d ∧ d < n ∧ m__law_pour [.ref 0, .int n] [skd a b c] = .ok (.int d) [skd a' b' c'] := by
  have m1 : ∀ h (i : Int), opMul h (.int i) (.int 43019) = .ok (.int (i * 43019)) h := fun h i => v_mul (.inr (by decide))
  have m2 : ∀ h (i : Int), opMul h (.int i) (.int 51001) = .ok (.int (i * 51001)) h := fun h i => v_mul (.inr (by decide))
  have m3 : ∀ h (i : Int), opMul h (.int i) (.int 83) = .ok (.int (i * 83)) h := fun h i => v_mul (.inr (by decide))
  have ix0 : ∀ (a b c : Int), opIx [skd a b c] (.ref 0) (.int 0) = .ok (.int a) [skd a b c] := fun _ _ _ => rfl
  have ix1 : ∀ (a b c : Int), opIx [skd a b c] (.ref 0) (.int 1) = .ok (.int b) [skd a b c] := fun _ _ _ => rfl
  have ix2 : ∀ (a b c : Int), opIx [skd a b c] (.ref 0) (.int 2) = .ok (.int c) [skd a b c] := fun _ _ _ => rfl
  have p0 : ∀ (a b c x : Int), oSetIx [skd a b c] (.ref 0) (.int 0) (.int x) = .ok () [skd x b c] := fun _ _ _ _ => rfl
  have p1 : ∀ (a b c x : Int), oSetIx [skd a b c] (.ref 0) (.int 1) (.int x) = .ok () [skd a x c] := fun _ _ _ _ => rfl
  have p2 : ∀ (a b c x : Int), oSetIx [skd a b c] (.ref 0) (.int 2) (.int x) = .ok () [skd a b x] := fun _ _ _ _ => rfl
  by_cases hb : 0 < a
  · refine ⟨a % n, a / n, b, c, Int.emod_nonneg _ (by omega), Int.emod_lt_of_pos _ h0, ?_⟩
    unfold m__law_pour
    simp [b__law_pour, ix0, p0, hb, h0, h1]
  · refine ⟨((b * 43019 + b / 7013 * 83 + (c + 3) * 51001) % 2147483423 / 409) % n, a, (b * 43019 + b / 7013 * 83 + (c + 3) * 51001) % 2147483423, c + 3, Int.emod_nonneg _ (by omega), Int.emod_lt_of_pos _ h0, ?_⟩
    unfold m__law_pour
    simp [b__law_pour, ix0, ix1, ix2, p0, p1, p2, m1, m2, m3, hb, h0, h1]
theorem pour_f {n : Int} (h0 : 0 < n) (h1 : n < B30) : Fs m__law_pour [.int n] (dg n) := fun a b c => by
  obtain ⟨d, a', b', c', d0, d1, e⟩ := pour_ok n h0 h1 a b c
  exact ⟨_, _, e, ⟨a', b', c', rfl⟩, rfl, d, rfl, d0, d1⟩
theorem pour_u {α : Type} {n : Int} {h : PH} {j : Nat} {k : PV → PH → R α} {Q : α → PH → Prop} (h0 : 0 < n) (h1 : n ≤ 1000) (d : Dr j h) (q : ∀ (i : Nat) h', (i : Int) < n → Dr j h' → But j h h' → Ws (k (.int i) h') Q) : Ws ((callG takeBack m__law_pour [.ref j, .int n] h).bind k) Q :=
  (pour_f h0 (by unfold B30; omega)).use rfl d fun v h' _ ⟨i, e, i0, i1⟩ d' b => by
    subst e
    obtain ⟨m, rfl⟩ : ∃ m : Nat, i = m := ⟨i.toNat, by omega⟩
    exact q m h' i1 d' b
theorem one_of_f (us : List PV) (hu : 0 < us.length) (hl : us.length ≤ 1000) (hn : noRefs us = true) (hv : ∀ x ∈ us, noRef x = true) : Fs2 m__law_one_of us [] (fun v => v ∈ us) := fun a b c => by
  unfold m__law_one_of
  simp [b__law_one_of, len_ref (h := [skd a b c, .lst us]) (n := 1) rfl]
  refine pour_u (by omega) (by omega) ⟨a, b, c, rfl⟩ fun j h' i1 d' bt => ?_
  have hj : j < us.length := by omega
  have e : us[j]? = some us[j] := List.getElem?_eq_getElem hj
  have e1 : h'[1]? = some (.lst us) := by rw [bt.2 1 (by decide)]; rfl
  simp [ix_ref e1 e]
  exact ⟨d', ⟨us, e1, hn⟩, hv _ (List.mem_of_getElem? e)⟩
/-- a plan: letters, rows, ends -/
def plnV (L : Nat) (rows : List PV) (is : List Int) : PV := .tup [.int L, .tup rows, .tup (is.map PV.int)]
def pl (L : Nat) (rs : List (List (Option Nat))) (es : List Nat) : PV := plnV L (rowsV rs) (enI es)
theorem row_of {ys : List PV} {n : Nat} (h : ∀ y ∈ ys, gl n y) : ∃ r : List (Option Nat), ys = r.map ov := by
  induction ys with
  | nil => exact ⟨[], rfl⟩
  | cons y ys ih =>
    obtain ⟨r, e⟩ := ih fun x hx => h x (List.mem_cons_of_mem _ hx)
    rcases h y List.mem_cons_self with q | ⟨i, q, i0, _⟩
    · exact ⟨none :: r, by rw [List.map_cons, ← e, q]; rfl⟩
    · refine ⟨some i.toNat :: r, ?_⟩
      rw [List.map_cons, ← e, q]
      show _ = PV.int (i.toNat : Nat) :: ys
      rw [show ((i.toNat : Nat) : Int) = i by omega]
/-- rows of n stands told as data -/
theorem typed_of {L : Nat} {rows : List PV} {is : List Int} (ok : MachOk L rows is) : ∃ rs es, rows = rowsV rs ∧ is = enI es ∧ TO L rs es := by
  have hr : ∀ rows : List PV, (∀ r ∈ rows, ∃ n, rowOk n L r ∧ n = (rows.length : Int) ∨ ∃ n : Nat, rowOk (n : Int) L r) → True := fun _ _ => trivial
  have h1 : ∀ (n : Nat) (rows : List PV), (∀ r ∈ rows, rowOk (n : Int) L r) → ∃ rs, rows = rowsV rs := by
    intro n rows
    induction rows with
    | nil => exact fun _ => ⟨[], rfl⟩
    | cons r rows ih =>
      intro h
      obtain ⟨rs, e⟩ := ih fun x hx => h x (List.mem_cons_of_mem _ hx)
      obtain ⟨gs, e1, _, hg⟩ := h r List.mem_cons_self
      obtain ⟨t, e2⟩ := row_of hg
      exact ⟨t :: rs, by rw [e1, e2, e]; rfl⟩
  have h2 : ∀ is : List Int, (∀ i ∈ is, 0 ≤ i) → ∃ es, is = enI es := by
    intro is
    induction is with
    | nil => exact fun _ => ⟨[], rfl⟩
    | cons i is ih =>
      intro h
      obtain ⟨es, e⟩ := ih fun x hx => h x (List.mem_cons_of_mem _ hx)
      have := h i List.mem_cons_self
      refine ⟨i.toNat :: es, ?_⟩
      unfold enI
      rw [List.map_cons, show ((i.toNat : Nat) : Int) = i by omega, e]; rfl
  obtain ⟨rs, e1⟩ := h1 rows.length rows ok.rws
  obtain ⟨es, e2⟩ := h2 is fun i hi => (ok.ends.2 i hi).1
  exact ⟨rs, es, e1, e2, by unfold TO; rw [← e1, ← e2]; exact ok⟩
end MM

end
section
set_option maxRecDepth 100000
set_option maxHeartbeats 4000000
namespace MM
open PySem L2 MC
theorem machine_f (M W : Nat) (hM : 1 ≤ M ∧ M ≤ 8) (hW : 1 ≤ W ∧ W ≤ 5) : Fs m__law_machine [.int M, .int W] (fun v => ∃ L rows is, v = plnV L rows is ∧ MachOk L rows is) := fun a b c => by
  unfold m__law_machine
  simp [b__law_machine]
  refine pour_u (by omega) (by omega) ⟨a, b, c, rfl⟩ fun i h1 i1 d1 b1 => ?_
  simp
  refine pour_u (by omega) (by omega) d1 fun l h2 l1 d2 b2 => ?_
  obtain ⟨N, eN, n1, n8⟩ : ∃ N : Nat, 1 + (i : Int) = (N : Int) ∧ 1 ≤ N ∧ N ≤ 8 := ⟨1 + i, by omega, by omega, by omega⟩
  obtain ⟨L, eL, L1, L5⟩ : ∃ L : Nat, 1 + (l : Int) = (L : Int) ∧ 1 ≤ L ∧ L ≤ 5 := ⟨1 + l, by omega, by omega, by omega⟩
  have l3 : h2.length = 1 := by rw [b2.1, b1.1]; rfl
  rw [eN]
  simp
  rw [eL]
  simp [LIM, inR_small (i := (N : Int)) (by omega) (by omega), l3]
  refine forB (fun t e h => ∃ x6 rs, e = [some (.ref 0), some (.int M), some (.int W), some (.int N), some (.int L), some (.ref 1), x6, none, none] ∧ Dr 0 h ∧ h[1]? = some (.lst rs) ∧ rs.length = t ∧ ∀ r ∈ rs, rowOk N L r)
    ⟨_, [], rfl, d2.app, by rw [← l3]; exact last_at, rfl, fun _ z => nomatch z⟩ (fun _ _ _ _ => rfl) (fun t x env h hx ⟨x6, rs, ee, dh, hr, lr, pr⟩ => ?_) fun env h ⟨x6, rs, ee, dh, hr, lr, pr⟩ => ?_
  · subst ee
    obtain ⟨ht, rfl⟩ := at_seqI hx
    simp [ty_lst hr, inR_small (i := (L : Int)) (by omega) (by omega)]
    refine mapPB (fun y => gl N y) (fun h => Dr 0 h ∧ h[1]? = some (.lst rs)) ⟨dh, hr⟩ (by rw [len_seqI]; exact lim_of (by omega)) (fun y hy h dh => ⟨_, rfl, ?_⟩) fun h4 ys d4 ly py => ?_
    · simp [wipeE]
      refine pour_u (by omega) (by omega) dh.1 fun q h6 q1 d6 b6 => ?_
      have r6 : h6[1]? = some (.lst rs) := by rw [b6.2 1 (by decide)]; exact dh.2
      by_cases e0 : 0 < q
      · simp [e0]
        exact ((pour_f (n := (N : Int)) (by omega) (by unfold B30; omega)).call rfl d6).mono fun v h' ⟨_, ⟨g, e, g0, g1⟩, d, b'⟩ => ⟨.inr ⟨g, e, g0, g1⟩, d, by rw [b'.2 1 (by decide)]; exact r6⟩
      · have : q = 0 := by omega
        subst this
        simp
        exact ⟨.inl rfl, d6, r6⟩
    · rw [len_seqI] at ly
      have k1 : (h4 ++ [PO.lst ys])[h4.length]? = some (.lst ys) := last_at
      have ap := app_c (h := h4 ++ [PO.lst ys]) (n := 1) (v := .tup ys) (get_app d4.2) (Nat.lt_of_le_of_lt (show rs.length ≤ 8 by omega) (by decide))
      simp [v_btupR k1, ap]
      refine ⟨?_, rs ++ [.tup ys], ?_, by simp [lr], fun r hr => ?_⟩
      · obtain ⟨a', b', c', ea⟩ := d4.1
        exact ⟨a', b', c', by rw [List.getElem?_set_ne (by decide)]; exact get_app ea⟩
      · rw [List.getElem?_set_self (List.getElem?_eq_some_iff.mp (get_app (os := [PO.lst ys]) d4.2)).1]
      · rcases List.mem_append.mp hr with q | q
        · exact pr r q
        · rw [List.mem_singleton.mp q]; exact ⟨ys, rfl, ly, py⟩
  · subst ee
    simp [inR_small (i := (N : Int)) (by omega) (by omega)]
    rw [len_seqI] at lr
    refine Ws.bind (Ws_lc (Q := fun v h' => ∃ h0 is, Dr 0 h0 ∧ h0[1]? = some (.lst rs) ∧ endsOk N is ∧ v = .ref h0.length ∧ h' = h0 ++ [.lst (is.map PV.int)]) (fun t acc h => Dr 0 h ∧ h[1]? = some (.lst rs) ∧ acc.length ≤ t ∧ ∃ is : List Int, acc = is.map PV.int ∧ is.Pairwise (· < ·) ∧ ∀ i ∈ is, 0 ≤ i ∧ i < t)
      ⟨dh, hr, Nat.le_refl _, [], rfl, .nil, fun _ z => nomatch z⟩ (fun _ _ _ _ => rfl) (fun t x acc h e ⟨dh, hr, la, is, ea, pw, bd⟩ => ?_) fun acc h ⟨dh, hr, la, is, ea, pw, bd⟩ => ⟨h, is, dh, hr, ⟨pw, by rw [len_seqI] at bd; exact bd⟩, rfl, by rw [ea]⟩) fun v h' ⟨h0, is, d0, r0, oke, ev, eh⟩ => ?_
    · obtain ⟨ht, rfl⟩ := at_seqI e
      refine ⟨_, rfl, ?_⟩
      simp [wipeE]
      refine pour_u (by omega) (by omega) dh fun q h6 q1 d6 b6 => ?_
      have r6 : h6[1]? = some (.lst rs) := by rw [b6.2 1 (by decide)]; exact hr
      by_cases e0 : q = 0
      · simp [e0]
        refine ⟨Nat.lt_of_le_of_lt (show acc.length ≤ 8 by omega) (by decide), d6, r6, la, is ++ [(t : Int)], by rw [ea]; simp, ?_, fun j hj => ?_⟩
        · refine List.pairwise_append.mpr ⟨pw, List.pairwise_singleton _ _, fun x hx y hy => ?_⟩
          rw [List.mem_singleton.mp hy]
          exact (bd x hx).2
        · rcases List.mem_append.mp hj with z | z
          · have := bd j z; omega
          · rw [List.mem_singleton.mp z]; omega
      · simp [e0]
        exact ⟨d6, r6, by omega, is, ea, pw, fun j hj => by have := bd j hj; omega⟩
    · subst ev; subst eh
      have mok : ∀ is, endsOk N is → MachOk L rs is := fun is q => ⟨L1, L5, by omega, by omega, by rw [lr]; exact pr, by rw [lr]; exact q⟩
      have fin : ∀ (is : List Int), endsOk N is → noRef (PV.tup [.int L, .tup rs, .tup (is.map PV.int)]) = true ∧ ∃ L' rows is', PV.tup [.int L, .tup rs, .tup (is.map PV.int)] = plnV L' rows is' ∧ MachOk L' rows is' := fun is q =>
        ⟨by simp [noRef, noRefs, rows_noref pr, ints_noref], L, rs, is, rfl, mok is q⟩
      have e1 : (h0 ++ [PO.lst (is.map PV.int), PO.lst []])[h0.length]? = some (.lst (is.map PV.int)) := by simp
      have e2 : (h0 ++ [PO.lst (is.map PV.int), PO.lst []])[h0.length + 1]? = some (.lst []) := by simp
      have d1' : Dr 0 (h0 ++ [PO.lst (is.map PV.int), PO.lst []]) := d0.app
      have r1 : (h0 ++ [PO.lst (is.map PV.int), PO.lst []])[1]? = some (.lst rs) := get_app r0
      simp [eq_nil e1 e2]
      cases is with
      | cons i0' r =>
        simp [-List.map_cons, v_btupR r1, v_btupR e1, LIM]
        exact ⟨d1', fin _ oke⟩
      | nil =>
        simp
        refine pour_u (by omega) (by omega) d1' fun q h6 q1 d6 b6 => ?_
        have r6 : h6[1]? = some (.lst rs) := by rw [b6.2 1 (by decide)]; exact r1
        have h00 : h0.length ≠ 0 := by have := d0.lt; omega
        have k6 : h6[h0.length]? = some (.lst (([] : List Int).map PV.int)) := by rw [b6.2 _ h00]; exact e1
        by_cases e0 : 0 < q
        · simp [e0]
          refine pour_u (by omega) (by omega) d6 fun u h7 u1 d7 b7 => ?_
          have r7 : h7[1]? = some (.lst rs) := by rw [b7.2 1 (by decide)]; exact r6
          simp [v_btupR (h := h7 ++ [.lst [.int u]]) (n := 1) (get_app r7), v_btupR (h := h7 ++ [.lst [.int u]]) (n := h7.length) last_at, LIM]
          refine ⟨d7.app, fin [u] ⟨List.pairwise_singleton _ _, fun x hx => by rw [List.mem_singleton.mp hx]; exact ⟨by omega, u1⟩⟩⟩
        · have : q = 0 := by omega
          subst this
          simp
          simp [v_btupR r6, v_btupR k6, LIM]
          exact ⟨d6, fin [] oke⟩
end MM

end
section
set_option maxRecDepth 100000
set_option maxHeartbeats 4000000
namespace MM
open PySem L2 MC
def dotF : List Nat → (Nat → Nat) → Nat
  | [], _ => 0
  | x :: r, b => x * b 0 + dotF r fun i => b (i + 1)
theorem dot_set : ∀ (l : List Nat) (g x : Nat) (b : Nat → Nat) (v : Nat), l[g]? = some v → dotF (l.set g (v + x)) b = dotF l b + x * b g
  | [], _, _, _, _, e => by simp at e
  | y :: r, 0, x, b, v, e => by
    have : y = v := by simpa using e
    subst this
    show (y + x) * b 0 + dotF r _ = y * b 0 + dotF r _ + x * b 0
    rw [Nat.add_mul]; omega
  | y :: r, g + 1, x, b, v, e => by
    have := dot_set r g x (fun i => b (i + 1)) v (by simpa using e)
    show y * b 0 + dotF (r.set g (v + x)) _ = y * b 0 + dotF r _ + _
    rw [this]; omega
theorem dot_add : ∀ (l : List Nat) (b c : Nat → Nat), dotF l (fun i => b i + c i) = dotF l b + dotF l c
  | [], _, _ => rfl
  | x :: r, b, c => by
    unfold dotF
    rw [dot_add r (fun i => b (i + 1)) fun i => c (i + 1), Nat.mul_add]; omega
theorem dot_zero : ∀ (l : List Nat), dotF l (fun _ => 0) = 0
  | [] => rfl
  | x :: r => by unfold dotF; rw [dot_zero r]; simp
theorem dot_at : ∀ (l : List Nat) (g v : Nat), l[g]? = some v → dotF l (fun i => if i = g then 1 else 0) = v
  | [], _, _, e => by simp at e
  | y :: r, 0, v, e => by
    have : y = v := by simpa using e
    subst this
    unfold dotF
    have : (fun i => if i + 1 = 0 then 1 else 0 : Nat → Nat) = fun _ => 0 := by funext i; simp
    rw [this, dot_zero]; simp
  | y :: r, g + 1, v, e => by
    unfold dotF
    have : (fun i => if i + 1 = g + 1 then 1 else 0 : Nat → Nat) = fun i => if i = g then 1 else 0 := by funext i; simp
    rw [this, dot_at r g v (by simpa using e)]; simp
theorem dot_fn (l : List Nat) {b c : Nat → Nat} (h : ∀ i, b i = c i) : dotF l b = dotF l c := by rw [funext h]
theorem dot_ends (l : List Nat) : ∀ es : List Nat, es.Nodup → (∀ e ∈ es, e < l.length) → (es.map fun e => (l[e]?).getD 0).sum = dotF l fun k => if k ∈ es then 1 else 0
  | [], _, _ => by simp [dot_zero]
  | e :: es, nd, hl => by
    have ih := dot_ends l es (List.nodup_cons.mp nd).2 fun x hx => hl x (List.mem_cons_of_mem _ hx)
    have el : l[e]? = some (l[e]'(hl e List.mem_cons_self)) := List.getElem?_eq_getElem _
    have h : ∀ k, (if k ∈ e :: es then 1 else 0 : Nat) = (if k = e then 1 else 0) + (if k ∈ es then 1 else 0) := fun k => by
      by_cases q : k = e
      · subst q
        have := (List.nodup_cons.mp nd).1
        simp [this]
      · simp [q]
    rw [dot_fn l h, dot_add, dot_at l e _ el, ← ih, List.map_cons, List.sum_cons, el]; rfl
/-- the first k of them -/
theorem dot_take : ∀ (l : List Nat) (k : Nat) (b : Nat → Nat) (v : Nat), l[k]? = some v → dotF (l.take (k + 1)) b = dotF (l.take k) b + v * b k
  | [], _, _, _, e => by simp at e
  | y :: r, 0, b, v, e => by
    have : y = v := by simpa using e
    subst this
    simp [dotF]
  | y :: r, k + 1, b, v, e => by
    have := dot_take r k (fun i => b (i + 1)) v (by simpa using e)
    show y * b 0 + dotF (r.take (k + 1)) _ = y * b 0 + dotF (r.take k) _ + _
    rw [this]; omega
theorem dot_one (n : Nat) (b : Nat → Nat) : dotF ((List.range (n + 1)).map fun k => if k = 0 then 1 else 0) b = b 0 := by
  have h : ∀ (n m : Nat) (b : Nat → Nat), dotF ((List.range' (m + 1) n).map fun k => if k = 0 then 1 else 0) b = 0 := by
    intro n
    induction n with
    | zero => exact fun _ _ => rfl
    | succ n ih =>
      intro m b
      rw [List.range'_succ, List.map_cons]
      unfold dotF
      rw [ih (m + 1)]; simp
  rw [List.range_eq_range', List.range'_succ, List.map_cons]
  unfold dotF
  rw [h n 0]; simp
def nats (l : List Nat) : List PV := l.map fun (n : Nat) => .int n
theorem nats_noref (l : List Nat) : noRefs (nats l) = true := by
  have := ints_noref (l.map fun (n : Nat) => (n : Int))
  rw [List.map_map] at this
  exact this
theorem nats_at {l : List Nat} {k v : Nat} (e : l[k]? = some v) : (nats l)[k]? = some (.int v) := by
  unfold nats
  rw [List.getElem?_map, e]; rfl
theorem set_c {h : PH} {n : Nat} {xs : List PV} {i : Nat} {v : PV} (e : h[n]? = some (.lst xs)) (hi : i < xs.length) : oSetIx h (.ref n) (.int i) v = .ok () (h.set n (.lst (xs.set i v))) := by
  have z : ixN xs.length (i : Int) = some i := by unfold ixN; simp [hi]
  simp only [oSetIx, e, z]
theorem rep1 (n : Nat) : (List.replicate n [PV.int 0]).flatten = nats (List.replicate n 0) := by
  induction n with
  | zero => rfl
  | succ n ih => rw [List.replicate_succ, List.flatten_cons, ih]; rfl
theorem dot_rep (n : Nat) (b : Nat → Nat) : dotF (List.replicate n 0) b = 0 := by
  induction n generalizing b with
  | zero => rfl
  | succ n ih => rw [List.replicate_succ]; unfold dotF; rw [ih]; simp
section
variable {L : Nat} {rs : List (List (Option Nat))} {es : List Nat}
theorem pl0 (h : PH) : opIx h (pl L rs es) (.int 0) = .ok (.int L) h := ix_tup (i := 0) rfl
theorem pl1 (h : PH) : opIx h (pl L rs es) (.int 1) = .ok (.tup (rowsV rs)) h := ix_tup (i := 1) rfl
theorem pl2 (h : PH) : opIx h (pl L rs es) (.int 2) = .ok (.tup ((enI es).map PV.int)) h := ix_tup (i := 2) rfl
theorem pl_noref (o : TO L rs es) : noRef (pl L rs es) = true := by
  simp [pl, plnV, noRef, noRefs, rows_noref o.rws, ints_noref]
/-- the goals of the first letters -/
theorem goals_take {r : List (Option Nat)} {i : Nat} (x : Option Nat) (e : r[i]? = some x) : (r.take (i + 1)).filterMap id = (r.take i).filterMap id ++ x.toList := by
  rw [List.take_add_one, e, List.filterMap_append]
  cases x <;> rfl
theorem len_inc : ∀ (is : List Int) (a n : Int), is.Pairwise (· < ·) → (∀ i ∈ is, a ≤ i ∧ i < n) → a ≤ n → (is.length : Int) ≤ n - a
  | [], a, n, _, _, h => by simp; omega
  | i :: is, a, n, pw, hb, h => by
    have hp := List.pairwise_cons.mp pw
    have h0 := hb i List.mem_cons_self
    have := len_inc is (i + 1) n hp.2 (fun j hj => ⟨by have := hp.1 j hj; omega, (hb j (List.mem_cons_of_mem _ hj)).2⟩) (by omega)
    rw [List.length_cons]
    omega
theorem ends_len (o : TO L rs es) : es.length ≤ 8 := by
  have := len_inc (enI es) 0 (rowsV rs).length o.ends.1 o.ends.2 (by omega)
  have h8 := o.n8
  unfold enI at this
  rw [List.length_map] at this
  omega
theorem ends_nd (o : TO L rs es) : es.Nodup := by
  have h : (enI es).Pairwise (· < ·) := o.ends.1
  unfold enI at h
  rw [List.pairwise_map] at h
  exact h.imp fun {a b} q => by omega
theorem law_count_c (o : TO L rs es) (n : Nat) (hn : n ≤ 300) (h : PH) : callG takeBack m__law_count [pl L rs es, .int n] h = .ok (.int (Bt rs es n 0)) h := by
  obtain ⟨r1, r8⟩ := n8 o
  refine call_pureW (by simp [noRefs, pl_noref o, noRef]) ?_ rfl
  unfold m__law_count
  simp [b__law_count, pl1, rowsV_len]
  simp [inR_small (i := (rs.length : Int)) (by omega) (by omega)]
  refine mapB (fun x => match x with
    | .int i => .int (if i = 0 then 1 else 0)
    | _ => .non) (fun h => h = []) rfl (by rw [len_seqI]; exact lim_of (by omega)) (fun x hx h e => ?_) fun h0 e => ?_
  · subst e
    obtain ⟨k, hk, rfl⟩ := mem_seqI hx
    refine ⟨_, rfl, ?_⟩
    by_cases q : (k : Int) = 0 <;> simp [wipeE, q, MC.bInt]
  · subst e
    have e0 : ((seqI 0 rs.length).map fun x => match x with
      | .int i => PV.int (if i = 0 then 1 else 0)
      | _ => .non) = nats ((List.range rs.length).map fun k => if k = 0 then 1 else 0) := by
      unfold seqI nats
      rw [List.map_map, List.map_map]
      refine List.map_congr_left fun k hk => ?_
      show PV.int (if (0 + (k : Int)) = 0 then 1 else 0) = PV.int (((if k = 0 then 1 else 0 : Nat) : Nat) : Int)
      by_cases q : k = 0
      · subst q; rfl
      · rw [if_neg (by omega), if_neg q]; rfl
    rw [e0]
    simp [inR_small (i := (n : Int)) (by omega) (by omega)]
    refine forB (fun i e h => ∃ x2 p x4 x5 x6 hs, e = [some (pl L rs es), some (.int n), x2, some (.ref p), x4, x5, x6] ∧ h[p]? = some (.lst (nats hs)) ∧ hs.length = rs.length ∧ dotF hs (Bt rs es (n - i)) = Bt rs es n 0)
      ⟨_, 0, _, _, _, _, rfl, rfl, by simp, ?_⟩ (fun _ _ _ _ => rfl) (fun i x env h hx ⟨x2, p, x4, x5, x6, hs, ee, hp, lh, hd⟩ => ?_) fun env h ⟨x2, p, x4, x5, x6, hs, ee, hp, lh, hd⟩ => ?_
    · obtain ⟨m, em⟩ : ∃ m, rs.length = m + 1 := ⟨rs.length - 1, by omega⟩
      rw [em]; exact dot_one m _
    · subst ee
      obtain ⟨hi, rfl⟩ := at_seqI hx
      have mul : opMul (h ++ [PO.lst [.int 0]]) (.ref h.length) (.int hs.length) = .ok (.ref (h.length + 1)) (h ++ [PO.lst [.int 0], .lst (nats (List.replicate hs.length 0))]) := by
        have g : (h ++ [PO.lst [PV.int 0]])[h.length]? = some (.lst [.int 0]) := last_at
        have c : (decide (-1000000 ≤ (hs.length : Int)) && decide ((hs.length : Int) ≤ 1000) && decide ([PV.int 0].length ≤ 1000)) = true := by simp; omega
        have z := rep1 hs.length
        simp only [opMul, g, c, cond_true]
        rw [show ((hs.length : Int)).toNat = hs.length by omega, z]
        simp
      have ln : ∀ h : PH, h[p]? = some (.lst (nats hs)) → bLen h [.ref p] = .ok (.int hs.length) h := fun h e => by
        have := len_ref e
        rw [show (nats hs).length = hs.length from by simp [nats]] at this
        exact this
      simp [LIM, ln _ (get_app hp), mul]
      have hp2 : (h ++ [PO.lst [PV.int 0], PO.lst (nats (List.replicate hs.length 0))])[p]? = some (.lst (nats hs)) := get_app hp
      simp [ln _ hp2, inR_small (i := (hs.length : Int)) (by omega) (by omega)]
      have pne : p ≠ h.length + 1 := by have := (List.getElem?_eq_some_iff.mp hp).1; omega
      obtain ⟨s, es'⟩ : ∃ s, n - i = s + 1 := ⟨n - i - 1, by omega⟩
      have es2 : n - (i + 1) = s := by omega
      rw [es'] at hd
      refine forB (fun k e h' => ∃ y2 y6 ls, e = [some (pl L rs es), some (.int n), y2, some (.ref p), some (.int i), some (.ref (h.length + 1)), y6] ∧ h'[p]? = some (.lst (nats hs)) ∧ h'[h.length + 1]? = some (.lst (nats ls)) ∧ ls.length = rs.length ∧ dotF ls (Bt rs es s) = dotF (hs.take k) (Bt rs es (s + 1)))
        ⟨_, _, List.replicate hs.length 0, rfl, hp2, by simp, by simp [lh], by rw [dot_rep]; rfl⟩ (fun _ _ _ _ => rfl) (fun k x env h' hx ⟨y2, y6, ls, ee, gp, gl, ll, gd⟩ => ?_) fun env h' ⟨y2, y6, ls, ee, gp, gl, ll, gd⟩ => ?_
      · subst ee
        obtain ⟨hk, rfl⟩ := at_seqI hx
        obtain ⟨r, er⟩ : ∃ r, rs[k]? = some r := ⟨_, List.getElem?_eq_getElem (by omega)⟩
        obtain ⟨v, ev⟩ : ∃ v, hs[k]? = some v := ⟨_, List.getElem?_eq_getElem (by omega)⟩
        obtain ⟨rl, rg⟩ := o.row er
        have ixr : ∀ h, opIx h (.tup (rowsV rs)) (.int (k : Int)) = .ok (rowV r) h := fun h => ix_tup (by unfold rowsV; rw [List.getElem?_map, er]; rfl)
        simp [pl1, ixr, rowV]
        have gk : gsOf rs k = r.filterMap id := by unfold gsOf; rw [er]; rfl
        refine forB (fun j e h' => ∃ y6 ls, e = [some (pl L rs es), some (.int n), some (.int k), some (.ref p), some (.int i), some (.ref (h.length + 1)), y6] ∧ h'[p]? = some (.lst (nats hs)) ∧ h'[h.length + 1]? = some (.lst (nats ls)) ∧ ls.length = rs.length ∧ dotF ls (Bt rs es s) = dotF (hs.take k) (Bt rs es (s + 1)) + v * (((r.take j).filterMap id).map (Bt rs es s)).sum)
          ⟨_, ls, rfl, gp, gl, ll, by rw [gd]; simp⟩ (fun _ _ _ _ => rfl) (fun j x env h' hx ⟨y6, ls, ee, gp, gl, ll, gd⟩ => ?_) fun env h' ⟨y6, ls, ee, gp, gl, ll, gd⟩ => ?_
        · subst ee
          rw [List.getElem?_map] at hx
          obtain ⟨g, eg, rfl⟩ := Option.map_eq_some_iff.mp hx
          have tk := goals_take g eg
          cases g with
          | none =>
            simp [ov, MC.isNon]
            exact ⟨gp, ls, gl, ll, by rw [gd, tk]; simp⟩
          | some g =>
            have hg := rg g (List.mem_of_getElem? eg)
            obtain ⟨u, eu⟩ : ∃ u, ls[g]? = some u := ⟨_, List.getElem?_eq_getElem (by omega)⟩
            have st := set_c (v := .int ((u : Int) + v)) gl (show g < (nats ls).length by unfold nats; rw [List.length_map]; omega)
            simp [ov, MC.isNon, ix_ref gl (nats_at eu), ix_ref gp (nats_at ev), st]
            refine ⟨?_, ls.set g (u + v), ?_, by simp [ll], ?_⟩
            · rw [List.getElem?_set_ne (Ne.symm pne)]; exact gp
            · rw [List.getElem?_set_self (List.getElem?_eq_some_iff.mp gl).1]
              unfold nats
              rw [List.map_set]; rfl
            · rw [dot_set ls g v _ u eu, gd, tk, List.map_append, List.sum_append, Nat.mul_add]
              simp; omega
        · subst ee
          simp
          refine ⟨gp, ls, gl, ll, ?_⟩
          rw [gd, List.length_map, List.take_length, dot_take hs k _ v ev]
          show _ = dotF (hs.take k) (Bt rs es (s + 1)) + v * ((gsOf rs k).map (Bt rs es s)).sum
          rw [gk]
      · subst ee
        rw [len_seqI, List.take_length] at gd
        simp
        exact ⟨_, _, ⟨rfl, rfl⟩, ls, gl, ll, by rw [es2, gd]; exact hd⟩
    · subst ee
      rw [len_seqI, Nat.sub_self] at hd
      simp [pl2]
      refine mapB (fun x => match x with
        | .int i => .int ((hs[i.toNat]?).getD 0 : Nat)
        | _ => .non) (fun h' => h' = h) rfl (by unfold enI; rw [List.length_map, List.length_map]; exact lim_of (by
          have := ends_len o
          omega)) (fun x hx h' e => ?_) fun h' e => ?_
      · subst e
        obtain ⟨i, hi, rfl⟩ := List.mem_map.mp hx
        unfold enI at hi
        obtain ⟨k, hk, rfl⟩ := List.mem_map.mp hi
        have := o.ends.2 k (en_mem.mpr hk)
        rw [rowsV_len] at this
        have ek : hs[k]? = some hs[k] := List.getElem?_eq_getElem (by omega)
        refine ⟨_, rfl, ?_⟩
        simp [wipeE, ix_ref hp (nats_at ek)]
        rw [ek]; rfl
      · subst e
        have e1 : ((enI es).map PV.int).map (fun x => match x with
          | .int i => PV.int ((hs[i.toNat]?).getD 0 : Nat)
          | _ => .non) = (es.map fun e => (((hs[e]?).getD 0 : Nat) : Int)).map PV.int := by
          unfold enI
          rw [List.map_map, List.map_map, List.map_map]
          rfl
        have e2 : (es.map fun e => (((hs[e]?).getD 0 : Nat) : Int)).sum = (Bt rs es n 0 : Nat) := by
          rw [sum_nat (fun e => (hs[e]?).getD 0) es, dot_ends hs es (ends_nd o) fun e he => ?_]
          · exact congrArg Nat.cast hd
          · have := o.ends.2 e (en_mem.mpr he)
            rw [rowsV_len] at this
            omega
        have sl := sum_last (h := h') (is := es.map fun e => (((hs[e]?).getD 0 : Nat) : Int))
        rw [e2] at sl
        rw [e1]
        simp only [List.map_map] at sl ⊢
        simp [sl]
end
end MM

end
section
set_option maxRecDepth 100000
set_option maxHeartbeats 4000000
namespace MC
open PySem L2
theorem cut_to {α : Type} (xs : List α) (j : Nat) : cutG xs none (some (j : Int)) = xs.take j := by
  unfold cutG
  rw [show HT.sIx xs.length 0 none = 0 from rfl, HT.sIx_nat]
  simp only [List.drop_zero, Nat.sub_zero]
  rw [← List.take_eq_take_min]
theorem cut_from {α : Type} (xs : List α) (j : Nat) : cutG xs (some (j : Int)) none = xs.drop j := by
  unfold cutG
  rw [show HT.sIx xs.length xs.length none = xs.length from rfl, HT.sIx_nat]
  have e : xs.drop (min j xs.length) = xs.drop j := by
    by_cases h : j ≤ xs.length
    · rw [Nat.min_eq_left h]
    · rw [Nat.min_eq_right (by omega), List.drop_of_length_le (Nat.le_refl _), List.drop_of_length_le (by omega)]
  rw [e]
  exact List.take_of_length_le (by rw [List.length_drop]; omega)
theorem sl_tup {h : PH} {xs : List PV} {lo hi : Option Int} : opSl h (.tup xs) lo hi = .ok (.tup (cutG xs lo hi)) h := by rfl
theorem len_scr {xs : List PV} {h : PH} : bLen h [.scr xs] = .ok (.int xs.length) h := by simp only [bLen, seqP]
theorem ix_scr {h : PH} {xs : List PV} {i : Nat} {x : PV} (e : xs[i]? = some x) : opIx h (.scr xs) (.int i) = .ok x h := by
  have z : L2.atI xs (i : Int) = some x := atI_nat e
  simp only [opIx, ixL, z]
theorem sl_scr {h : PH} {xs : List PV} {lo hi : Option Int} : opSl h (.scr xs) lo hi = .ok (.ref h.length) (h ++ [.lst (cutG xs lo hi)]) := by simp only [opSl]
end MC
namespace MM
open PySem L2 MC
theorem m83 (k : Int) (h : PH) : opMul h (.int 83) (.int k) = .ok (.int (83 * k)) h := v_mul (.inl (by decide))
theorem m4051 (k : Int) (h : PH) : opMul h (.int 4051) (.int k) = .ok (.int (4051 * k)) h := v_mul (.inl (by decide))
theorem m31013 (k : Int) (h : PH) : opMul h (.int k) (.int 31013) = .ok (.int (k * 31013)) h := v_mul (.inr (by decide))
theorem m61 (k : Int) (h : PH) : opMul h (.int k) (.int 61) = .ok (.int (k * 61)) h := v_mul (.inr (by decide))
theorem pow15 (h : PH) : opPow h (.int 10) (.int 15) = .ok (.int 1000000000000000) h := by rfl
theorem jug_w (ns : List Int) (k : Nat) (hk : k ≤ 4) : Ws (m__law_jug [.scr (ns.map PV.int), .int k] []) fun v g => ∃ i a b c, v = .ref i ∧ g[i]? = some (skd a b c) := by
  unfold m__law_jug
  simp [b__law_jug, len_scr]
  refine Ws.bind (P := fun v g => g = [] ∧ ∃ o : Int, v = .int o) ?_ fun v g ⟨eg, o, ev⟩ => ?_
  · by_cases hl : k < ns.length
    · have e : ∀ h, opIx h (.scr (ns.map PV.int)) (.int (k : Int)) = .ok (.int ns[k]) h := fun h => ix_scr (by rw [List.getElem?_map, List.getElem?_eq_getElem hl]; rfl)
      simp [hl, e]
    · simp [hl, m83]
  · subst eg; subst ev
    have c9 : cutG (ns.map PV.int) none (some 9) = (ns.take 9).map PV.int := by
      have := cut_to (ns.map PV.int) 9
      rw [List.map_take]
      exact this
    simp [m4051, sl_scr, c9]
    simp only [← List.map_take]
    rw [src_ref (h := [PO.lst (List.map PV.int (ns.take 9))]) (n := 0) rfl]
    simp
    simp only [← List.map_take]
    refine forB (fun t e h => ∃ m x, e = [some (.scr (ns.map PV.int)), some (.int k), some (.int o), some (.int m), x, none] ∧ h = [PO.lst (List.map PV.int (ns.take 9))]) ⟨_, _, rfl, rfl⟩ (fun _ _ _ ⟨_, _, _, q⟩ => by rw [q]; exact watch_mk rfl) (fun t x env h hx ⟨m, y, ee, eh⟩ => ?_) fun env h ⟨m, y, ee, eh⟩ => ?_
    · subst ee; subst eh
      rw [List.getElem?_map] at hx
      obtain ⟨z, _, rfl⟩ := Option.map_eq_some_iff.mp hx
      simp [m31013]
    · subst ee; subst eh
      simp [pow15, m61]
      by_cases h1 : o < 0
      · simp [h1, LIM, pow15, m61]
        exact ⟨_, _, _, rfl⟩
      · simp [h1]
        by_cases h2 : 1000000000000000 ≤ o
        · simp [h2, LIM, pow15, m61]
          exact ⟨_, _, _, rfl⟩
        · simp [h2, LIM, pow15, m61]
          exact ⟨_, _, _, rfl⟩
theorem jug_c (ns : List Int) (k : Nat) (hk : k ≤ 4) (h : PH) : ∃ a b c, callG takeBack m__law_jug [.scr (ns.map PV.int), .int k] h = .ok (.ref h.length) (h ++ [skd a b c]) := by
  obtain ⟨v, g, e, i, a, b, c, rfl, hg⟩ := jug_w ns k hk
  exact ⟨a, b, c, call_newl (ys := [.int a, .int b, .int c]) (by simp [noRefs, noRef, ints_noref]) e hg (by rfl)⟩
/-- what all laws of this family begin with -/
theorem cases_five (ns : List Int) : ∃ n : Nat, (if 2 < (if (5 : Int) < (ns.length : Int) then 5 else (ns.length : Int)) then (if (5 : Int) < (ns.length : Int) then 5 else (ns.length : Int)) else 2) = (n : Int) ∧ n ≤ 5 := by
  by_cases h5 : (5 : Int) < (ns.length : Int)
  · simp only [h5, if_true]; exact ⟨5, rfl, by omega⟩
  · simp only [h5, if_false]
    by_cases h2 : (2 : Int) < (ns.length : Int)
    · simp only [h2, if_true]; exact ⟨ns.length, rfl, by omega⟩
    · simp only [h2, if_false]; exact ⟨2, rfl, by omega⟩
section
variable {L : Nat} {rs : List (List (Option Nat))} {es : List Nat}
theorem len2 (o : TO L rs es) : (rowsV rs).length = rs.length := rowsV_len
theorem make_c' (o : TO L rs es) (h : PH) : callG takeFrz (initM 0 m_Machine___init__ [0, 1, 2, 3] []) [.int L, .tup (rowsV rs), .tup ((enI es).map PV.int)] h = .ok (mk L rs es) h := make_c L _ _ o h
theorem told_c (o : TO L rs es) (h : PH) : callG takeBack m_is_told [pl L rs es] h = .ok (.bl true) h := by
  have hL : 1 ≤ (L : Int) ∧ (L : Int) ≤ 5 := ⟨by have := o.l1; omega, by have := o.l5; omega⟩
  obtain ⟨r1, r8⟩ := n8 o
  have hn : 1 ≤ (rs.length : Int) ∧ (rs.length : Int) ≤ 8 := ⟨by omega, by omega⟩
  refine call_pureW (by simp [noRefs, pl_noref o]) ?_ rfl
  have wa := fun h => wrong_arrows_c (rowsV rs) L o.l5 o.rws h
  have we := fun h => wrong_end_c (enI es) _ o.ends h
  rw [rowsV_len] at we
  have sl : ∀ h, opSl h (pl L rs es) (some 1) none = .ok (.tup [.tup (rowsV rs), .tup ((enI es).map PV.int)]) h := fun h => rfl
  have ln : ∀ h, bLen h [pl L rs es] = .ok (.int 3) h := fun h => rfl
  have kd : ∀ h, kindP h (pl L rs es) = some (.inl 4) := fun h => rfl
  unfold m_is_told
  simp [b_is_told, kd, ln, isiT, tb_tuple, List.lookup, pl0, between_c, hL.1, hL.2, sl, rowsV_len, hn.1, hn.2, wa, we]
theorem check_length_c (n : Nat) (hn : n ≤ 300) (h : PH) : callG takeBack m_check_length [.int n] h = .ok .non h := by
  refine call_pureW rfl ?_ rfl
  unfold m_check_length
  simp [b_check_length, between_c, show (n : Int) ≤ 300 by omega]
theorem told_of_c (o : TO L rs es) (h : PH) : callG takeBack m_told_of [mk L rs es] h = .ok (pl L rs es) h := by
  have nm : noRef (mk L rs es) = true := mach_noref o
  refine call_pureW (by simp [noRefs, nm]) ?_ (pl_noref o)
  unfold m_told_of
  simp [b_told_of, mk, mach, cs_letters, cs_arrows, cs_ends, lookF, LIM, pl, plnV]
/-- a claim of a count -/
def clm (L : Nat) (rs : List (List (Option Nat))) (es : List Nat) (n : Nat) (c : Int) : PV := .tup [.str [99, 111, 117, 110, 116], pl L rs es, .int n, .int c]
theorem clm_noref (o : TO L rs es) (n : Nat) (c : Int) : noRef (clm L rs es n c) = true := by simp [clm, noRef, noRefs, pl_noref o]
theorem certify_c (o : TO L rs es) (n : Nat) (hn : n ≤ 300) (h : PH) : callG takeBack m_certify_count [mk L rs es, .int n] h = .ok (.tup [clm L rs es n (Bt rs es n 0), .tup []]) h := by
  have nm : noRef (mk L rs es) = true := mach_noref o
  have ck : ∀ h, callG takeBack m_check_machine [mk L rs es] h = .ok .non h := fun h => check_machine_c o h
  refine call_pureW (by simp [noRefs, nm, noRef]) ?_ (by simp [noRef, noRefs, clm_noref o])
  unfold m_certify_count
  simp [b_certify_count, ck, check_length_c n hn, told_of_c o, count_of_c o n hn, LIM, clm]
theorem made_of_c (o : TO L rs es) (h : PH) : callG takeBack m_made_of [pl L rs es] h = .ok (mk L rs es) h := by
  have nm : noRef (mk L rs es) = true := mach_noref o
  refine call_pureW (by simp [noRefs, pl_noref o]) ?_ nm
  unfold m_made_of
  simp [b_made_of, pl0, pl1, pl2, make_c' o]
theorem integer_c (i : Int) (h : PH) : callG takeBack m_is_integer [.int i] h = .ok (.bl true) h := by
  refine call_pureW rfl ?_ rfl
  unfold m_is_integer
  simp [b_is_integer, isiT, tb_int, tb_bool, List.lookup]
theorem empty_c (h : PH) : callG takeBack m_is_empty [.tup []] h = .ok (.bl true) h := by
  refine call_pureW rfl ?_ rfl
  unfold m_is_empty
  simp [b_is_empty, isiT, tb_tuple, List.lookup]
theorem shows_count_c (o : TO L rs es) (n : Nat) (hn : n ≤ 300) (c : Int) (h : PH) : callG takeBack m_shows_count [pl L rs es, .tup [.int n, .int c], .tup []] h = .ok (.bl (decide ((Bt rs es n 0 : Int) = c))) h := by
  refine call_pureW (by simp [noRefs, pl_noref o, noRef]) ?_ rfl
  unfold m_shows_count
  simp [b_shows_count, between_c, show (n : Int) ≤ 300 by omega, integer_c, empty_c, made_of_c o, count_of_c o n hn]
theorem holds_c (tab : List (Nat × MF)) (ht : tab.lookup 8 = some m_shows_count) (o : TO L rs es) (n : Nat) (hn : n ≤ 300) (c : Int) (h : PH) : callG takeBack (m_holds tab) [clm L rs es n c, .tup []] h = .ok (.bl (decide ((Bt rs es n 0 : Int) = c))) h := by
  refine call_pureW (by simp [noRefs, clm_noref o, noRef]) ?_ rfl
  have q0 : ∀ h, opIx h (clm L rs es n c) (.int 0) = .ok (.str [99, 111, 117, 110, 116]) h := fun h => ix_tup (i := 0) rfl
  have q1 : ∀ h, opIx h (clm L rs es n c) (.int 1) = .ok (pl L rs es) h := fun h => ix_tup (i := 1) rfl
  have ln : ∀ h, bLen h [clm L rs es n c] = .ok (.int 4) h := fun h => rfl
  have kd : ∀ h, kindP h (clm L rs es n c) = some (.inl 4) := fun h => rfl
  have sl : ∀ h, opSl h (clm L rs es n c) (some 2) none = .ok (.tup [.int n, .int c]) h := fun h => rfl
  have k1 : ∀ h, opKIn true 0 rowsS h (.str [99, 111, 117, 110, 116]) (.gl 0) = .ok (.bl false) h := fun h => rfl
  have k2 : ∀ h, opKIx 0 rowsS h (.gl 0) (.str [99, 111, 117, 110, 116]) = .ok (.tup [.int 4, .gl 8]) h := fun h => rfl
  have cv : ∀ (x : PV) h, mCallV 3 tab 3 (maCons (mOp opIx (mVar 0) (mC (.int 1))) (maCons (mSl (mVar 0) (moSome (mC (.int 2))) moNone) (maCons (mVar 1) maNil))) [some (clm L rs es n c), some (.tup []), some (.int 4), some (.gl 8)] h = .ok (.bl (decide ((Bt rs es n 0 : Int) = c))) h := fun x h => by
    unfold mCallV
    simp [ht, q1, sl, shows_count_c o n hn c, List.range_succ]
  unfold m_holds
  simp [b_holds, kd, isiT, tb_tuple, tb_str, List.lookup, ln, q0, q1, k1, k2, told_c o, cv .non]
end
end MM

end
section
set_option maxRecDepth 100000
set_option maxHeartbeats 4000000
namespace MC
open PySem L2
theorem log2_small {n K : Nat} (hK : 0 < K) (h : n < 2 ^ K) : n.log2 < K := by
  by_cases h0 : n = 0
  · subst h0; simpa using hK
  · exact (Nat.log2_lt h0).mpr h
theorem pok_int {K : Nat} {i : Int} (hK : 0 < K) (h : i.natAbs < 2 ^ K) : pok K (.int i) = true := by
  unfold pok
  exact decide_eq_true (log2_small hK h)
end MC
namespace MM
open PySem L2 MC
section
variable {L : Nat} {rs : List (List (Option Nat))} {es : List Nat} {K : Nat}
theorem row_plain (hK : 3 ≤ K) : ∀ r : List (Option Nat), (∀ g, some g ∈ r → g < 8) → poks K (r.map ov) = true ∧ pnds (r.map ov) = r.length ∧ pdps (r.map ov) = 0
  | [], _ => ⟨rfl, rfl, rfl⟩
  | x :: r, h => by
    obtain ⟨h1, h2, h3⟩ := row_plain hK r fun g hg => h g (List.mem_cons_of_mem _ hg)
    have p8 : 8 ≤ 2 ^ K := Nat.le_trans (show 8 ≤ 2 ^ 3 by decide) (Nat.pow_le_pow_right (by decide) hK)
    have h0 : pok K (ov x) = true ∧ pnd (ov x) = 1 ∧ pdp (ov x) = 0 := by
      cases x with
      | none => exact ⟨rfl, rfl, rfl⟩
      | some g => exact ⟨pok_int (by omega) (by have := h g List.mem_cons_self; simp; omega), rfl, rfl⟩
    rw [List.map_cons]
    unfold poks pnds pdps
    rw [h0.1, h0.2.1, h0.2.2, h1, h2, h3]
    exact ⟨rfl, by rw [List.length_cons]; omega, rfl⟩
theorem rows_plain (hK : 3 ≤ K) : ∀ t : List (List (Option Nat)), (∀ r ∈ t, r.length ≤ 5 ∧ ∀ g, some g ∈ r → g < 8) → poks K (rowsV t) = true ∧ pnds (rowsV t) ≤ 6 * t.length ∧ pdps (rowsV t) ≤ 1
  | [], _ => ⟨rfl, Nat.le_refl _, by decide⟩
  | r :: t, h => by
    obtain ⟨h1, h2, h3⟩ := rows_plain hK t fun x hx => h x (List.mem_cons_of_mem _ hx)
    obtain ⟨g1, g2, g3⟩ := row_plain hK r (h r List.mem_cons_self).2
    have l := (h r List.mem_cons_self).1
    have e1 : pok K (rowV r) = true := by unfold rowV pok; exact g1
    have e2 : pnd (rowV r) = r.length + 1 := by unfold rowV pnd; rw [g2]
    have e3 : pdp (rowV r) = 1 := by unfold rowV pdp; rw [g3]
    show poks K (rowV r :: rowsV t) = true ∧ pnds (rowV r :: rowsV t) ≤ _ ∧ pdps (rowV r :: rowsV t) ≤ 1
    unfold poks pnds pdps
    rw [e1, e2, e3, h1]
    refine ⟨rfl, by rw [List.length_cons]; omega, by omega⟩
theorem ints_plain (hK : 3 ≤ K) : ∀ t : List Nat, (∀ e ∈ t, e < 8) → poks K ((enI t).map PV.int) = true ∧ pnds ((enI t).map PV.int) = t.length ∧ pdps ((enI t).map PV.int) = 0
  | [], _ => ⟨rfl, rfl, rfl⟩
  | e :: t, h => by
    obtain ⟨h1, h2, h3⟩ := ints_plain hK t fun x hx => h x (List.mem_cons_of_mem _ hx)
    have p8 : 8 ≤ 2 ^ K := Nat.le_trans (show 8 ≤ 2 ^ 3 by decide) (Nat.pow_le_pow_right (by decide) hK)
    have h0 : pok K (.int (e : Int)) = true := pok_int (by omega) (by have := h e List.mem_cons_self; simp; omega)
    show poks K (.int (e : Int) :: (enI t).map PV.int) = true ∧ pnds (.int (e : Int) :: (enI t).map PV.int) = _ ∧ pdps (.int (e : Int) :: (enI t).map PV.int) = 0
    unfold poks pnds pdps
    rw [h0, h1, h2, h3]
    exact ⟨rfl, by simp [pnd]; omega, rfl⟩
theorem pl_plain (o : TO L rs es) (hK : 3 ≤ K) : pok K (pl L rs es) = true ∧ pnd (pl L rs es) ≤ 60 ∧ pdp (pl L rs es) ≤ 3 := by
  obtain ⟨r1, r8⟩ := n8 o
  have p8 : 8 ≤ 2 ^ K := Nat.le_trans (show 8 ≤ 2 ^ 3 by decide) (Nat.pow_le_pow_right (by decide) hK)
  obtain ⟨a1, a2, a3⟩ := rows_plain hK rs fun r hr => by
    obtain ⟨k, ek⟩ := List.mem_iff_getElem?.mp hr
    obtain ⟨b1, b2⟩ := o.row ek
    have := o.l5
    exact ⟨by omega, fun g hg => by have := b2 g hg; omega⟩
  obtain ⟨c1, c2, c3⟩ := ints_plain hK es fun e he => by
    have := o.ends.2 e (en_mem.mpr he)
    rw [rowsV_len] at this
    omega
  have l5 := o.l5
  have hL : pok K (.int (L : Int)) = true := pok_int (by omega) (by simp; omega)
  have el := ends_len o
  unfold pl plnV
  refine ⟨?_, ?_, ?_⟩
  · simp [pok, poks, a1, c1]
    unfold pok at hL
    simpa using hL
  · simp [pnd, pnds, c2]; omega
  · simp [pdp, pdps, c3]; omega
theorem clm_plain (o : TO L rs es) (hK : 9 ≤ K) {n : Nat} (hn : n ≤ 300) {c : Int} (hc : c.natAbs < 2 ^ K) : pok K (clm L rs es n c) = true ∧ pnd (clm L rs es n c) ≤ 80 ∧ pdp (clm L rs es n c) ≤ 4 := by
  obtain ⟨a1, a2, a3⟩ := pl_plain o (K := K) (by omega)
  have p9 : 512 ≤ 2 ^ K := Nat.le_trans (show 512 ≤ 2 ^ 9 by decide) (Nat.pow_le_pow_right (by decide) hK)
  have h1 : pok K (.int (n : Int)) = true := pok_int (by omega) (by simp; omega)
  have h2 : pok K (.int c) = true := pok_int (by omega) hc
  have h3 : pok K (.str [99, 111, 117, 110, 116]) = true := by unfold pok; decide
  refine ⟨?_, ?_, ?_⟩
  · unfold clm pok poks poks poks poks poks
    rw [a1, h1, h2, h3]; rfl
  · unfold clm pnd pnds pnds pnds pnds pnds
    simp only [pnd, List.length_cons, List.length_nil]
    omega
  · unfold clm pdp pdps pdps pdps pdps pdps
    simp only [pdp]
    omega
theorem pow5 {t : Nat} (h : t ≤ 300) : 5 ^ t < 2 ^ 900 :=
  Nat.lt_of_le_of_lt (Nat.pow_le_pow_right (by decide) h) (by decide +kernel)
end
end MM

end
section
set_option maxRecDepth 100000
set_option maxHeartbeats 4000000
namespace MC
open PySem L2
section
variable {m : MF} {xs as : List PV} {h g : PH} {v : PV}
theorem set_same {h : PH} {j : Nat} {o : PO} (e : h[j]? = some o) : h.set j o = h := by
  obtain ⟨l, e⟩ := List.getElem?_eq_some_iff.mp e
  rw [← e, List.set_getElem_self]
/-- one list is handed over and stays, a value comes back -/
theorem call_1p {j : Nat} {ys : List PV} (hr : refsVs xs = [j]) (ha : renVs (idx [j]) xs = some as) (hj : h[j]? = some (.lst ys)) (hy : noRefs ys = true) (hm : Ws (m as [.lst ys]) fun u g => u = v ∧ g[0]? = some (.lst ys)) (hv : noRef v = true) :
    callG takeBack m xs h = .ok v h := by
  obtain ⟨u, g, e, rfl, hg0⟩ := hm
  obtain ⟨y1, y2⟩ := flatO_of hy
  have v1 : noRefs [u] = true := by unfold noRefs; rw [hv]; rfl
  have rl : reach g FUEL (refsVs [u] ++ List.range [j].length) [] = some [0] := by
    rw [refss_no [u] v1]; exact reach1 hg0 y1
  have nw : newsOf [j] [0] = [] := by simp [newsOf]
  have e := call_gen (m := m) (h := h) (xs := xs) (as := as) (v := u) (u := u) (fp := [j]) (hc := [.lst ys]) (live := [0]) (os := [.lst ys]) (ns := []) (g := g) (by rw [hr]; exact reach1 hj y1) ha (by simp [mapO, pick, hj, y2]) e rl
    (by rw [nw]; exact rens_no _ [u] v1)
    (by
      rw [nw]
      show mapO _ [0] = _
      simp [mapO, pick, hg0, y2])
    (by rw [nw]; rfl)
  rw [e]
  have : setAll h [j] [PO.lst ys] = h := set_same hj
  rw [this, List.append_nil]
end
end MC
namespace MM
open PySem L2 MC
def smp : PV → Bool
  | .non => true
  | .bl _ => true
  | .int _ => true
  | .str _ => true
  | .tup xs => noRefs xs
  | _ => false
theorem smp_no {x : PV} (h : smp x = true) : noRef x = true := by
  cases x <;> first | rfl | (unfold smp at h; unfold noRef; exact h) | cases h
def okA : PV → Bool
  | .int i => decide (0 ≤ i) && decide (i ≤ 300)
  | _ => false
def isI : PV → Bool
  | .int _ => true
  | _ => false
def isE : PV → Bool
  | .tup [] => true
  | _ => false
theorem between_v (x : PV) (hx : smp x = true) (h : PH) : callG takeBack m_is_between [x, .int 0, .int 300] h = .ok (.bl (okA x)) h := by
  refine call_pureW (by simp [noRefs, smp_no hx, noRef]) ?_ rfl
  unfold m_is_between
  cases x with
  | int i => by_cases h1 : 0 ≤ i <;> simp [b_is_between, isiT, tb_int, tb_bool, List.lookup, okA, h1]
  | non => simp [b_is_between, isiT, tb_int, tb_bool, List.lookup, okA]
  | bl b => simp [b_is_between, isiT, tb_int, tb_bool, List.lookup, okA]
  | str s => simp [b_is_between, isiT, tb_int, tb_bool, List.lookup, okA]
  | tup s => simp [b_is_between, isiT, tb_int, tb_bool, List.lookup, okA]
  | _ => cases hx
theorem integer_v (x : PV) (hx : smp x = true) (h : PH) : callG takeBack m_is_integer [x] h = .ok (.bl (isI x)) h := by
  refine call_pureW (by simp [noRefs, smp_no hx]) ?_ rfl
  unfold m_is_integer
  cases x with
  | int i => simp [b_is_integer, isiT, tb_int, tb_bool, List.lookup, isI]
  | non => simp [b_is_integer, isiT, tb_int, tb_bool, List.lookup, isI]
  | bl b => simp [b_is_integer, isiT, tb_int, tb_bool, List.lookup, isI]
  | str s => simp [b_is_integer, isiT, tb_int, tb_bool, List.lookup, isI]
  | tup s => simp [b_is_integer, isiT, tb_int, tb_bool, List.lookup, isI]
  | _ => cases hx
theorem empty_v (x : PV) (hx : smp x = true) (h : PH) : callG takeBack m_is_empty [x] h = .ok (.bl (isE x)) h := by
  refine call_pureW (by simp [noRefs, smp_no hx]) ?_ rfl
  unfold m_is_empty
  cases x with
  | int i => simp [b_is_empty, isiT, tb_tuple, List.lookup, isE]
  | non => simp [b_is_empty, isiT, tb_tuple, List.lookup, isE]
  | bl b => simp [b_is_empty, isiT, tb_tuple, List.lookup, isE]
  | str s => simp [b_is_empty, isiT, tb_tuple, List.lookup, isE]
  | tup s =>
    cases s with
    | nil => simp [b_is_empty, isiT, tb_tuple, List.lookup, isE]
    | cons a s => simp [b_is_empty, isiT, tb_tuple, List.lookup, isE]; omega
  | _ => cases hx
theorem kd_lst {h : PH} {n : Nat} {ys : List PV} (e : h[n]? = some (.lst ys)) : kindP h (.ref n) = some (.inl 5) := by
  simp [kindP, e]
theorem empty_l {h : PH} {j : Nat} (e : h[j]? = some (.lst [])) : callG takeBack m_is_empty [.ref j] h = .ok (.bl false) h := by
  refine call_1p (as := [.ref 0]) (by simp [refsVs, refsV]) (by simp [renVs, renV, idx_hd]) e rfl ?_ rfl
  unfold m_is_empty
  simp [b_is_empty, isiT, tb_tuple, List.lookup, kd_lst (h := [.lst []]) (n := 0) rfl]
section
variable {L : Nat} {rs : List (List (Option Nat))} {es : List Nat}
/-- whether a claim of a count holds -/
def hvl (rs : List (List (Option Nat))) (es : List Nat) (x y : PV) (z : Bool) : Bool := okA x && (isI y && (z && (match x, y with
  | .int i, .int j => decide ((Bt rs es i.toNat 0 : Int) = j)
  | _, _ => false)))
def clv (L : Nat) (rs : List (List (Option Nat))) (es : List Nat) (x y : PV) : PV := .tup [.str [99, 111, 117, 110, 116], pl L rs es, x, y]
theorem clv_noref (o : TO L rs es) {x y : PV} (hx : smp x = true) (hy : smp y = true) : noRef (clv L rs es x y) = true := by simp [clv, noRef, noRefs, pl_noref o, smp_no hx, smp_no hy]
/-- the body, whatever the paper is -/
theorem shows_body (o : TO L rs es) (x y z : PV) (hx : smp x = true) (hy : smp y = true) (b : Bool) (h : PH) (hz : callG takeBack m_is_empty [z] h = .ok (.bl b) h) : Ws (m_shows_count [pl L rs es, .tup [x, y], z] h) fun v g => v = .bl (hvl rs es x y b) ∧ g = h := by
  unfold m_shows_count
  simp [b_shows_count, between_v x hx]
  cases a1 : okA x with
  | false => simp [hvl, a1]
  | true =>
    simp [integer_v y hy]
    cases a2 : isI y with
    | false => simp [hvl, a2]
    | true =>
      simp [hz]
      cases b with
      | false => simp [hvl]
      | true =>
        cases x <;> try cases a1
        rename_i i
        cases y <;> try cases a2
        rename_i j
        have hi : 0 ≤ i ∧ i ≤ 300 := by unfold okA at a1; simpa using a1
        obtain ⟨n, rfl⟩ : ∃ n : Nat, i = n := ⟨i.toNat, by omega⟩
        simp [made_of_c o, count_of_c o n (by omega), hvl, a1, isI]
theorem shows_v (o : TO L rs es) (x y z : PV) (hx : smp x = true) (hy : smp y = true) (hz : smp z = true) (h : PH) : callG takeBack m_shows_count [pl L rs es, .tup [x, y], z] h = .ok (.bl (hvl rs es x y (isE z))) h :=
  call_pureW (by simp [noRefs, pl_noref o, noRef, smp_no hx, smp_no hy, smp_no hz]) ((shows_body o x y z hx hy _ [] (empty_v z hz [])).mono fun _ _ q => q.1) rfl
theorem shows_l (o : TO L rs es) (x y : PV) (hx : smp x = true) (hy : smp y = true) {h : PH} {j : Nat} (e : h[j]? = some (.lst [])) : callG takeBack m_shows_count [pl L rs es, .tup [x, y], .ref j] h = .ok (.bl (hvl rs es x y false)) h := by
  have n1 := pl_noref o
  have n2 : noRef (.tup [x, y]) = true := by simp [noRef, noRefs, smp_no hx, smp_no hy]
  refine call_1p (as := [pl L rs es, .tup [x, y], .ref 0]) (by simp [refsVs, refs_no _ n1, refs_no _ n2]; rfl) (by simp [renVs, ren_no _ _ n1, renV, idx_hd, ren_no _ _ (smp_no hx), ren_no _ _ (smp_no hy)]) e rfl ((shows_body o x y (.ref 0) hx hy _ [.lst []] (empty_l rfl)).mono fun _ _ q => ⟨q.1, by rw [q.2]; rfl⟩) rfl
theorem holds_body (tab : List (Nat × MF)) (ht : tab.lookup 8 = some m_shows_count) (o : TO L rs es) (x y z : PV) (hx : smp x = true) (hy : smp y = true) (b : Bool) (h : PH) (hz : callG takeBack m_shows_count [pl L rs es, .tup [x, y], z] h = .ok (.bl b) h) : Ws (m_holds tab [clv L rs es x y, z] h) fun v g => v = .bl b ∧ g = h := by
  have q0 : ∀ h, opIx h (clv L rs es x y) (.int 0) = .ok (.str [99, 111, 117, 110, 116]) h := fun h => ix_tup (i := 0) rfl
  have q1 : ∀ h, opIx h (clv L rs es x y) (.int 1) = .ok (pl L rs es) h := fun h => ix_tup (i := 1) rfl
  have ln : ∀ h, bLen h [clv L rs es x y] = .ok (.int 4) h := fun h => rfl
  have kd : ∀ h, kindP h (clv L rs es x y) = some (.inl 4) := fun h => rfl
  have sl : ∀ h, opSl h (clv L rs es x y) (some 2) none = .ok (.tup [x, y]) h := fun h => rfl
  have k1 : ∀ h, opKIn true 0 rowsS h (.str [99, 111, 117, 110, 116]) (.gl 0) = .ok (.bl false) h := fun h => rfl
  have k2 : ∀ h, opKIx 0 rowsS h (.gl 0) (.str [99, 111, 117, 110, 116]) = .ok (.tup [.int 4, .gl 8]) h := fun h => rfl
  have cv : mCallV 3 tab 3 (maCons (mOp opIx (mVar 0) (mC (.int 1))) (maCons (mSl (mVar 0) (moSome (mC (.int 2))) moNone) (maCons (mVar 1) maNil))) [some (clv L rs es x y), some z, some (.int 4), some (.gl 8)] h = .ok (.bl b) h := by
    unfold mCallV
    simp [ht, q1, sl, hz, List.range_succ]
  unfold m_holds
  simp [b_holds, kd, isiT, tb_tuple, tb_str, List.lookup, ln, q0, q1, k1, k2, told_c o, cv]
theorem holds_v (tab : List (Nat × MF)) (ht : tab.lookup 8 = some m_shows_count) (o : TO L rs es) (x y z : PV) (hx : smp x = true) (hy : smp y = true) (hz : smp z = true) (h : PH) : callG takeBack (m_holds tab) [clv L rs es x y, z] h = .ok (.bl (hvl rs es x y (isE z))) h :=
  call_pureW (by simp [noRefs, clv_noref o hx hy, smp_no hz]) ((holds_body tab ht o x y z hx hy _ [] (shows_v o x y z hx hy hz [])).mono fun _ _ q => q.1) rfl
theorem holds_l (tab : List (Nat × MF)) (ht : tab.lookup 8 = some m_shows_count) (o : TO L rs es) (x y : PV) (hx : smp x = true) (hy : smp y = true) {h : PH} {j : Nat} (e : h[j]? = some (.lst [])) : callG takeBack (m_holds tab) [clv L rs es x y, .ref j] h = .ok (.bl (hvl rs es x y false)) h := by
  have n1 := clv_noref o hx hy
  refine call_1p (as := [clv L rs es x y, .ref 0]) (by simp [refsVs, refs_no _ n1]; rfl) (by simp [renVs, ren_no _ _ n1, renV, idx_hd]) e rfl ((holds_body tab ht o x y (.ref 0) hx hy _ [.lst []] (shows_l o x y hx hy rfl)).mono fun _ _ q => ⟨q.1, by rw [q.2]; rfl⟩) rfl
end
end MM

end
section
set_option maxRecDepth 100000
set_option maxHeartbeats 4000000
namespace MC
open PySem L2

/-- the refs of the n-th object -/
def refsAt (h : PH) (n : Nat) : List Nat := match h[n]? with
  | some o => refsO o
  | none => []
/-- S holds with an object all that it leads to -/
def Closed (h : PH) (S : List Nat) : Prop := ∀ n ∈ S, n < h.length ∧ ∀ m ∈ refsAt h n, m ∈ S
def wgt (h : PH) (S seen : List Nat) : Nat := ((S.filter fun n => !seen.contains n).map fun n => (refsAt h n).length).sum
theorem wgt_le (h : PH) (S seen : List Nat) : wgt h S seen ≤ wgt h S [] := by
  unfold wgt
  have e : S.filter (fun n => !([] : List Nat).contains n) = S := List.filter_eq_self.mpr fun a _ => by simp
  rw [e]
  induction S with
  | nil => exact Nat.le_refl _
  | cons n S ih =>
    have e' : S.filter (fun n => !([] : List Nat).contains n) = S := List.filter_eq_self.mpr fun a _ => by simp
    have ih := ih e'
    rw [List.filter_cons]
    split
    · rw [List.map_cons, List.map_cons, List.sum_cons, List.sum_cons]; omega
    · rw [List.map_cons, List.sum_cons]; omega
theorem wgt_drop {h : PH} {n : Nat} {seen : List Nat} (hn : seen.contains n = false) : ∀ {S : List Nat}, S.Nodup → n ∈ S → (refsAt h n).length + wgt h S (seen ++ [n]) = wgt h S seen
  | [], _, z => by cases z
  | m :: S, nd, z => by
    have nd2 := List.nodup_cons.mp nd
    unfold wgt
    rw [List.filter_cons, List.filter_cons]
    by_cases e : m = n
    · subst e
      have c1 : (!(seen ++ [m]).contains m) = false := by simp
      have c2 : (!seen.contains m) = true := by rw [hn]; rfl
      rw [c1, c2]
      simp only [if_true, Bool.false_eq_true, if_false, List.map_cons, List.sum_cons]
      have : S.filter (fun k => !(seen ++ [m]).contains k) = S.filter fun k => !seen.contains k := by
        refine List.filter_congr fun k hk => ?_
        have : k ≠ m := fun e => nd2.1 (e ▸ hk)
        simp [this]
      rw [this]
    · have hS : n ∈ S := (List.mem_cons.mp z).elim (fun q => absurd q.symm e) id
      have ih := wgt_drop hn nd2.2 hS (h := h)
      unfold wgt at ih
      have c : (seen ++ [n]).contains m = seen.contains m := by simp [e]
      rw [c]
      split
      · rw [List.map_cons, List.map_cons, List.sum_cons, List.sum_cons]; omega
      · exact ih
theorem reach_spec {h : PH} {S : List Nat} (cl : Closed h S) (nd : S.Nodup) : ∀ (f : Nat) (todo seen : List Nat), (∀ n ∈ todo, n ∈ S) → (∀ n ∈ seen, n ∈ S) → todo.length + wgt h S seen ≤ f →
    ∃ fp, reach h f todo seen = some fp ∧ (∀ n ∈ seen, n ∈ fp) ∧ (∀ n ∈ todo, n ∈ fp) ∧ (∀ n ∈ fp, n ∈ S) ∧ (∀ n ∈ fp, n ∈ seen ∨ ∀ m ∈ refsAt h n, m ∈ fp)
  | f, [], seen, ht, hs, hw => by
    refine ⟨seen, ?_, fun _ z => z, fun _ z => (nomatch z), hs, fun _ z => .inl z⟩
    cases f <;> (unfold reach; rfl)
  | 0, n :: todo, seen, ht, hs, hw => by simp at hw
  | f + 1, n :: todo, seen, ht, hs, hw => by
    have hn := ht n List.mem_cons_self
    rw [List.length_cons] at hw
    unfold reach
    cases c : seen.contains n with
    | true =>
      rw [cond_true]
      obtain ⟨fp, e, a, b, d, k⟩ := reach_spec cl nd f todo seen (fun m hm => ht m (List.mem_cons_of_mem _ hm)) hs (by omega)
      refine ⟨fp, e, a, fun m hm => ?_, d, k⟩
      rcases List.mem_cons.mp hm with rfl | hm
      · exact a _ (List.contains_iff_mem.mp c)
      · exact b m hm
    | false =>
      rw [cond_false]
      obtain ⟨hl, hc⟩ := cl n hn
      have eo : h[n]? = some h[n] := List.getElem?_eq_getElem hl
      have er : refsAt h n = refsO h[n] := by unfold refsAt; rw [eo]
      rw [eo]
      have w := wgt_drop (h := h) c nd hn
      obtain ⟨fp, e, a, b, d, k⟩ := reach_spec cl nd f (refsO h[n] ++ todo) (seen ++ [n]) (fun m hm => by
        rcases List.mem_append.mp hm with q | q
        · exact hc m (by rw [er]; exact q)
        · exact ht m (List.mem_cons_of_mem _ q)) (fun m hm => by
        rcases List.mem_append.mp hm with q | q
        · exact hs m q
        · rw [List.mem_singleton.mp q]; exact hn) (by rw [List.length_append, ← er]; omega)
      refine ⟨fp, e, fun m hm => a m (List.mem_append_left _ hm), fun m hm => ?_, d, fun m hm => ?_⟩
      · rcases List.mem_cons.mp hm with rfl | hm
        · exact a _ (List.mem_append_right _ (List.mem_singleton.mpr rfl))
        · exact b m (List.mem_append_right _ hm)
      · rcases k m hm with q | q
        · rcases List.mem_append.mp q with q | q
          · exact .inl q
          · rw [List.mem_singleton.mp q]
            exact .inr fun x hx => b x (List.mem_append_left _ (by rw [← er]; exact hx))
        · exact .inr q

mutual
theorem ren_tot {f : Nat → Option Nat} : ∀ x : PV, (∀ n ∈ refsV x, ∃ m, f n = some m) → ∃ y, renV f x = some y
  | .non, _ | .bl _, _ | .int _, _ | .str _, _ | .gl _, _ => by unfold renV; exact ⟨_, rfl⟩
  | .tup xs, h => by
    obtain ⟨ys, e⟩ := rens_tot xs (by unfold refsV at h; exact h)
    unfold renV; rw [e]; exact ⟨_, rfl⟩
  | .scr xs, h => by
    obtain ⟨ys, e⟩ := rens_tot xs (by unfold refsV at h; exact h)
    unfold renV; rw [e]; exact ⟨_, rfl⟩
  | .rdic xs, h => by
    obtain ⟨ys, e⟩ := renk_tot xs (by unfold refsV at h; exact h)
    unfold renV; rw [e]; exact ⟨_, rfl⟩
  | .ins c fs, h => by
    obtain ⟨ys, e⟩ := renf_tot fs (by unfold refsV at h; exact h)
    unfold renV; rw [e]; exact ⟨_, rfl⟩
  | .ref n, h => by
    obtain ⟨m, e⟩ := h n (by unfold refsV; exact List.mem_singleton.mpr rfl)
    unfold renV; rw [e]; exact ⟨_, rfl⟩
theorem rens_tot {f : Nat → Option Nat} : ∀ x : List PV, (∀ n ∈ refsVs x, ∃ m, f n = some m) → ∃ y, renVs f x = some y
  | [], _ => by unfold renVs; exact ⟨_, rfl⟩
  | x :: xs, h => by
    unfold refsVs at h
    obtain ⟨y, e1⟩ := ren_tot x fun n hn => h n (List.mem_append_left _ hn)
    obtain ⟨ys, e2⟩ := rens_tot xs fun n hn => h n (List.mem_append_right _ hn)
    unfold renVs; rw [e1, e2]; exact ⟨_, rfl⟩
theorem renk_tot {f : Nat → Option Nat} : ∀ x : List (PV × PV), (∀ n ∈ refsK x, ∃ m, f n = some m) → ∃ y, renK f x = some y
  | [], _ => by unfold renK; exact ⟨_, rfl⟩
  | (k, x) :: xs, h => by
    unfold refsK at h
    obtain ⟨y, e1⟩ := ren_tot x fun n hn => h n (List.mem_append_left _ hn)
    obtain ⟨ys, e2⟩ := renk_tot xs fun n hn => h n (List.mem_append_right _ hn)
    unfold renK; rw [e1, e2]; exact ⟨_, rfl⟩
theorem renf_tot {f : Nat → Option Nat} : ∀ x : List (Nm × PV), (∀ n ∈ refsF x, ∃ m, f n = some m) → ∃ y, renF f x = some y
  | [], _ => by unfold renF; exact ⟨_, rfl⟩
  | (k, x) :: xs, h => by
    unfold refsF at h
    obtain ⟨y, e1⟩ := ren_tot x fun n hn => h n (List.mem_append_left _ hn)
    obtain ⟨ys, e2⟩ := renf_tot xs fun n hn => h n (List.mem_append_right _ hn)
    unfold renF; rw [e1, e2]; exact ⟨_, rfl⟩
end
mutual
/-- what was renamed leads to renamed objects, comes back, and leads to as many -/
theorem ren_back {f b : Nat → Option Nat} (hb : ∀ n m, f n = some m → b m = some n) : ∀ (x y : PV), renV f x = some y → renV b y = some x ∧ (∀ m ∈ refsV y, ∃ n ∈ refsV x, f n = some m) ∧ (refsV y).length = (refsV x).length
  | .non, y, e | .bl _, y, e | .int _, y, e | .str _, y, e | .gl _, y, e => by unfold renV at e; cases e; exact ⟨by unfold renV; rfl, fun m hm => (by unfold refsV at hm; cases hm), rfl⟩
  | .tup xs, y, e => by
    unfold renV at e
    cases q : renVs f xs with
    | none => rw [q] at e; cases e
    | some ys =>
      rw [q] at e; cases e
      obtain ⟨a, c, d⟩ := rens_back hb xs ys q
      exact ⟨by unfold renV; rw [a], by unfold refsV; exact c, by unfold refsV; exact d⟩
  | .scr xs, y, e => by
    unfold renV at e
    cases q : renVs f xs with
    | none => rw [q] at e; cases e
    | some ys =>
      rw [q] at e; cases e
      obtain ⟨a, c, d⟩ := rens_back hb xs ys q
      exact ⟨by unfold renV; rw [a], by unfold refsV; exact c, by unfold refsV; exact d⟩
  | .rdic xs, y, e => by
    unfold renV at e
    cases q : renK f xs with
    | none => rw [q] at e; cases e
    | some ys =>
      rw [q] at e; cases e
      obtain ⟨a, c, d⟩ := renk_back hb xs ys q
      exact ⟨by unfold renV; rw [a], by unfold refsV; exact c, by unfold refsV; exact d⟩
  | .ins k xs, y, e => by
    unfold renV at e
    cases q : renF f xs with
    | none => rw [q] at e; cases e
    | some ys =>
      rw [q] at e; cases e
      obtain ⟨a, c, d⟩ := renf_back hb xs ys q
      exact ⟨by unfold renV; rw [a], by unfold refsV; exact c, by unfold refsV; exact d⟩
  | .ref n, y, e => by
    unfold renV at e
    cases q : f n with
    | none => rw [q] at e; cases e
    | some m =>
      rw [q] at e; cases e
      refine ⟨by unfold renV; rw [hb n m q], fun k hk => ?_, by unfold refsV; rfl⟩
      unfold refsV at hk ⊢
      rw [List.mem_singleton.mp hk]
      exact ⟨n, List.mem_singleton.mpr rfl, q⟩
theorem rens_back {f b : Nat → Option Nat} (hb : ∀ n m, f n = some m → b m = some n) : ∀ (x y : List PV), renVs f x = some y → renVs b y = some x ∧ (∀ m ∈ refsVs y, ∃ n ∈ refsVs x, f n = some m) ∧ (refsVs y).length = (refsVs x).length
  | [], y, e => by unfold renVs at e; cases e; exact ⟨by unfold renVs; rfl, fun m hm => (by unfold refsVs at hm; cases hm), rfl⟩
  | x :: xs, y, e => by
    unfold renVs at e
    cases q1 : renV f x with
    | none => rw [q1] at e; cases e
    | some y1 =>
      cases q2 : renVs f xs with
      | none => rw [q1, q2] at e; cases e
      | some ys =>
        rw [q1, q2] at e; cases e
        obtain ⟨a1, c1, d1⟩ := ren_back hb x y1 q1
        obtain ⟨a2, c2, d2⟩ := rens_back hb xs ys q2
        refine ⟨by unfold renVs; rw [a1, a2], fun m hm => ?_, by unfold refsVs; rw [List.length_append, List.length_append, d1, d2]⟩
        unfold refsVs at hm ⊢
        rcases List.mem_append.mp hm with z | z
        · obtain ⟨n, h1, h2⟩ := c1 m z; exact ⟨n, List.mem_append_left _ h1, h2⟩
        · obtain ⟨n, h1, h2⟩ := c2 m z; exact ⟨n, List.mem_append_right _ h1, h2⟩
theorem renk_back {f b : Nat → Option Nat} (hb : ∀ n m, f n = some m → b m = some n) : ∀ (x y : List (PV × PV)), renK f x = some y → renK b y = some x ∧ (∀ m ∈ refsK y, ∃ n ∈ refsK x, f n = some m) ∧ (refsK y).length = (refsK x).length
  | [], y, e => by unfold renK at e; cases e; exact ⟨by unfold renK; rfl, fun m hm => (by unfold refsK at hm; cases hm), rfl⟩
  | (k, x) :: xs, y, e => by
    unfold renK at e
    cases q1 : renV f x with
    | none => rw [q1] at e; cases e
    | some y1 =>
      cases q2 : renK f xs with
      | none => rw [q1, q2] at e; cases e
      | some ys =>
        rw [q1, q2] at e; cases e
        obtain ⟨a1, c1, d1⟩ := ren_back hb x y1 q1
        obtain ⟨a2, c2, d2⟩ := renk_back hb xs ys q2
        refine ⟨by unfold renK; rw [a1, a2], fun m hm => ?_, by unfold refsK; rw [List.length_append, List.length_append, d1, d2]⟩
        unfold refsK at hm ⊢
        rcases List.mem_append.mp hm with z | z
        · obtain ⟨n, h1, h2⟩ := c1 m z; exact ⟨n, List.mem_append_left _ h1, h2⟩
        · obtain ⟨n, h1, h2⟩ := c2 m z; exact ⟨n, List.mem_append_right _ h1, h2⟩
theorem renf_back {f b : Nat → Option Nat} (hb : ∀ n m, f n = some m → b m = some n) : ∀ (x y : List (Nm × PV)), renF f x = some y → renF b y = some x ∧ (∀ m ∈ refsF y, ∃ n ∈ refsF x, f n = some m) ∧ (refsF y).length = (refsF x).length
  | [], y, e => by unfold renF at e; cases e; exact ⟨by unfold renF; rfl, fun m hm => (by unfold refsF at hm; cases hm), rfl⟩
  | (k, x) :: xs, y, e => by
    unfold renF at e
    cases q1 : renV f x with
    | none => rw [q1] at e; cases e
    | some y1 =>
      cases q2 : renF f xs with
      | none => rw [q1, q2] at e; cases e
      | some ys =>
        rw [q1, q2] at e; cases e
        obtain ⟨a1, c1, d1⟩ := ren_back hb x y1 q1
        obtain ⟨a2, c2, d2⟩ := renf_back hb xs ys q2
        refine ⟨by unfold renF; rw [a1, a2], fun m hm => ?_, by unfold refsF; rw [List.length_append, List.length_append, d1, d2]⟩
        unfold refsF at hm ⊢
        rcases List.mem_append.mp hm with z | z
        · obtain ⟨n, h1, h2⟩ := c1 m z; exact ⟨n, List.mem_append_left _ h1, h2⟩
        · obtain ⟨n, h1, h2⟩ := c2 m z; exact ⟨n, List.mem_append_right _ h1, h2⟩
end
theorem reno_tot {f : Nat → Option Nat} : ∀ o : PO, (∀ n ∈ refsO o, ∃ m, f n = some m) → ∃ p, renO f o = some p
  | .lst xs, h => by obtain ⟨y, e⟩ := rens_tot xs h; exact ⟨.lst y, by simp only [renO, e]⟩
  | .ins c xs, h => by obtain ⟨y, e⟩ := renf_tot xs h; exact ⟨.ins c y, by simp only [renO, e]⟩
  | .dic l xs, h => by obtain ⟨y, e⟩ := renk_tot xs h; exact ⟨.dic l y, by simp only [renO, e]⟩
  | .dit l xs, h => by obtain ⟨y, e⟩ := renk_tot xs h; exact ⟨.dit l y, by simp only [renO, e]⟩
theorem reno_back {f b : Nat → Option Nat} (hb : ∀ n m, f n = some m → b m = some n) : ∀ (o p : PO), renO f o = some p → renO b p = some o ∧ (∀ m ∈ refsO p, ∃ n ∈ refsO o, f n = some m) ∧ (refsO p).length = (refsO o).length
  | .lst xs, p, e => by
    simp only [renO] at e
    split at e
    · rename_i ys q
      cases e
      obtain ⟨a, c, d⟩ := rens_back hb xs ys q
      exact ⟨by simp only [renO, a], c, d⟩
    · cases e
  | .ins k xs, p, e => by
    simp only [renO] at e
    split at e
    · rename_i ys q
      cases e
      obtain ⟨a, c, d⟩ := renf_back hb xs ys q
      exact ⟨by simp only [renO, a], c, d⟩
    · cases e
  | .dic k xs, p, e => by
    simp only [renO] at e
    split at e
    · rename_i ys q
      cases e
      obtain ⟨a, c, d⟩ := renk_back hb xs ys q
      exact ⟨by simp only [renO, a], c, d⟩
    · cases e
  | .dit k xs, p, e => by
    simp only [renO] at e
    split at e
    · rename_i ys q
      cases e
      obtain ⟨a, c, d⟩ := renk_back hb xs ys q
      exact ⟨by simp only [renO, a], c, d⟩
    · cases e
theorem mapO_tot {α β : Type} {f : α → Option β} : ∀ {xs : List α}, (∀ x ∈ xs, ∃ y, f x = some y) → ∃ ys, mapO f xs = some ys
  | [], _ => ⟨[], rfl⟩
  | x :: xs, h => by
    obtain ⟨y, e⟩ := h x List.mem_cons_self
    obtain ⟨ys, e2⟩ := mapO_tot (xs := xs) fun z hz => h z (List.mem_cons_of_mem _ hz)
    exact ⟨y :: ys, by unfold mapO; rw [e, e2]⟩
theorem mapO_eq {α β : Type} {f : α → Option β} : ∀ {xs : List α} {ys : List β}, xs.length = ys.length → (∀ (i : Nat) x, xs[i]? = some x → f x = ys[i]?) → mapO f xs = some ys
  | [], [], _, _ => rfl
  | [], _ :: _, l, _ => by simp at l
  | _ :: _, [], l, _ => by simp at l
  | x :: xs, y :: ys, l, h => by
    have e : f x = some y := h 0 x rfl
    unfold mapO
    rw [e, mapO_eq (by simpa using l) fun i z hz => h (i + 1) z hz]
theorem idx_mem {n : Nat} : ∀ {l : List Nat}, n ∈ l → ∃ m, idx l n = some m
  | [], h => by cases h
  | x :: r, h => by
    unfold idx
    by_cases e : x = n
    · rw [beq_iff_eq.mpr e]; exact ⟨0, rfl⟩
    · rw [beq_eq_false_iff_ne.mpr e, cond_false]
      obtain ⟨m, em⟩ := idx_mem ((List.mem_cons.mp h).elim (fun q => absurd q.symm e) id)
      rw [em]; exact ⟨_, rfl⟩
theorem idx_lt {l : List Nat} {n m : Nat} (e : idx l n = some m) : m < l.length := (List.getElem?_eq_some_iff.mp (idx_get e)).1
theorem idx_of {l : List Nat} (nd : l.Nodup) {t n : Nat} (e : l[t]? = some n) : idx l n = some t := idx_at nd e
theorem sum_range_le {h : PH} (g : PH) : ∀ (fp : List Nat) (k : Nat), (∀ t n, fp[t]? = some n → (refsAt g (k + t)).length ≤ (refsAt h n).length) → ((List.range' k fp.length).map fun n => (refsAt g n).length).sum ≤ (fp.map fun n => (refsAt h n).length).sum
  | [], _, _ => Nat.le_refl _
  | n :: fp, k, hh => by
    have h0 := hh 0 n rfl
    have ih := sum_range_le g fp (k + 1) fun t m e => by
      have := hh (t + 1) m (by simpa using e)
      rwa [show k + (t + 1) = k + 1 + t by omega] at this
    rw [List.length_cons, List.range'_succ, List.map_cons, List.map_cons, List.sum_cons, List.sum_cons]
    simpa using Nat.add_le_add h0 ih
theorem sum_sub {F : Nat → Nat} : ∀ {fp S : List Nat}, fp.Nodup → (∀ n ∈ fp, n ∈ S) → (fp.map F).sum ≤ (S.map F).sum
  | [], _, _, _ => Nat.zero_le _
  | n :: fp, S, nd, hs => by
    have nd2 := List.nodup_cons.mp nd
    have hn := hs n List.mem_cons_self
    have p := List.perm_cons_erase hn
    have e : (S.map F).sum = F n + ((S.erase n).map F).sum := by
      have := (p.map F).sum_nat
      simpa using this
    have ih := sum_sub (F := F) (fp := fp) (S := S.erase n) nd2.2 fun m hm => by
      have hne : m ≠ n := fun e => nd2.1 (e ▸ hm)
      exact (List.mem_erase_of_ne hne).mpr (hs m (List.mem_cons_of_mem _ hm))
    rw [List.map_cons, List.sum_cons, e]
    omega
theorem sum_one : ∀ l : List Nat, (l.map fun _ => 1).sum = l.length
  | [] => rfl
  | _ :: l => by rw [List.map_cons, List.sum_cons, sum_one l, List.length_cons]; omega
theorem len_sub {fp S : List Nat} (nd : fp.Nodup) (hs : ∀ n ∈ fp, n ∈ S) : fp.length ≤ S.length := by
  have := sum_sub (F := fun _ => 1) nd hs
  rwa [sum_one, sum_one] at this
/-- a call that changes one list of draws and hands back what stood there -/
theorem call_dr {m : MF} {xs : List PV} {h : PH} {j : Nat} {S : List Nat} {P : PV → Prop} (cl : Closed h S) (nd : S.Nodup) (hx : ∀ n ∈ refsVs xs, n ∈ S) (hj : j ∈ refsVs xs) (d : Dr j h) (hw : (refsVs xs).length + wgt h S [] ≤ FUEL) (hw2 : 100 + S.length + wgt h S [] ≤ FUEL)
    (hm : ∀ (p : Nat) (as : List PV) (hc : PH) (f : Nat → Option Nat), f j = some p → (∀ n m q, f n = some q → f m = some q → n = m) → renVs f xs = some as → (∀ n q, f n = some q → ∃ o, hc[q]? = some o ∧ pick h f n = some o) → Dr p hc → Ws (m as hc) fun v g => ∃ x, renV f x = some v ∧ (refsV x).length ≤ 100 ∧ P x ∧ Dr p g ∧ But p hc g) :
    Ws (callG takeBack m xs h) fun x h' => P x ∧ Dr j h' ∧ But j h h' := by
  obtain ⟨fp, er, _, r2, r3, r4⟩ := reach_spec cl nd FUEL (refsVs xs) [] hx (fun _ z => nomatch z) hw
  have ndf := reach_nd List.nodup_nil er
  have r5 : ∀ n ∈ fp, ∀ k ∈ refsAt h n, k ∈ fp := fun n hn => (r4 n hn).elim (fun z => nomatch z) id
  have hb : ∀ n m, idx fp n = some m → fp[m]? = some n := fun n m e => idx_get e
  obtain ⟨as, ea⟩ := rens_tot (f := idx fp) xs fun n hn => idx_mem (r2 n hn)
  have obj : ∀ n ∈ fp, ∃ o p, h[n]? = some o ∧ refsAt h n = refsO o ∧ renO (idx fp) o = some p := fun n hn => by
    have hl := (cl n (r3 n hn)).1
    have e0 : h[n]? = some h[n] := List.getElem?_eq_getElem hl
    have e1 : refsAt h n = refsO h[n] := by unfold refsAt; rw [e0]
    obtain ⟨p, ep⟩ := reno_tot (f := idx fp) h[n] fun k hk => idx_mem (r5 n hn k (by rw [e1]; exact hk))
    exact ⟨_, p, e0, e1, ep⟩
  obtain ⟨hc, ec⟩ := mapO_tot (f := pick h (idx fp)) (xs := fp) fun n hn => by
    obtain ⟨o, p, e0, _, ep⟩ := obj n hn
    exact ⟨p, by unfold pick; rw [e0]; exact ep⟩
  have lc : hc.length = fp.length := mapO_len ec
  have hat : ∀ n q, idx fp n = some q → hc[q]? = pick h (idx fp) n := fun n q e => by
    obtain ⟨y, h1, h2⟩ := mapO_get ec (hb n q e)
    rw [h1, h2]
  have inj : ∀ n m q, idx fp n = some q → idx fp m = some q → n = m := fun n m q e1 e2 => by
    have := (hb n q e1).symm.trans (hb m q e2)
    exact Option.some.inj this
  obtain ⟨p0, ep0⟩ := idx_mem (r2 j hj)
  have dp : Dr p0 hc := by
    obtain ⟨a, b, c, e⟩ := d
    refine ⟨a, b, c, ?_⟩
    rw [hat j p0 ep0]
    unfold pick
    rw [e]
    simp [renO, skd, renVs, renV]
  obtain ⟨v, g, ev, x, ex, hxl, px, ⟨a', b', c', eg⟩, bt⟩ := hm p0 as hc (idx fp) ep0 inj ea (fun n q e => by
    obtain ⟨y, h1, h2⟩ := mapO_get ec (hb n q e)
    exact ⟨y, h1, h2⟩) dp
  have lg : g.length = fp.length := by rw [bt.1, lc]
  -- the objects behind the call
  have gat : ∀ t n, fp[t]? = some n → (t = p0 ∧ n = j ∧ g[t]? = some (skd a' b' c')) ∨ (t ≠ p0 ∧ n ≠ j ∧ ∃ o p, h[n]? = some o ∧ refsAt h n = refsO o ∧ renO (idx fp) o = some p ∧ g[t]? = some p) := fun t n e => by
    have ei := idx_of ndf e
    by_cases q : t = p0
    · subst q
      exact .inl ⟨rfl, inj n j t ei ep0, eg⟩
    · refine .inr ⟨q, fun z => ?_, ?_⟩
      · subst z
        rw [ei] at ep0
        exact q (Option.some.inj ep0)
      · obtain ⟨o, p, e0, e1, e2⟩ := obj n (List.mem_of_getElem? e)
        refine ⟨o, p, e0, e1, e2, ?_⟩
        rw [bt.2 t q, hat n t ei]
        unfold pick
        rw [e0]; exact e2
  have ref_sk : ∀ t, g[t]? = some (skd a' b' c') → refsAt g t = [] := fun t e => by
    unfold refsAt; rw [e]; rfl
  have refs_g : ∀ t n, fp[t]? = some n → (∀ k ∈ refsAt g t, k < fp.length) ∧ (refsAt g t).length ≤ (refsAt h n).length := fun t n e => by
    rcases gat t n e with ⟨_, _, q⟩ | ⟨_, _, o, p, e0, e1, e2, q⟩
    · rw [ref_sk t q]; exact ⟨fun k hk => (nomatch hk), Nat.zero_le _⟩
    · obtain ⟨_, b2, b3⟩ := reno_back hb o p e2
      have : refsAt g t = refsO p := by unfold refsAt; rw [q]
      rw [this, e1]
      exact ⟨fun k hk => by obtain ⟨n', _, z⟩ := b2 k hk; exact idx_lt z, Nat.le_of_eq b3⟩
  have clg : Closed g (List.range fp.length) := fun t ht => by
    have ht := List.mem_range.mp ht
    have e : fp[t]? = some fp[t] := List.getElem?_eq_getElem ht
    exact ⟨by rw [lg]; exact ht, fun k hk => List.mem_range.mpr ((refs_g t _ e).1 k hk)⟩
  obtain ⟨x1, x2, x3⟩ := ren_back hb x v ex
  have wg : wgt g (List.range fp.length) [] ≤ wgt h S [] := by
    unfold wgt
    have e1 : ∀ l : List Nat, l.filter (fun n => !([] : List Nat).contains n) = l := fun l => List.filter_eq_self.mpr fun a _ => by simp
    rw [e1, e1]
    refine Nat.le_trans ?_ (sum_sub (F := fun n => (refsAt h n).length) ndf r3)
    have := sum_range_le (h := h) g fp 0 fun t n e => by rw [Nat.zero_add]; exact (refs_g t n e).2
    rwa [← List.range_eq_range'] at this
  have lfp := len_sub ndf r3
  obtain ⟨live, el, _, _, l3, _⟩ := reach_spec clg List.nodup_range FUEL (refsVs [v] ++ List.range fp.length) [] (fun n hn => by
    rcases List.mem_append.mp hn with q | q
    · unfold refsVs refsVs at q
      rw [List.append_nil] at q
      obtain ⟨k, _, z⟩ := x2 n q
      exact List.mem_range.mpr (idx_lt z)
    · exact q) (fun _ z => nomatch z) (by
      have : (refsVs [v]).length ≤ 100 := by
        unfold refsVs refsVs
        rw [List.append_nil, x3]; exact hxl
      rw [List.length_append, List.length_range]
      omega)
  have nw : newsOf fp live = [] := by
    unfold newsOf
    refine List.filter_eq_nil_iff.mpr fun n hn => ?_
    have := List.mem_range.mp (l3 n hn)
    simp; omega
  have bk : ∀ n q, idx fp n = some q → backF fp [] h.length q = some n := fun n q e => by
    unfold backF
    rw [decide_eq_true (idx_lt e), cond_true]
    exact hb n q e
  have rv : renVs (backF fp [] h.length) [v] = some [x] := by
    unfold renVs renVs
    rw [(ren_back bk x v ex).1]
  let F : Nat → PO := fun n => if n = j then skd a' b' c' else (h[n]?).getD (.lst [])
  have eos : mapO (pick g (backF fp [] h.length)) (List.range fp.length) = some (fp.map F) := by
    refine mapO_eq (by simp) fun t t' e => ?_
    have ht : t < fp.length := by have := (List.getElem?_eq_some_iff.mp e).1; simpa using this
    rw [List.getElem?_range ht] at e
    cases e
    have e : fp[t]? = some fp[t] := List.getElem?_eq_getElem ht
    rw [List.getElem?_map, e]
    show pick g _ t = some (F fp[t])
    rcases gat t _ e with ⟨_, q2, q3⟩ | ⟨_, q2, o, p, e0, e1, e2, q3⟩
    · unfold pick
      rw [q3]
      simp [renO, skd, renVs, renV, F, q2]
    · unfold pick
      rw [q3]
      show renO _ p = _
      rw [(reno_back bk o p e2).1]
      have : F fp[t] = (h[fp[t]]?).getD (.lst []) := if_neg q2
      rw [this, e0]; rfl
  have fin := call_gen (m := m) (h := h) (xs := xs) (as := as) (v := v) (u := x) (fp := fp) (hc := hc) (live := live) (os := fp.map F) (ns := []) (g := g) er ea ec ev el (by rw [nw]; exact rv) (by rw [nw]; exact eos) (by rw [nw]; rfl)
  refine ⟨x, _, fin, px, ?_, ?_, fun i hi => ?_⟩
  · obtain ⟨t, et⟩ := List.mem_iff_getElem?.mp (r2 j hj)
    refine ⟨a', b', c', ?_⟩
    rw [List.append_nil, setAll_in h fp (fp.map F) ndf (by simp) et (cl j (hx j hj)).1, List.getElem?_map, et]
    simp [F]
  · rw [List.append_nil, setAll_len]
  · rw [List.append_nil]
    by_cases hf : i ∈ fp
    · obtain ⟨t, et⟩ := List.mem_iff_getElem?.mp hf
      have hl := (cl i (r3 i hf)).1
      rw [setAll_in h fp (fp.map F) ndf (by simp) et hl, List.getElem?_map, et]
      show some (F i) = _
      have : F i = (h[i]?).getD (.lst []) := if_neg hi
      rw [this, List.getElem?_eq_getElem hl]; rfl
    · exact setAll_out _ _ _ hf
end MC

end
section
set_option maxRecDepth 100000
set_option maxHeartbeats 4000000
namespace MC
open PySem L2
theorem rens_len {f : Nat → Option Nat} : ∀ {xs ys : List PV}, renVs f xs = some ys → ys.length = xs.length
  | [], ys, e => by unfold renVs at e; cases e; rfl
  | x :: xs, ys, e => by
    unfold renVs at e
    split at e
    · rename_i y ys' e1 e2
      cases e
      rw [List.length_cons, List.length_cons, rens_len e2]
    · cases e
theorem rens_at {f : Nat → Option Nat} : ∀ {xs ys : List PV} {i : Nat} {v : PV}, renVs f xs = some ys → ys[i]? = some v → ∃ x, xs[i]? = some x ∧ renV f x = some v
  | [], ys, i, v, e, g => by unfold renVs at e; cases e; cases g
  | x :: xs, ys, i, v, e, g => by
    unfold renVs at e
    split at e
    · rename_i y ys' e1 e2
      cases e
      cases i with
      | zero => cases g; exact ⟨x, rfl, e1⟩
      | succ i => exact rens_at (xs := xs) e2 (by simpa using g)
    · cases e
end MC
namespace MM
open PySem L2 MC
theorem one_of_g {hc : PH} {p q : Nat} {us : List PV} (d : Dr p hc) (hne : p ≠ q) (e : hc[q]? = some (.lst us)) (h0 : 0 < us.length) (h1 : us.length ≤ 1000) : Ws (m__law_one_of [.ref p, .ref q] hc) fun v g => (∃ i : Nat, us[i]? = some v) ∧ Dr p g ∧ But p hc g := by
  unfold m__law_one_of
  simp [b__law_one_of, len_ref e]
  refine pour_u (by omega) (by omega) d fun j h' i1 d' bt => ?_
  have hj : j < us.length := by omega
  have e' : us[j]? = some us[j] := List.getElem?_eq_getElem hj
  have e1 : h'[q]? = some (.lst us) := by rw [bt.2 q (Ne.symm hne)]; exact e
  simp [ix_ref e1 e']
  exact ⟨⟨j, e'⟩, d', bt⟩
/-- one of a menu, whatever stands on it -/
theorem one_of_u {h : PH} {j n : Nat} {us : List PV} {S : List Nat} (cl : Closed h S) (nd : S.Nodup) (hj : j ∈ S) (hn : n ∈ S) (hne : j ≠ n) (d : Dr j h) (e : h[n]? = some (.lst us)) (h0 : 0 < us.length) (h1 : us.length ≤ 1000) (hw : 100 + S.length + wgt h S [] ≤ FUEL) (hr : ∀ x ∈ us, (refsV x).length ≤ 100) :
    Ws (callG takeBack m__law_one_of [.ref j, .ref n] h) fun x h' => x ∈ us ∧ Dr j h' ∧ But j h h' := by
  have r : refsVs [.ref j, .ref n] = [j, n] := by simp [refsVs, refsV]
  refine call_dr (S := S) (P := fun x => x ∈ us) cl nd (by rw [r]; intro m hm; simp at hm; rcases hm with rfl | rfl <;> assumption) (by rw [r]; simp) d (by rw [r]; simp; omega) hw fun p as hc f fj inj ra hat dp => ?_
  have : ∃ q, f n = some q ∧ as = [.ref p, .ref q] := by
    simp [renVs, renV, fj] at ra
    cases fn : f n with
    | none => simp [fn] at ra
    | some q => simp [fn] at ra; exact ⟨q, rfl, ra.symm⟩
  obtain ⟨q, fn, rfl⟩ := this
  have pq : p ≠ q := fun z => hne (inj j n p fj (z ▸ fn))
  have hq := hat n q fn
  obtain ⟨us', e1, e2⟩ : ∃ us', hc[q]? = some (.lst us') ∧ renVs f us = some us' := by
    obtain ⟨o, e1, e2⟩ := hat n q fn
    unfold pick at e2
    rw [e] at e2
    simp only [renO] at e2
    split at e2
    · rename_i ys e3
      cases e2
      exact ⟨_, e1, e3⟩
    · cases e2
  have l := rens_len e2
  refine (one_of_g dp pq e1 (by omega) (by omega)).mono fun v g ⟨⟨i, ei⟩, d', bt⟩ => ?_
  obtain ⟨x, ex, rx⟩ := rens_at e2 ei
  have mx := List.mem_of_getElem? ex
  exact ⟨x, rx, hr x mx, mx, d', bt⟩
end MM

end
section
set_option maxRecDepth 100000
set_option maxHeartbeats 4000000
namespace K48
open PySem L2 MC MM
theorem pow19 (h : PH) : opPow h (.int 10) (.int 19) = .ok (.int 10000000000000000000) h := by rfl
theorem strI_c {i : Int} {h : PH} (e : fitI i = true) : bStrI h [.int i] = .ok (.str (strI i)) h := by
  show (bif fitI i then _ else _) = _
  rw [e]; rfl
theorem mul_l {h : PH} {n : Nat} {a : List PV} (e : h[n]? = some (.lst a)) (ha : a.length ≤ 1000) : opMul h (.ref n) (.int 9) = .ok (.ref h.length) (h ++ [.lst (List.replicate 9 a).flatten]) := by
  unfold opMul
  simp [e, ha]
theorem add_l {h : PH} {n m : Nat} {a b : List PV} (e1 : h[n]? = some (.lst a)) (e2 : h[m]? = some (.lst b)) (hl : a.length + b.length ≤ LIM) : opAdd h (.ref n) (.ref m) = .ok (.ref h.length) (h ++ [.lst (a ++ b)]) := by
  unfold opAdd
  simp [e1, e2, hl]
theorem refsAt_of {h : PH} {n : Nat} {o : PO} (e : h[n]? = some o) : refsAt h n = refsO o := by unfold refsAt; rw [e]
theorem okA_int {x : PV} (e : MM.okA x = true) : ∃ n : Nat, x = .int n ∧ n ≤ 300 := by
  cases x with
  | int i =>
    have hi : 0 ≤ i ∧ i ≤ 300 := by unfold MM.okA at e; simpa using e
    exact ⟨i.toNat, by rw [Int.toNat_of_nonneg hi.1], by omega⟩
  | _ => cases e
theorem isI_int {x : PV} (e : isI x = true) : ∃ n : Int, x = .int n := by
  cases x with
  | int i => exact ⟨i, rfl⟩
  | _ => cases e
/-- a page: its text, whether it is the empty tuple, and what it says of a claim -/
def Pg (p : PV) (h : PH) (z : Bool) : Prop := ∃ s : List Nat, (∀ os, bReprA (h ++ os) [p] = .ok (.str s) (h ++ os)) ∧ PyData.strOk (S s) = true ∧ decide (s = [40, 41]) = z ∧ ∀ (L : Nat) (rs : List (List (Option Nat))) (es : List Nat), MM.TO L rs es → ∀ x y, smp x = true → smp y = true → ∀ os, callG takeBack (m_holds tabS_) [clv L rs es x y, p] (h ++ os) = .ok (.bl (hvl rs es x y z)) (h ++ os)
theorem pg_v {p : PV} {h : PH} (s : List Nat) (e : ∀ h, bReprA h [p] = .ok (.str s) h) (o : PyData.strOk (S s) = true) (hp : smp p = true) (d : decide (s = [40, 41]) = isE p) : Pg p h (isE p) :=
  ⟨s, fun os => e _, o, d, fun L rs es o x y hx hy os => holds_v tabS_ rfl o x y p hx hy hp _⟩
theorem pg_l {h : PH} {n : Nat} (e : h[n]? = some (.lst [])) : Pg (.ref n) h false :=
  ⟨repL [], fun os => repr_l (K := 10) (by decide) (by decide) (get_app e) rfl (by decide) (by decide), by decide +kernel, by decide +kernel, fun L rs es o x y hx hy os => holds_l tabS_ rfl o x y hx hy (get_app e)⟩
def pgs (n : Nat) : List PV := [.tup [], .tup [], .tup [], .tup [], .tup [], .ref n, .non, .str [], .int 0, .tup [.tup []], .bl false]
theorem pg_all {n : Nat} {p : PV} (m : p ∈ pgs n) {h : PH} (e : h[n]? = some (.lst [])) : ∃ z, Pg p h z := by
  simp [pgs] at m
  rcases m with rfl | rfl | rfl | rfl | rfl | rfl | rfl
  · exact ⟨_, pg_v (repV (.tup [])) (fun h => repr_v (ys := []) (K := 10) (by decide) (by decide) rfl (by decide) (by decide)) (by decide +kernel) rfl (by decide +kernel)⟩
  · exact ⟨_, pg_l e⟩
  · exact ⟨_, pg_v noneT (fun h => rfl) (by decide +kernel) rfl (by decide +kernel)⟩
  · exact ⟨_, pg_v (reprS []) (fun h => rfl) (by decide +kernel) rfl (by decide +kernel)⟩
  · exact ⟨_, pg_v (strI 0) (fun h => rfl) (by decide +kernel) rfl (by decide +kernel)⟩
  · exact ⟨_, pg_v (repV (.tup [.tup []])) (fun h => repr_v (ys := [.tup []]) (K := 10) (by decide) (by decide) rfl (by decide) (by decide)) (by decide +kernel) rfl (by decide +kernel)⟩
  · exact ⟨_, pg_v falseT (fun h => rfl) (by decide +kernel) rfl (by decide +kernel)⟩
theorem whole_v (x : PV) (hx : smp x = true) (h : PH) : callG takeBack m__law_whole [x] h = .ok (.bl (isI x)) h := by
  refine call_pureW (by simp [noRefs, smp_no hx]) ?_ rfl
  unfold m__law_whole
  cases x with
  | int i => simp [b__law_whole, isiT, tb_int, tb_bool, List.lookup, isI]
  | non => simp [b__law_whole, isiT, tb_int, tb_bool, List.lookup, isI]
  | bl b => simp [b__law_whole, isiT, tb_int, tb_bool, List.lookup, isI]
  | str s => simp [b__law_whole, isiT, tb_int, tb_bool, List.lookup, isI]
  | tup s => simp [b__law_whole, isiT, tb_int, tb_bool, List.lookup, isI]
  | _ => cases hx
section
variable {L : Nat} {rs : List (List (Option Nat))} {es : List Nat}
theorem small_t (o : TO L rs es) {s : Nat} (hs : s ≤ 300) : fitI (Bt rs es s 0 : Int) = true := by
  have b := Nat.lt_of_le_of_lt (Bt_le o s 0) (pow5 hs)
  unfold fitI bigI
  have := log2_small (K := 900) (by decide) b
  simp; omega
end
theorem right_f : Fs m__law_right [] (fun v => v = .bl true) := fun a b c => by
  unfold m__law_right
  simp [b__law_right, show inR 5 = true from by decide]
  refine forB (fun t e h => ∃ x1 x2 x3 x4 x5 x6 x7 x8 x9 xa xb, e = [some (.ref 0), x1, x2, x3, x4, x5, x6, x7, x8, x9, xa, xb] ∧ Dr 0 h) ⟨_, _, _, _, _, _, _, _, _, _, _, rfl, ⟨a, b, c, rfl⟩⟩ (fun _ _ _ _ => rfl)
    (fun t x env h hx ⟨x1, x2, x3, x4, x5, x6, x7, x8, x9, xa, xb, ee, dh⟩ => ?_) fun env h ⟨x1, x2, x3, x4, x5, x6, x7, x8, x9, xa, xb, ee, dh⟩ => ?_
  · subst ee
    simp
    refine (machine_f 8 5 (by decide) (by decide)).use rfl dh fun v h1 _ ⟨L, rows, is, ev, ok⟩ d1 b1 => ?_
    obtain ⟨rs, es, rfl, rfl, o⟩ := typed_of ok
    subst ev
    change Ws (_) _
    simp [show inR 6 = true from by decide]
    refine forB (fun t e h => ∃ x3 x4 x5 x6 x7 x8 x9 xa xb, e = [some (.ref 0), some x, some (plnV L (rowsV rs) (enI es)), x3, x4, x5, x6, x7, x8, x9, xa, xb] ∧ Dr 0 h) ⟨_, _, _, _, _, _, _, _, _, rfl, d1⟩ (fun _ _ _ _ => rfl)
      (fun t y env h hy ⟨x3, x4, x5, x6, x7, x8, x9, xa, xb, ee, dh⟩ => ?_) fun env h ⟨x3, x4, x5, x6, x7, x8, x9, xa, xb, ee, dh⟩ => ?_
    · subst ee
      simp
      refine pour_u (by omega) (by omega) dh fun q h2 hq d2 b2 => ?_
      simp
      refine pour_u (by omega) (by omega) d2 fun u h3 hu d3 b3 => ?_
      simp [LIM]
      have l0 := d3.lt
      refine (one_of_f [.int q, .int u, .int 300, .int 299, .int 0, .int 1] (by simp) (by simp) (by simp [noRefs, noRef]) (by simp [noRef])).use rfl (by simp [noRefs, noRef]) d3.app last_at (by omega) fun v h4 _ hv d4 e4 b4 => ?_
      obtain ⟨s, rfl, hs⟩ : ∃ s : Nat, v = .int s ∧ s ≤ 300 := by
        simp at hv
        rcases hv with rfl | rfl | rfl | rfl | rfl | rfl
        · exact ⟨q, rfl, by omega⟩
        · exact ⟨u, rfl, by omega⟩
        · exact ⟨300, rfl, by decide⟩
        · exact ⟨299, rfl, by decide⟩
        · exact ⟨0, rfl, by decide⟩
        · exact ⟨1, rfl, by decide⟩
      have lc : ∀ (z : Nat), z ≤ 300 → ∀ h, callG takeBack m__law_count [plnV L (rowsV rs) (enI es), .int z] h = .ok (.int (Bt rs es z 0)) h := fun z hz h => law_count_c o z hz h
      have lc20 : ∀ h, callG takeBack m__law_count [plnV L (rowsV rs) (enI es), .int 20] h = .ok (.int (Bt rs es 20 0 : Nat)) h := lc 20 (by decide)
      simp [lc s hs, pow19]
      have hmid : Ws (sel (decide ((10000000000000000000 : Int) ≤ (Bt rs es s 0 : Nat))) (mSeq (mPar 4 5 (mC (PV.int 20)) (mCl0 (opF m__law_count [0, 1] []) 2 (maCons (mVar 2) (maCons (mC (PV.int 20)) maNil)))) mNil [some (PV.ref 0), some x, some (plnV L (rowsV rs) (enI es)), some y, some (PV.int s), some (PV.int (Bt rs es s 0 : Nat)), x6, x7, x8, x9, xa, xb] h4) (mNil [some (PV.ref 0), some x, some (plnV L (rowsV rs) (enI es)), some y, some (PV.int s), some (PV.int (Bt rs es s 0 : Nat)), x6, x7, x8, x9, xa, xb] h4)) (fun f g => ∃ r : Nat, r ≤ 300 ∧ f = Fl.nx [some (PV.ref 0), some x, some (plnV L (rowsV rs) (enI es)), some y, some (PV.int r), some (PV.int (Bt rs es r 0 : Nat)), x6, x7, x8, x9, xa, xb] ∧ g = h4) := by
        by_cases b19 : (10000000000000000000 : Int) ≤ (Bt rs es s 0 : Nat)
        · simp only [decide_eq_true b19, sel]
          simp [lc20]
          exact ⟨20, by omega, by simp⟩
        · simp [b19]
          exact ⟨s, hs, by simp⟩
      refine hmid.bind fun f g ⟨r, hr, ef, eg⟩ => ?_
      subst ef eg
      have st : ∀ h, bStrI h [.int (Bt rs es r 0 : Nat)] = .ok (.str (strI (Bt rs es r 0 : Nat))) h := fun h => strI_c (small_t o hr)
      have st2 : ∀ h, bStrI h [.int (r : Int)] = .ok (.str (strI (r : Int))) h := fun h => strI_c (by
        unfold fitI bigI
        have := log2_small (n := r) (K := 900) (by decide) (Nat.lt_of_le_of_lt hr (by decide))
        simp; omega)
      simp [LIM, st]
      have l4 := d4.lt
      refine (one_of_f [.int (Bt rs es r 0 : Nat), .int (Bt rs es r 0 : Nat), .int (Bt rs es r 0 : Nat), .int ((Bt rs es r 0 : Nat) + 1), .int ((Bt rs es r 0 : Nat) - 1), .int (-(Bt rs es r 0 : Nat)), .bl true, .bl false, .non, .str (strI (Bt rs es r 0 : Nat)), .tup [.int (Bt rs es r 0 : Nat)]] (by simp) (by simp) (by simp [noRefs, noRef]) (by simp [noRefs, noRef])).use rfl (by simp [noRefs, noRef]) d4.app last_at (by omega) fun v6 h6 _ hv6 d6 e6 b6 => ?_
      have s6 : smp v6 = true := by
        simp at hv6
        rcases hv6 with rfl | rfl | rfl | rfl | rfl | rfl | rfl | rfl | rfl <;> rfl
      simp [LIM, st2, pow19]
      rw [mul_l (h := h6 ++ [PO.lst [.int r]]) last_at (Nat.le_of_ble_eq_true rfl)]
      simp [LIM, st2, pow19, List.replicate_succ]
      have l6 := d6.lt
      rw [add_l (a := [.int r, .int r, .int r, .int r, .int r, .int r, .int r, .int r, .int r]) (b := [.int (-1), .int 301, .bl true, .non, .str (strI r), .tup [.int r], .int 10000000000000000000]) (h := h6 ++ [PO.lst [.int r], PO.lst [.int r, .int r, .int r, .int r, .int r, .int r, .int r, .int r, .int r], PO.lst [.int (-1), .int 301, .bl true, .non, .str (strI r), .tup [.int r], .int 10000000000000000000]]) (by simp) (by simp) (by simp [LIM])]
      simp [LIM]
      refine (one_of_f [.int r, .int r, .int r, .int r, .int r, .int r, .int r, .int r, .int r, .int (-1), .int 301, .bl true, .non, .str (strI r), .tup [.int r], .int 10000000000000000000] (by simp) (by simp) (by simp [noRefs, noRef]) (by simp [noRefs, noRef])).use rfl (by simp [noRefs, noRef]) d6.app (by simp) (by omega) fun v7 h7 _ hv7 d7 e7 b7 => ?_
      have s7 : smp v7 = true := by
        simp at hv7
        rcases hv7 with rfl | rfl | rfl | rfl | rfl | rfl | rfl | rfl <;> rfl
      simp [LIM]
      have l7 := d7.lt
      refine Ws.bind (one_of_u (us := pgs h7.length) (S := [0, h7.length, h7.length + 1]) (fun m hm => ?_) (by simp; omega) (by simp) (by simp) (by omega) d7.app (by simp [pgs]) (by simp [pgs]) (by simp [pgs]) ?_ ?_) fun p h8 ⟨mp, d8, b8⟩ => ?_
      · simp at hm
        have e0 : h7[h7.length]? = none := List.getElem?_eq_none (Nat.le_refl _)
        rcases hm with rfl | rfl | rfl
        · refine ⟨by simp, ?_⟩
          obtain ⟨a, b, c, ed⟩ := d7
          unfold refsAt
          rw [get_app ed]; intro m hm; cases hm
        · refine ⟨by simp, ?_⟩
          unfold refsAt
          simp [refsO, refsVs]
        · refine ⟨by simp, ?_⟩
          unfold refsAt
          simp [refsO, refsVs, refsV, pgs]
      · obtain ⟨a, b, c, ed⟩ := d7
        have w0 : refsAt (h7 ++ [PO.lst [], PO.lst (pgs h7.length)]) 0 = [] := refsAt_of (get_app ed)
        have w1 : refsAt (h7 ++ [PO.lst [], PO.lst (pgs h7.length)]) h7.length = [] := refsAt_of (o := .lst []) (by simp)
        have w2 : refsAt (h7 ++ [PO.lst [], PO.lst (pgs h7.length)]) (h7.length + 1) = [h7.length] := refsAt_of (o := .lst (pgs h7.length)) (by simp)
        have w : wgt (h7 ++ [PO.lst [], PO.lst (pgs h7.length)]) [0, h7.length, h7.length + 1] [] = 1 := by
          unfold wgt
          simp [w0, w1, w2]
        show 100 + 3 + wgt (h7 ++ [PO.lst [], PO.lst (pgs h7.length)]) [0, h7.length, h7.length + 1] [] ≤ FUEL
        rw [w]; decide
      · simp [pgs, refsV, refsVs]
      obtain ⟨z, sp, r1, r2, r3, r4⟩ := pg_all mp (h := h8) (by rw [b8.2 _ (by omega)]; simp)
      have r0 := r1 []
      rw [List.append_nil] at r0
      simp [whole_v, s6, s7]
      refine Ws.bind (P := fun a g => a = .bl (MM.okA v7 && (isI v6 && z)) ∧ g = h8) ?_ fun a g ⟨ea, eg⟩ => ?_
      · cases v7 with
        | int i =>
          have i7 : isI (.int i) = true := rfl
          have o7 : MM.okA (.int i) = (decide (0 ≤ i) && decide (i ≤ 300)) := rfl
          simp [i7, o7]
          by_cases i0 : 0 ≤ i
          · by_cases i3 : i ≤ 300
            · simp [i0, i3, whole_v, s6]
              cases q6 : isI v6 with
              | false => simp
              | true => simp [r0, v_eqS r2 (show PyData.strOk (S [40, 41]) = true by decide +kernel), r3, o7, i0, i3]
            · simp [i0, i3, o7]
          · simp [i0, o7]
        | _ => simp [isI, MM.okA]
      · subst ea eg
        have r4' := r4 L rs es o v7 v6 s7 s6 []
        rw [List.append_nil] at r4'
        simp
        have ev : PV.tup [.str [99, 111, 117, 110, 116], plnV L (rowsV rs) (enI es), v7, v6] = clv L rs es v7 v6 := rfl
        have k1 : ∀ (os : List PO) (b : Bool), bRepr (g ++ os ++ [.lst [.bl b, .bl b]]) [.ref (g ++ os).length] = .ok (.str (rep2b b)) (g ++ os ++ [.lst [.bl b, .bl b]]) := fun os b => repr_bb b last_at
        have k2 : ∀ b : Bool, bRepr (g ++ [.lst [.bl b, .bl b]]) [.ref g.length] = .ok (.str (rep2b b)) (g ++ [.lst [.bl b, .bl b]]) := fun b => repr_bb b last_at
        have k3 : ∀ (a : PO) (b : Bool), bRepr (g ++ [a, .lst [.bl b, .bl b]]) [.ref (g.length + 1)] = .ok (.str (rep2b b)) (g ++ [a, .lst [.bl b, .bl b]]) := fun a b => repr_bb b (by simp)
        refine Ws.bind (P := fun a g' => a = .bl (hvl rs es v7 v6 z) ∧ g' = g) ?_ fun a g' ⟨ea, eg⟩ => ?_
        · cases hf : (MM.okA v7 && (isI v6 && z)) with
          | false =>
            have : hvl rs es v7 v6 z = false := by
              unfold hvl
              cases q1 : MM.okA v7 with
              | false => rfl
              | true =>
                cases q2 : isI v6 with
                | false => rfl
                | true => cases z with
                  | false => rfl
                  | true => rw [q1, q2] at hf; cases hf
            simp [this]
          | true =>
            have q1 : MM.okA v7 = true ∧ isI v6 = true ∧ z = true := by simpa using hf
            obtain ⟨q1, q2, rfl⟩ := q1
            obtain ⟨n, rfl, hn⟩ := okA_int q1
            obtain ⟨j, rfl⟩ := isI_int q2
            simp [lc n hn, hvl, q1, isI]
            exact eq_comm
        · subst ea eg
          simp [ev, r4', LIM, k2, k3, v_neS (ok_rep2b _) (ok_rep2b _)]
          exact d8.app
    · subst ee
      simp
      exact dh
  · subst ee
    simp
    exact ⟨dh, rfl⟩
theorem law_w (ns : List Int) (hl : ns.length ≤ 63) : Ws (m_law [.scr (ns.map PV.int)] []) fun v _ => v = .bl true := by
  unfold m_law
  simp [b_law, len_scr]
  obtain ⟨n, en, hn⟩ := cases_five ns
  rw [en, inR_small (i := (n : Int)) (by omega) (by omega)]
  simp
  refine mapB (fun _ => .bl true) (fun _ => True) trivial (by rw [len_seqI]; exact lim_of (by omega)) (fun x hx h _ => ⟨_, rfl, ?_⟩) fun h0 _ => ?_
  · obtain ⟨k, hk, rfl⟩ := mem_seqI hx
    obtain ⟨a, b, c, es⟩ := jug_c ns k (by omega) h
    simp [wipeE, es]
    exact (right_f.call (h := h ++ [skd a b c]) (j := h.length) rfl ⟨a, b, c, last_at⟩).mono fun v h' ⟨_, p, _⟩ => ⟨p, trivial⟩
  · have e : (seqI 0 n).map (fun _ => PV.bl true) = List.replicate n (.bl true) := by rw [List.map_const', len_seqI]
    rw [e]
    simp [all_last (bls_true n)]
theorem law_true (ns : List Int) (hl : ns.length ≤ 63) : ∃ h, m_law [.scr (ns.map PV.int)] [] = .ok (.bl true) h := by
  obtain ⟨v, g, e, rfl⟩ := law_w ns hl
  exact ⟨g, e⟩
end K48

end
open PySem PySem.W PyProof.Rows
set_option maxRecDepth 100000 in
set_option maxHeartbeats 0 in
theorem PySem.Challenge.cw_liketongues_k48_whole_claims_of_counts_holds : PySem.Challenge.rw_liketongues_k48_whole_claims_of_counts.Holds := by
  w_on; o_law; k_head; (case hw => w_witness2)
  k_fill
  refine MC.walkM (l := PySem.Challenge.rw_liketongues_k48_whole_claims_of_counts) (n := 63) (k := 10) (x := "_law_cells") (m := K48.m_law) rfl (by decide) rfl ⟨rfl, by decide, by decide⟩ (fun w h Y => PySem.W.kIn_of Y) ?F K48.law_true
  case F =>
    intro w mg fa h KX G hmg
    refine' K48.all_mk KX G hmg ?aC0 ?pg0 ?hd0 ?po0 ?sa0 ?ha0 ?hn0 ?ht0 ?hm0 ?mk0 ?kc0 ?na0_arrows ?na0_ends ?na0_letters ?ii0_int ?ii0_bool ?ii0_tuple ?ii0_str ?a0 ?l0 ?e0 ?k0 ?a1 ?l1 ?e1 ?k1 ?a2 ?l2 ?e2 ?k2 ?a3 ?l3 ?e3 ?k3 ?a4 ?l4 ?e4 ?k4 ?a5 ?l5 ?e5 ?k5 ?a6 ?l6 ?e6 ?k6 ?a7 ?l7 ?e7 ?k7 ?a8 ?l8 ?e8 ?k8 ?a9 ?l9 ?e9 ?k9 ?a10 ?l10 ?e10 ?k10 ?a11 ?l11 ?e11 ?k11 ?a12 ?l12 ?e12 ?k12 ?a13 ?l13 ?e13 ?k13 ?a14 ?l14 ?e14 ?k14 ?a15 ?l15 ?e15 ?k15 ?a16 ?i16 ?l16 ?e16 ?k16 ?a17 ?l17 ?e17 ?k17 ?a18 ?l18 ?e18 ?k18 ?a19 ?l19 ?e19 ?k19 ?a20 ?l20 ?e20 ?k20 ?a21 ?l21 ?e21 ?k21 ?a22 ?l22 ?e22 ?k22 ?g_MOST_LETTERS ?g_MOST_STANDS ?g_MOST_TEXT ?g_SHOWN ?q_SHOWN ?qS0 ?qS1 ?qS2 ?qS3 ?qS4 ?qS5 ?qS6 ?qS7 ?lit_SHOWN ?low_SHOWN ?z_abs ?z_all ?z_bool ?z_divmod ?z_enumerate ?z_int ?z_isinstance ?z_len ?z_max ?z_min ?z_range ?z_repr ?z_str ?z_sum ?z_tuple
    (case aC0 => k_is); (case pg0 => k_is); (case hd0 => k_is); (case po0 => k_is); (case sa0 => k_is); (case ha0 => k_is); (case hn0 => k_is); (case ht0 => k_is); (case hm0 => k_is); (case mk0 => k_is); (case kc0 => k_is); (case na0_arrows => k_is); (case na0_ends => k_is); (case na0_letters => k_is); (case ii0_int => k_is); (case ii0_bool => k_is); (case ii0_tuple => k_is); (case ii0_str => k_is); (case a0 => k_is); (case l0 => k_is); (case e0 => k_is); (case k0 => k_is); (case a1 => k_is); (case l1 => k_is); (case e1 => k_is); (case k1 => k_is); (case a2 => k_is); (case l2 => k_is); (case e2 => k_is); (case k2 => k_is); (case a3 => k_is); (case l3 => k_is); (case e3 => k_is); (case k3 => k_is); (case a4 => k_is); (case l4 => k_is); (case e4 => k_is); (case k4 => k_is); (case a5 => k_is); (case l5 => k_is); (case e5 => k_is); (case k5 => k_is); (case a6 => k_is); (case l6 => k_is); (case e6 => k_is); (case k6 => k_is); (case a7 => k_is); (case l7 => k_is); (case e7 => k_is); (case k7 => k_is); (case a8 => k_is); (case l8 => k_is); (case e8 => k_is); (case k8 => k_is); (case a9 => k_is); (case l9 => k_is); (case e9 => k_is); (case k9 => k_is); (case a10 => k_is); (case l10 => k_is); (case e10 => k_is); (case k10 => k_is); (case a11 => k_is); (case l11 => k_is); (case e11 => k_is); (case k11 => k_is); (case a12 => k_is); (case l12 => k_is); (case e12 => k_is); (case k12 => k_is); (case a13 => k_is); (case l13 => k_is); (case e13 => k_is); (case k13 => k_is); (case a14 => k_is); (case l14 => k_is); (case e14 => k_is); (case k14 => k_is); (case a15 => k_is); (case l15 => k_is); (case e15 => k_is); (case k15 => k_is); (case a16 => k_is); (case i16 => k_is); (case l16 => k_is); (case e16 => k_is); (case k16 => k_is); (case a17 => k_is); (case l17 => k_is); (case e17 => k_is); (case k17 => k_is); (case a18 => k_is); (case l18 => k_is); (case e18 => k_is); (case k18 => k_is); (case a19 => k_is); (case l19 => k_is); (case e19 => k_is); (case k19 => k_is); (case a20 => k_is); (case l20 => k_is); (case e20 => k_is); (case k20 => k_is); (case a21 => k_is); (case l21 => k_is); (case e21 => k_is); (case k21 => k_is); (case a22 => k_is); (case l22 => k_is); (case e22 => k_is); (case k22 => k_is); (case g_MOST_LETTERS => k_is); (case g_MOST_STANDS => k_is); (case g_MOST_TEXT => k_is); (case g_SHOWN => k_is); (case q_SHOWN => k_is); (case qS0 => k_is); (case qS1 => k_is); (case qS2 => k_is); (case qS3 => k_is); (case qS4 => k_is); (case qS5 => k_is); (case qS6 => k_is); (case qS7 => k_is); (case lit_SHOWN => exact ⟨⟨_, _, rfl, rfl⟩, ⟨_, _, rfl, rfl⟩, ⟨_, _, rfl, rfl⟩, ⟨_, _, rfl, rfl⟩, ⟨_, _, rfl, rfl⟩, ⟨_, _, rfl, rfl⟩, ⟨_, _, rfl, rfl⟩, ⟨_, _, rfl, rfl⟩, trivial⟩); (case low_SHOWN => first | rfl | decide); (case z_abs => k_is); (case z_all => k_is); (case z_bool => k_is); (case z_divmod => k_is); (case z_enumerate => k_is); (case z_int => k_is); (case z_isinstance => k_is); (case z_len => k_is); (case z_max => k_is); (case z_min => k_is); (case z_range => k_is); (case z_repr => k_is); (case z_str => k_is); (case z_sum => k_is); (case z_tuple => k_is)
