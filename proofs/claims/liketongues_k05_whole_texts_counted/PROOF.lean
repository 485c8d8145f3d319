import PyProof.Rows.All
import Wide.All
import OpenK.AllK
import Wide.FinOn
import HandS.Base
import HandS.Call
import HandS.List
import HandS.Words
import KE.KDictKeyed
import KE.KDictWalk
import HandS.TupAny
import HandS.TupMul
import HandS.Deep
import HandS.IsInst
import HandS.Text
import HandS.TupLe
import HandS.Style
import HandS.Dict
import HandS.Ends
import HandS.Comp
import HandS.Iter
import HandS.Walk
import HandS.More
import HandS.WordsDict
import HandS.Replace
import PyProof.ReprRoads
import KE.KRevSl
import KE.GoesEnum
import HandS.Zip
import HandS.ForMost
import HandS.Star
import HandS.SortKw
import HandS.DictTup
import KE.KMinKey
import HandS.SortInts
import HandS.FStr
import HandS.Conv
import HandS.RaiseMore
import PyProof.InstNe
import HandS.MapObj
import KE.KDictCopyH
import KE.KDictDisplayH
import HandS.SetFor
import HandS.Strs
import HandS.StrMore
import PyProof.Rows.RegReprOcc
import KE.GoesZip
import KE.GoesMore
import PyProof.MeetsIn
import PyProof.Rows.Range3
import PySem.Challenge.RW_liketongues_k05_whole_texts_counted
import PyProof.ReprLen
set_option Elab.async false
set_option linter.all false
section
set_option maxRecDepth 100000
set_option maxHeartbeats 4000000
namespace MC
open PySem PySem.Spec PyProof.Rows L2

/-- a name: its signs -/
abbrev Nm := List Nat

/-- pure values; ref n: the n-th object of the list heap; scr, rdic, ins: objects that nobody changes any more (lists, dicts, instances) -/
inductive PV where
  | non
  | bl (b : Bool)
  | int (i : Int)
  | str (s : List Nat)
  | tup (xs : List PV)
  | scr (xs : List PV)
  | rdic (kvs : List (PV × PV))
  | ins (c : Nat) (fs : List (Nm × PV))
  | ref (n : Nat)
  | gl (i : Nat)
  deriving Inhabited

/-- objects that may change -/
inductive PO where
  | lst (xs : List PV)
  | ins (c : Nat) (fs : List (Nm × PV))
  | dic (lk : Bool) (kvs : List (PV × PV))
  | dit (lk : Bool) (kvs : List (PV × PV))
  deriving Inhabited
abbrev PH := List PO

/-- what the text's top has left: its written part, its classes and its values by number -/
structure Wo where
  K : PySem.W.Frag
  cl : Nat → Option Addr
  gv : Nat → Option V
  W : World

def nmS (k : Nm) : Str := ⟨k.toArray⟩

/-- a dict's key: an int or a text -/
def keyP : PV → Option Key
  | .int i => some (.inl i)
  | .str s => some (.inr ⟨s.toArray⟩)
  | _ => none

/-- a list that nobody changes: an object of the written part, or one that is known to the object -/
def ScrL (w : Wo) (M : Addr → Prop) (H : Hp) (a : Addr) (vs : List V) : Prop :=
  (∃ (o : Obj) (its : Array Value) (n : Nat), w.K.lookup a = some o ∧ o.cls = .type "list" ∧ o.dict = none ∧ o.data = .seq its n ∧ its.size ≤ sizeLine ∧ Vals vs its.toList) ∨
    ∃ o, H a = some (.frz o (.lst vs)) ∧ ¬ M a
theorem ScrL.sq {w : Wo} {M : Addr → Prop} {H : Hp} {a : Addr} {vs : List V} (h : ScrL w M H a vs) : SqL w.K H a vs := h.elim .inr fun ⟨o, e, _⟩ => .inl (.inr ⟨o, e⟩)

mutual
inductive VR (w : Wo) (M : Addr → Prop) (rho : List Addr) (H : Hp) : PV → V → Prop
  | non : VR w M rho H .non .non
  | bl (b : Bool) : VR w M rho H (.bl b) (.bl b)
  | int (i : Int) : VR w M rho H (.int i) (.int i)
  | str (s : List Nat) : VR w M rho H (.str s) (.str ⟨s.toArray⟩)
  | tup {xs : List PV} {vs : List V} {a : Addr} : SqT w.K H a vs → VRs w M rho H xs vs → VR w M rho H (.tup xs) (.ref a)
  | scr {xs : List PV} {vs : List V} {a : Addr} : ScrL w M H a vs → VRs w M rho H xs vs → VR w M rho H (.scr xs) (.ref a)
  | rdic {kvs : List (PV × PV)} {ks : List (Key × V)} {a : Addr} {o : Obj} : H a = some (.frz o (.dK ks)) → ¬ M a → KRs w M rho H kvs ks → VR w M rho H (.rdic kvs) (.ref a)
  | ins {c : Nat} {C dx a : Addr} {fs : List (Nm × PV)} {gs : List (Str × V)} : w.cl c = some C → H a = some (.ins C dx gs) → ¬ M a → FRs w M rho H fs gs → VR w M rho H (.ins c fs) (.ref a)
  | ref {n : Nat} {a : Addr} : rho[n]? = some a → VR w M rho H (.ref n) (.ref a)
  | gl {i : Nat} {v : V} : w.gv i = some v → VR w M rho H (.gl i) v
inductive VRs (w : Wo) (M : Addr → Prop) (rho : List Addr) (H : Hp) : List PV → List V → Prop
  | nil : VRs w M rho H [] []
  | cons {x : PV} {v : V} {xs : List PV} {vs : List V} : VR w M rho H x v → VRs w M rho H xs vs → VRs w M rho H (x :: xs) (v :: vs)
inductive FRs (w : Wo) (M : Addr → Prop) (rho : List Addr) (H : Hp) : List (Nm × PV) → List (Str × V) → Prop
  | nil : FRs w M rho H [] []
  | cons {k : Nm} {x : PV} {v : V} {fs : List (Nm × PV)} {gs : List (Str × V)} : VR w M rho H x v → FRs w M rho H fs gs → FRs w M rho H ((k, x) :: fs) ((nmS k, v) :: gs)
inductive KRs (w : Wo) (M : Addr → Prop) (rho : List Addr) (H : Hp) : List (PV × PV) → List (Key × V) → Prop
  | nil : KRs w M rho H [] []
  | cons {k x : PV} {j : Key} {v : V} {fs : List (PV × PV)} {gs : List (Key × V)} : keyP k = some j → VR w M rho H x v → KRs w M rho H fs gs → KRs w M rho H ((k, x) :: fs) ((j, v) :: gs)
end

mutual
/-- a key of a dict whose keys are tuples -/
def nkP : PV → Option NestedKey
  | .non => some .none
  | .bl b => some (.num (if b = true then 1 else 0))
  | .int i => some (.num i)
  | .str s => some (.text ⟨s.toArray⟩)
  | .tup xs => match nkPs xs with
    | some ks => some (.tup ks)
    | none => none
  | .scr _ => none
  | .rdic _ => none
  | .ins _ _ => none
  | .ref _ => none
  | .gl _ => none
def nkPs : List PV → Option (List NestedKey)
  | [] => some []
  | x :: xs => match nkP x with
    | some k => match nkPs xs with
      | some ks => some (k :: ks)
      | none => none
    | none => none
end
/-- a dict whose keys are tuples, by its entries -/
def TDO (W : World) (a : Addr) (xs : List (NestedKey × Addr × Value)) : HO := .ext fun h => ∃ o es ep, h.get? a = some o ∧ o.ExactDict ∧ o.data = .dict es ep ∧ es.toList = xs.map fun x => ⟨x.1.hash W, .ref x.2.1, x.2.2⟩
inductive TRs (w : Wo) (M : Addr → Prop) (rho : List Addr) (H : Hp) : List (PV × PV) → List (NestedKey × Addr × Value) → Prop
  | nil : TRs w M rho H [] []
  | cons {k x : PV} {nk : NestedKey} {a : Addr} {u : Value} {v : V} {fs : List (PV × PV)} {gs : List (NestedKey × Addr × Value)} : nkP k = some nk → nk.depth ≤ 8 → VR w M rho H k (.ref a) → VR w M rho H x v → RelV v u → TRs w M rho H fs gs → TRs w M rho H ((k, x) :: fs) ((nk, a, u) :: gs)

def OR (w : Wo) (M : Addr → Prop) (rho : List Addr) (H : Hp) (a : Addr) : PO → Prop
  | .lst xs => ∃ vs, H a = some (.lst vs) ∧ VRs w M rho H xs vs
  | .ins c fs => ∃ C dx gs, w.cl c = some C ∧ H a = some (.ins C dx gs) ∧ FRs w M rho H fs gs
  | .dic lk kvs => ∃ ks, (bif lk then ∃ o, H a = some (.frz o (.dK ks)) else H a = some (.dK ks)) ∧ KRs w M rho H kvs ks
  | .dit lk kvs => ∃ xs, (bif lk then ∃ o, H a = some (.frz o (TDO w.W a xs)) else H a = some (TDO w.W a xs)) ∧ (a == sysModules) = false ∧ xs.length ≤ sizeLine ∧ (xs.map (·.1)).Nodup ∧ TRs w M rho H kvs xs

structure HR (w : Wo) (M : Addr → Prop) (rho : List Addr) (H : Hp) (h : PH) : Prop where
  len : h.length = rho.length
  nd : rho.Nodup
  mem : ∀ b ∈ rho, M b
  live : ∀ b, M b → H b ≠ none
  ob : ∀ (n : Nat) (o : PO), h[n]? = some o → ∃ a, rho[n]? = some a ∧ OR w M rho H a o

structure Step (M : Addr → Prop) (rho : List Addr) (H : Hp) (M' : Addr → Prop) (rho' : List Addr) (H' : Hp) : Prop where
  ext : ∀ (n : Nat) a, rho[n]? = some a → rho'[n]? = some a
  mono : ∀ b, M b → M' b
  fresh : ∀ b, M' b → M b ∨ H b = none
  new : ∀ b ∈ rho', b ∈ rho ∨ H b = none
  frame : ∀ b o, b ∉ rho → H b = some o → H' b = some o
  there : ∀ b, H b ≠ none → H' b ≠ none
  frz : ∀ b o u, H b = some (.frz o u) → H' b = some (.frz o u)

section
variable {w : Wo} {M M1 M2 : Addr → Prop} {rho rho1 rho2 : List Addr} {H H1 H2 : Hp} {h h1 : PH}

theorem Step.refl : Step M rho H M rho H := ⟨fun _ _ e => e, fun _ e => e, fun _ e => .inl e, fun _ e => .inl e, fun _ _ _ e => e, fun _ e => e, fun _ _ _ e => e⟩
theorem Step.trans (a : Step M rho H M1 rho1 H1) (b : Step M1 rho1 H1 M2 rho2 H2) : Step M rho H M2 rho2 H2 where
  ext := fun n x e => b.ext n x (a.ext n x e)
  mono := fun x e => b.mono x (a.mono x e)
  fresh := fun x e => by
    rcases b.fresh x e with e | e
    · exact a.fresh x e
    · refine .inr ?_
      cases q : H x with
      | none => rfl
      | some o => exact absurd e (a.there x (by rw [q]; exact Option.some_ne_none _))
  new := fun x e => by
    rcases b.new x e with e | e
    · exact a.new x e
    · refine .inr ?_
      cases q : H x with
      | none => rfl
      | some o => exact absurd e (a.there x (by rw [q]; exact Option.some_ne_none _))
  frame := fun x o n e => by
    refine b.frame x o (fun z => ?_) (a.frame x o n e)
    rcases a.new x z with z | z
    · exact n z
    · rw [z] at e; cases e
  there := fun x e => b.there x (a.there x e)
  frz := fun x o u e => b.frz x o u (a.frz x o u e)

/-- no tuple -/
def noT : HO → Bool
  | .tup _ => false
  | .frz _ (.tup _) => false
  | _ => true
theorem OR.some {a : Addr} {o : PO} (r : OR w M rho H a o) : ∃ u, H a = some u ∧ noT u = true := by
  cases o with
  | lst xs => obtain ⟨vs, e, _⟩ := r; exact ⟨_, e, rfl⟩
  | ins c fs => obtain ⟨_, _, _, _, e, _⟩ := r; exact ⟨_, e, rfl⟩
  | dic lk kvs =>
    obtain ⟨ks, e, _⟩ := r
    cases lk with
    | false => exact ⟨_, e, rfl⟩
    | true => obtain ⟨o, e⟩ := e; exact ⟨_, e, rfl⟩
  | dit lk kvs =>
    obtain ⟨ks, e, _⟩ := r
    cases lk with
    | false => exact ⟨_, e, rfl⟩
    | true => obtain ⟨o, e⟩ := e; exact ⟨_, e, rfl⟩
theorem HR.at (r : HR w M rho H h) {b : Addr} (hb : b ∈ rho) : ∃ u, H b = some u ∧ noT u = true := by
  obtain ⟨n, hn, e⟩ := List.mem_iff_getElem.mp hb
  have hl : n < h.length := by rw [r.len]; exact hn
  obtain ⟨a, ha, q⟩ := r.ob n h[n] (List.getElem?_eq_getElem hl)
  rw [List.getElem?_eq_getElem hn, e] at ha
  cases ha
  exact q.some
theorem Step.sqT (st : Step M rho H M1 rho1 H1) (r : HR w M rho H h) {K : PySem.W.Frag} {a : Addr} {vs : List V} (q : SqT K H a vs) : SqT K H1 a vs := by
  rcases q with (q | ⟨o, q⟩) | q
  · refine .inl (.inl (st.frame a _ (fun z => ?_) q))
    obtain ⟨u, e, n⟩ := r.at z
    rw [q] at e; cases e; cases n
  · refine .inl (.inr ⟨o, st.frame a _ (fun z => ?_) q⟩)
    obtain ⟨u, e, n⟩ := r.at z
    rw [q] at e; cases e; cases n
  · exact .inr q
theorem Step.no (st : Step M rho H M1 rho1 H1) {a : Addr} {u : HO} (q : H a = some u) (n : ¬ M a) : ¬ M1 a := fun z => by
  rcases st.fresh a z with z | z
  · exact n z
  · rw [q] at z; cases z
theorem Step.at (st : Step M rho H M1 rho1 H1) (r : HR w M rho H h) {a : Addr} {u : HO} (q : H a = some u) (n : ¬ M a) : H1 a = some u :=
  st.frame a u (fun z => n (r.mem a z)) q
theorem Step.scr (st : Step M rho H M1 rho1 H1) (r : HR w M rho H h) {a : Addr} {vs : List V} (q : ScrL w M H a vs) : ScrL w M1 H1 a vs := by
  rcases q with q | ⟨o, q, n⟩
  · exact .inl q
  · exact .inr ⟨o, st.at r q n, st.no q n⟩
mutual
theorem VR.step (st : Step M rho H M1 rho1 H1) (r : HR w M rho H h) : ∀ {x : PV} {v : V}, VR w M rho H x v → VR w M1 rho1 H1 x v
  | _, _, .non => .non
  | _, _, .bl b => .bl b
  | _, _, .int i => .int i
  | _, _, .str s => .str s
  | _, _, .tup q s => .tup (st.sqT r q) (VRs.step st r s)
  | _, _, .scr q s => .scr (st.scr r q) (VRs.step st r s)
  | _, _, .rdic e n s => .rdic (st.at r e n) (st.no e n) (KRs.step st r s)
  | _, _, .ins c e n s => .ins c (st.at r e n) (st.no e n) (FRs.step st r s)
  | _, _, .ref e => .ref (st.ext _ _ e)
  | _, _, .gl e => .gl e
theorem VRs.step (st : Step M rho H M1 rho1 H1) (r : HR w M rho H h) : ∀ {xs : List PV} {vs : List V}, VRs w M rho H xs vs → VRs w M1 rho1 H1 xs vs
  | _, _, .nil => .nil
  | _, _, .cons a b => .cons (VR.step st r a) (VRs.step st r b)
theorem FRs.step (st : Step M rho H M1 rho1 H1) (r : HR w M rho H h) : ∀ {fs : List (Nm × PV)} {gs : List (Str × V)}, FRs w M rho H fs gs → FRs w M1 rho1 H1 fs gs
  | _, _, .nil => .nil
  | _, _, .cons a b => .cons (VR.step st r a) (FRs.step st r b)
theorem KRs.step (st : Step M rho H M1 rho1 H1) (r : HR w M rho H h) : ∀ {fs : List (PV × PV)} {gs : List (Key × V)}, KRs w M rho H fs gs → KRs w M1 rho1 H1 fs gs
  | _, _, .nil => .nil
  | _, _, .cons k a b => .cons k (VR.step st r a) (KRs.step st r b)
end

theorem TRs.step (st : Step M rho H M1 rho1 H1) (r : HR w M rho H h) : ∀ {fs : List (PV × PV)} {gs : List (NestedKey × Addr × Value)}, TRs w M rho H fs gs → TRs w M1 rho1 H1 fs gs
  | _, _, .nil => .nil
  | _, _, .cons k d a b c q => .cons k d (a.step st r) (b.step st r) c (TRs.step st r q)
theorem TRs.length : ∀ {fs : List (PV × PV)} {gs : List (NestedKey × Addr × Value)}, TRs w M rho H fs gs → gs.length = fs.length
  | _, _, .nil => rfl
  | _, _, .cons _ _ _ _ _ b => by rw [List.length_cons, List.length_cons, TRs.length b]
theorem VRs.length : ∀ {xs : List PV} {vs : List V}, VRs w M rho H xs vs → vs.length = xs.length
  | _, _, .nil => rfl
  | _, _, .cons _ b => by rw [List.length_cons, List.length_cons, VRs.length b]
theorem VRs.get : ∀ {xs : List PV} {vs : List V} {i : Nat} {x : PV}, VRs w M rho H xs vs → xs[i]? = some x → ∃ v, vs[i]? = some v ∧ VR w M rho H x v
  | _, _, i, _, .nil, e => by simp at e
  | _, _, 0, _, .cons a _, e => by simp at e; subst e; exact ⟨_, rfl, a⟩
  | _, _, i + 1, x, .cons _ b, e => by
    obtain ⟨v, h1, h2⟩ := VRs.get (i := i) (x := x) b (by simpa using e)
    exact ⟨v, by simpa using h1, h2⟩
theorem VRs.append : ∀ {xs ys : List PV} {vs us : List V}, VRs w M rho H xs vs → VRs w M rho H ys us → VRs w M rho H (xs ++ ys) (vs ++ us)
  | _, _, _, _, .nil, s => s
  | _, _, _, _, .cons r t, s => .cons r (VRs.append t s)
theorem VRs.take : ∀ {xs : List PV} {vs : List V} (n : Nat), VRs w M rho H xs vs → VRs w M rho H (xs.take n) (vs.take n)
  | _, _, 0, _ => .nil
  | _, _, _ + 1, .nil => .nil
  | _, _, n + 1, .cons r t => .cons r (VRs.take n t)
theorem VRs.drop : ∀ {xs : List PV} {vs : List V} (n : Nat), VRs w M rho H xs vs → VRs w M rho H (xs.drop n) (vs.drop n)
  | _, _, 0, r => r
  | _, _, _ + 1, .nil => .nil
  | _, _, n + 1, .cons _ t => VRs.drop n t
theorem VRs.set {x : PV} {v : V} (r : VR w M rho H x v) : ∀ {xs : List PV} {vs : List V} (i : Nat), VRs w M rho H xs vs → VRs w M rho H (xs.set i x) (vs.set i v)
  | _, _, _, .nil => .nil
  | _, _, 0, .cons _ t => .cons r t
  | _, _, i + 1, .cons q t => .cons q (VRs.set r i t)

/-- all that stood stands, more may be laid -/
theorem Step.grow (e : ∀ b o, H b = some o → H1 b = some o) : Step M rho H M rho H1 where
  ext := fun _ _ e => e
  mono := fun _ e => e
  fresh := fun _ e => .inl e
  new := fun _ e => .inl e
  frame := fun b o _ q => e b o q
  there := fun b q z => by
    cases p : H b with
    | none => exact q p
    | some o => rw [e b o p] at z; cases z
  frz := fun b o u q => e b _ q
theorem OR.step (st : Step M rho H M1 rho1 H1) (r : HR w M rho H h) {a : Addr} {o : PO} (e : H1 a = H a) (q : OR w M rho H a o) : OR w M1 rho1 H1 a o := by
  cases o with
  | lst xs => obtain ⟨vs, p, s⟩ := q; exact ⟨vs, e.trans p, s.step st r⟩
  | ins c fs => obtain ⟨C, dx, gs, p1, p, s⟩ := q; exact ⟨C, dx, gs, p1, e.trans p, s.step st r⟩
  | dic lk kvs =>
    obtain ⟨ks, p, s⟩ := q
    refine ⟨ks, ?_, s.step st r⟩
    cases lk with
    | false => exact e.trans p
    | true => obtain ⟨o, p⟩ := p; exact ⟨o, e.trans p⟩
  | dit lk kvs =>
    obtain ⟨ks, p, z1, z2, z3, s⟩ := q
    refine ⟨ks, ?_, z1, z2, z3, s.step st r⟩
    cases lk with
    | false => exact e.trans p
    | true => obtain ⟨o, p⟩ := p; exact ⟨o, e.trans p⟩
theorem HR.grow (r : HR w M rho H h) (e : ∀ b o, H b = some o → H1 b = some o) : HR w M rho H1 h where
  len := r.len
  nd := r.nd
  mem := r.mem
  live := fun b m => (Step.grow (M := M) (rho := rho) e).there b (r.live b m)
  ob := fun n o q => by
    obtain ⟨a, ha, s⟩ := r.ob n o q
    obtain ⟨u, hu, _⟩ := s.some
    exact ⟨a, ha, s.step (Step.grow e) r ((e a u hu).trans hu.symm)⟩
theorem same_upd {p : Addr} {o : HO} (n : H p = none) : ∀ b u, H b = some u → upd H p o b = some u := fun b u e => by
  rw [upd_ne (ne_of_none e n)]; exact e

/-- a new object of the list heap -/
theorem Step.alloc {p : Addr} {o : HO} (n : H p = none) : Step M rho H (fun b => M b ∨ b = p) (rho ++ [p]) (upd H p o) where
  ext := fun i a e => by
    have hi : i < rho.length := (List.getElem?_eq_some_iff.mp e).1
    rw [List.getElem?_append_left hi]; exact e
  mono := fun b e => .inl e
  fresh := fun b e => e.elim .inl fun z => .inr (by rw [z]; exact n)
  new := fun b e => by
    rcases List.mem_append.mp e with z | z
    · exact .inl z
    · rw [List.mem_singleton.mp z]; exact .inr n
  frame := fun b u _ e => same_upd n b u e
  there := fun b e => (Step.grow (M := M) (rho := rho) (same_upd (o := o) n)).there b e
  frz := fun b u v e => same_upd n b _ e
theorem HR.alloc (r : HR w M rho H h) {p : Addr} {o : HO} (n : H p = none) {po : PO} (q : OR w (fun b => M b ∨ b = p) (rho ++ [p]) (upd H p o) p po) :
    HR w (fun b => M b ∨ b = p) (rho ++ [p]) (upd H p o) (h ++ [po]) where
  len := by rw [List.length_append, List.length_append, r.len]; rfl
  nd := by
    refine List.nodup_append.mpr ⟨r.nd, (by simp), fun a ha b hb e => ?_⟩
    rw [List.mem_singleton] at hb
    subst e; subst hb
    exact r.live _ (r.mem _ ha) n
  mem := fun b hb => (List.mem_append.mp hb).elim (fun z => .inl (r.mem b z)) fun z => .inr (List.mem_singleton.mp z)
  live := fun b hb => hb.elim (fun z => (Step.alloc (M := M) (rho := rho) (o := o) n).there b (r.live b z)) fun z => by rw [z, upd_same]; exact Option.some_ne_none _
  ob := fun i u e => by
    by_cases hi : i < h.length
    · rw [List.getElem?_append_left hi] at e
      obtain ⟨a, ha, s⟩ := r.ob i u e
      obtain ⟨v, hv, _⟩ := s.some
      exact ⟨a, (Step.alloc (M := M) (rho := rho) (o := o) n).ext i a ha, s.step (Step.alloc n) r (upd_ne (ne_of_none hv n))⟩
    · have hi2 : i = h.length := by
        have z := (List.getElem?_eq_some_iff.mp e).1
        rw [List.length_append, List.length_singleton] at z
        omega
      subst hi2
      rw [List.getElem?_append_right (Nat.le_refl _), Nat.sub_self] at e
      cases e
      refine ⟨p, ?_, q⟩
      rw [List.getElem?_append_right (by rw [r.len]; exact Nat.le_refl _), r.len, Nat.sub_self]
      rfl
/-- the n-th object is written -/
theorem Step.write (r : HR w M rho H h) {n : Nat} {a : Addr} {o : HO} (e : rho[n]? = some a) (nf : ∀ p u, H a ≠ some (.frz p u)) : Step M rho H M rho (upd H a o) where
  ext := fun _ _ e => e
  mono := fun _ e => e
  fresh := fun _ e => .inl e
  new := fun _ e => .inl e
  frame := fun b u nb q => by
    rw [upd_ne]
    · exact q
    · rintro rfl
      exact nb (List.mem_of_getElem? e)
  there := fun b q => by
    by_cases hb : b = a
    · subst hb; rw [upd_same]; exact Option.some_ne_none _
    · rw [upd_ne hb]; exact q
  frz := fun b p u q => by
    rw [upd_ne]
    · exact q
    · rintro rfl
      exact nf p u q
theorem HR.write (r : HR w M rho H h) {n : Nat} {a : Addr} {o : HO} {po : PO} (e : rho[n]? = some a) (nf : ∀ p u, H a ≠ some (.frz p u)) (q : OR w M rho (upd H a o) a po) : HR w M rho (upd H a o) (h.set n po) where
  len := by rw [List.length_set]; exact r.len
  nd := r.nd
  mem := r.mem
  live := fun b hb => (Step.write r (o := o) e nf).there b (r.live b hb)
  ob := fun i u z => by
    by_cases hi : i = n
    · subst hi
      have hl : i < h.length := by
        have := (List.getElem?_eq_some_iff.mp z).1
        rwa [List.length_set] at this
      rw [List.getElem?_set_self hl] at z
      cases z
      exact ⟨a, e, q⟩
    · rw [List.getElem?_set_ne (Ne.symm hi)] at z
      obtain ⟨b, hb, s⟩ := r.ob i u z
      refine ⟨b, hb, s.step (Step.write r e nf) r (upd_ne ?_)⟩
      rintro rfl
      obtain ⟨h1, e1⟩ := List.getElem?_eq_some_iff.mp hb
      obtain ⟨h2, e2⟩ := List.getElem?_eq_some_iff.mp e
      exact hi ((List.getElem_inj r.nd).mp (e1.trans e2.symm))
end

/-- an outcome: a value and the heap behind it; an exception (its class, its attributes); or nothing is said -/
inductive R (α : Type) where
  | ok (a : α) (h : PH)
  | exc (c : Nat) (fs : List (Nm × PV)) (h : PH)
  | stuck
/-- the kind depends on f, so that simp leaves f alone -/
@[reducible] def RT {α β : Type} (_ : α → PH → R β) : Type := R β
def R.bind {α β : Type} (r : R α) (f : α → PH → R β) : RT f := match r with
  | .ok a h => f a h
  | .exc c fs h => .exc c fs h
  | .stuck => .stuck
/-- what is wanted of an exception -/
abbrev XC := Nat → List (Nm × PV) → PH → (Addr → Prop) → List Addr → Hp → Prop
abbrev KC (α : Type) := α → PH → (Addr → Prop) → List Addr → Hp → Prop
def Out {α : Type} (w : Wo) (EX : XC) (M : Addr → Prop) (rho : List Addr) (H : Hp) (r : R α) (k : KC α) : Prop := match r with
  | .ok a h => ∀ M' rho' H', Step M rho H M' rho' H' → HR w M' rho' H' h → k a h M' rho' H'
  | .exc c fs h => ∀ M' rho' H', Step M rho H M' rho' H' → HR w M' rho' H' h → EX c fs h M' rho' H'
  | .stuck => False
section
variable {w : Wo} {EX : XC} {M M1 : Addr → Prop} {rho rho1 : List Addr} {H H1 : Hp} {α β : Type}
theorem Out.step {r : R α} {k : KC α} (o : Out w EX M rho H r k) (st : Step M rho H M1 rho1 H1) : Out w EX M1 rho1 H1 r k := by
  cases r with
  | ok a h => exact fun M' rho' H' s q => o M' rho' H' (st.trans s) q
  | exc c fs h => exact fun M' rho' H' s q => o M' rho' H' (st.trans s) q
  | stuck => exact o
theorem Out.bind {r : R α} {f : α → PH → R β} {k : KC β} (o : Out w EX M rho H (r.bind f) k) : Out w EX M rho H r fun a h M' rho' H' => Out w EX M' rho' H' (f a h) k := by
  cases r with
  | ok a h => exact fun M' rho' H' s _ => Out.step (show Out w EX M rho H (f a h) k from o) s
  | exc c fs h => exact o
  | stuck => exact o
theorem Out.imp {r : R α} {k k' : KC α} (o : Out w EX M rho H r k) (i : ∀ a h M' rho' H', Step M rho H M' rho' H' → HR w M' rho' H' h → k a h M' rho' H' → k' a h M' rho' H') : Out w EX M rho H r k' := by
  cases r with
  | ok a h => exact fun M' rho' H' s q => i a h M' rho' H' s q (o M' rho' H' s q)
  | exc c fs h => exact o
  | stuck => exact o
theorem Out.now {a : α} {h : PH} {k : KC α} (o : Out w EX M rho H (.ok a h) k) (q : HR w M rho H h) : k a h M rho H := o M rho H Step.refl q
end
end MC

end
section
set_option maxRecDepth 100000
set_option maxHeartbeats 4000000
namespace MC
open PySem PySem.Spec PyProof.Rows L2

/-- slots -/
abbrev Sl := L2.St
abbrev ME0 := List (Option PV) → PH → R PV
/-- the mirrors: of an expression, a test, an argument list -/
abbrev ME := ME0
abbrev MT := List (Option PV) → PH → R Bool
abbrev MA := List (Option PV) → PH → R (List PV)

/-- what a context must be for the rules -/
structure Cxt (w : Wo) (k : Nat) (X : Cx) : Prop where
  hK : X.K = w.K
  hW : X.w = w.W
  calm : X.calm = true
  room : Room k X.A
  grd : X.A.guards = some []
  own : PassesOwn (model X.prog X.w) X.A X.env X.xe

inductive ER (w : Wo) (M : Addr → Prop) (rho : List Addr) (H : Hp) : List (Option PV) → Sl → Prop
  | nil : ER w M rho H [] []
  | has {x : PV} {v : V} {e : List (Option PV)} {s : Sl} : VR w M rho H x v → ER w M rho H e s → ER w M rho H (some x :: e) (some v :: s)
  | no {v : Option V} {e : List (Option PV)} {s : Sl} : ER w M rho H e s → ER w M rho H (none :: e) (v :: s)
section
variable {w : Wo} {M M1 : Addr → Prop} {rho rho1 : List Addr} {H H1 : Hp} {h : PH}
theorem ER.step (st : Step M rho H M1 rho1 H1) (r : HR w M rho H h) : ∀ {e : List (Option PV)} {s : Sl}, ER w M rho H e s → ER w M1 rho1 H1 e s
  | _, _, .nil => .nil
  | _, _, .has a b => .has (a.step st r) (ER.step st r b)
  | _, _, .no b => .no (ER.step st r b)
theorem ER.get : ∀ {e : List (Option PV)} {s : Sl} {i : Nat} {x : PV}, ER w M rho H e s → e[i]? = some (some x) → ∃ v, s[i]? = some (some v) ∧ VR w M rho H x v
  | _, _, i, _, .nil, q => by simp at q
  | _, _, 0, _, .has a _, q => by simp at q; subst q; exact ⟨_, rfl, a⟩
  | _, _, 0, _, .no _, q => by simp at q
  | _, _, i + 1, x, .has _ b, q => by
    obtain ⟨v, h1, h2⟩ := ER.get (i := i) (x := x) b (by simpa using q)
    exact ⟨v, by simpa using h1, h2⟩
  | _, _, i + 1, x, .no b, q => by
    obtain ⟨v, h1, h2⟩ := ER.get (i := i) (x := x) b (by simpa using q)
    exact ⟨v, by simpa using h1, h2⟩
theorem ER.set {x : PV} {v : V} (r : VR w M rho H x v) : ∀ {e : List (Option PV)} {s : Sl} (i : Nat), ER w M rho H e s → ER w M rho H (e.set i (some x)) (s.set i (some v))
  | _, _, _, .nil => .nil
  | _, _, 0, .has _ b => .has r b
  | _, _, 0, .no b => .has r b
  | _, _, i + 1, .has a b => .has a (ER.set r i b)
  | _, _, i + 1, .no b => .no (ER.set r i b)
theorem ER.drop : ∀ {e : List (Option PV)} {s : Sl} (i : Nat) (v : Option V), ER w M rho H e s → ER w M rho H (e.set i none) (s.set i v)
  | _, _, _, _, .nil => .nil
  | _, _, 0, _, .has _ b => .no b
  | _, _, 0, _, .no b => .no b
  | _, _, i + 1, v, .has a b => .has a (ER.drop i v b)
  | _, _, i + 1, v, .no b => .no (ER.drop i v b)
theorem ER.length : ∀ {e : List (Option PV)} {s : Sl}, ER w M rho H e s → e.length = s.length
  | _, _, .nil => rfl
  | _, _, .has _ b => by rw [List.length_cons, List.length_cons, ER.length b]
  | _, _, .no b => by rw [List.length_cons, List.length_cons, ER.length b]
end

/-- a value's end -/
def KV (w : Wo) (Q : VK) : KC PV := fun x _ M rho H => ∀ v, VR w M rho H x v → Q v H
def KA (w : Wo) (Q : List V → Hp → Prop) : KC (List PV) := fun xs _ M rho H => ∀ vs, VRs w M rho H xs vs → Q vs H
def KB (Q : Bool → Hp → Prop) : KC Bool := fun b _ _ _ H => Q b H
/-- the readings -/
def tM (w : Wo) (EX : XC) (m : ME) : TE := fun σ H Q => ∃ M rho env h, ER w M rho H env σ ∧ HR w M rho H h ∧ Out w EX M rho H (m env h) (KV w Q)
def tT (w : Wo) (EX : XC) (m : MT) : TT := fun σ H Q => ∃ M rho env h, ER w M rho H env σ ∧ HR w M rho H h ∧ Out w EX M rho H (m env h) (KB Q)
def tA (w : Wo) (EX : XC) (m : MA) : TA := fun σ H Q => ∃ M rho env h, ER w M rho H env σ ∧ HR w M rho H h ∧ Out w EX M rho H (m env h) (KA w Q)
theorem PE.imp {X : Cx} {e : Expr} {t t' : TE} (p : PE X e t) (i : ∀ σ H Q, t' σ H Q → t σ H Q) : PE X e t' := ⟨fun pins s σ H Q I h => p.run pins s σ H Q I (i σ H Q h)⟩
theorem PT.imp {X : Cx} {e : Expr} {t t' : TT} (p : PT X e t) (i : ∀ σ H Q, t' σ H Q → t σ H Q) : PT X e t' := ⟨fun pins s σ H Q I h => p.run pins s σ H Q I (i σ H Q h)⟩
theorem PW.imp {X : Cx} {e : Expr} {t t' : TT} (p : PW X e t) (i : ∀ σ H Q, t' σ H Q → t σ H Q) : PW X e t' := ⟨fun wh pins s σ H Q I h => p.run wh pins s σ H Q I (i σ H Q h)⟩
theorem PA.imp {X : Cx} {es : List Expr} {t t' : TA} (p : PA X es t) (i : ∀ σ H Q, t' σ H Q → t σ H Q) : PA X es t' := ⟨fun ps pins s σ H Q I h => p.run ps pins s σ H Q I (i σ H Q h)⟩

section
variable {w : Wo} {EX : XC} {M : Addr → Prop} {rho : List Addr} {H : Hp} {env : List (Option PV)} {σ : Sl} {h : PH}
/-- from an outcome with any end to the reading -/
theorem tM.of {m : ME} {k : KC PV} {Q : VK} (er : ER w M rho H env σ) (hr : HR w M rho H h) (o : Out w EX M rho H (m env h) k)
    (i : ∀ x h1 M1 rho1 H1 v, Step M rho H M1 rho1 H1 → ER w M1 rho1 H1 env σ → HR w M1 rho1 H1 h1 → k x h1 M1 rho1 H1 → VR w M1 rho1 H1 x v → Q v H1) : tM w EX m σ H Q :=
  ⟨M, rho, env, h, er, hr, o.imp fun x h1 M1 rho1 H1 st hr1 q v r => i x h1 M1 rho1 H1 v st (er.step st hr) hr1 q r⟩
theorem tT.of {m : MT} {k : KC Bool} {Q : Bool → Hp → Prop} (er : ER w M rho H env σ) (hr : HR w M rho H h) (o : Out w EX M rho H (m env h) k)
    (i : ∀ x h1 M1 rho1 H1, Step M rho H M1 rho1 H1 → ER w M1 rho1 H1 env σ → HR w M1 rho1 H1 h1 → k x h1 M1 rho1 H1 → Q x H1) : tT w EX m σ H Q :=
  ⟨M, rho, env, h, er, hr, o.imp fun x h1 M1 rho1 H1 st hr1 q => i x h1 M1 rho1 H1 st (er.step st hr) hr1 q⟩
theorem tA.of {m : MA} {k : KC (List PV)} {Q : List V → Hp → Prop} (er : ER w M rho H env σ) (hr : HR w M rho H h) (o : Out w EX M rho H (m env h) k)
    (i : ∀ x h1 M1 rho1 H1 v, Step M rho H M1 rho1 H1 → ER w M1 rho1 H1 env σ → HR w M1 rho1 H1 h1 → k x h1 M1 rho1 H1 → VRs w M1 rho1 H1 x v → Q v H1) : tA w EX m σ H Q :=
  ⟨M, rho, env, h, er, hr, o.imp fun x h1 M1 rho1 H1 st hr1 q v r => i x h1 M1 rho1 H1 v st (er.step st hr) hr1 q r⟩
end

def mVar (i : Nat) : ME := fun env h => match env[i]? with
  | some (some x) => .ok x h
  | _ => .stuck
def mC (x : PV) : ME := fun _ h => .ok x h
section
variable {w : Wo} {EX : XC} {X : Cx} {k : Nat}
theorem me_var (i : Nat) {x : Str} {pos : Pos} (hN : X.N[i]? = some x := by rfl) (hv : Vis X.env.scope x := by first | exact Or.inl rfl | exact Or.inr (Or.inl rfl) | exact Or.inr (Or.inr rfl)) (hd : (x == ("__debug__" : Str)) = false := by decide)
    (hcd : (x == ("__classdict__" : Str)) = false := by decide) : PE X (.Name x pos) (tM w EX (mVar i)) := by
  refine PE.imp (pv i hN hv hd hcd) fun σ H Q h => ?_
  obtain ⟨M, rho, env, hh, er, hr, o⟩ := h
  unfold mVar at o
  cases e : env[i]? with
  | none => rw [e] at o; exact o.elim
  | some a =>
    cases a with
    | none => rw [e] at o; exact o.elim
    | some x =>
      rw [e] at o
      obtain ⟨v, e1, r⟩ := er.get e
      exact ⟨v, e1, o.now hr v r⟩
theorem me_const {e : Expr} {v : V} {x : PV} (p : PE X e (tC v)) (r : ∀ M rho H, VR w M rho H x v) : PE X e (tM w EX (mC x)) := by
  refine PE.imp p fun σ H Q h => ?_
  obtain ⟨M, rho, env, hh, er, hr, o⟩ := h
  exact o.now hr v (r M rho H)
theorem me_int {i : Int} {j pos} : PE X (.Constant (.int i) j pos) (tM w EX (mC (.int i))) := me_const pe_int fun _ _ _ => .int i
theorem me_bl {b : Bool} {j pos} : PE X (.Constant (.bool b) j pos) (tM w EX (mC (.bl b))) := me_const pe_bl fun _ _ _ => .bl b
theorem me_non {j pos} : PE X (.Constant .none j pos) (tM w EX (mC .non)) := me_const pe_non fun _ _ _ => .non
theorem me_str {x : Str} {j pos} (s : List Nat) (e : x = ⟨s.toArray⟩ := by decide +kernel) : PE X (.Constant (.str x) j pos) (tM w EX (mC (.str s))) := by
  subst e
  exact me_const pe_str fun _ _ _ => .str s
/-- a global that holds an int, a text -/
theorem me_gint (i : Int) {x : Str} {t : Tok} {pos : Pos} (hg : Gl X x) (hm : X.mg x = some (.int i t)) (hd : (x == ("__debug__" : Str)) = false := by decide) : PE X (.Name x pos) (tM w EX (mC (.int i))) :=
  me_const (pe_glob (v := .int i) hg hm ⟨t, rfl⟩ hd) fun _ _ _ => .int i
theorem me_gstr (s : List Nat) {x z : Str} {t : Tok} {pos : Pos} (hg : Gl X x) (hm : X.mg x = some (.str z t)) (e : z = ⟨s.toArray⟩) (hd : (x == ("__debug__" : Str)) = false := by decide) : PE X (.Name x pos) (tM w EX (mC (.str s))) := by
  subst e
  exact me_const (pe_glob (v := .str ⟨s.toArray⟩) hg hm ⟨t, rfl⟩ hd) fun _ _ _ => .str s
end

def LIM : Nat := 16777216
theorem lim_eq : (sizeLine : Nat) = LIM := sizeLine_eq
def maNil : MA := fun _ h => .ok [] h
def maCons (m : ME) (ms : MA) : MA := fun env h => (m env h).bind fun x h1 => (ms env h1).bind fun xs h2 => .ok (x :: xs) h2
def mTup (ms : MA) : ME := fun env h => (ms env h).bind fun xs h1 => if xs.length ≤ LIM then .ok (.tup xs) h1 else .stuck
def mLst (ms : MA) : ME := fun env h => (ms env h).bind fun xs h1 => if xs.length ≤ LIM then .ok (.ref h1.length) (h1 ++ [.lst xs]) else .stuck
section
variable {w : Wo} {EX : XC} {X : Cx} {k : Nat} {M : Addr → Prop} {rho : List Addr} {H : Hp} {h : PH}
theorem ma_nil : PA X [] (tA w EX maNil) := by
  refine PA.imp pa_nil fun σ H Q h => ?_
  obtain ⟨M, rho, env, hh, er, hr, o⟩ := h
  exact o.now hr [] .nil
theorem ma_cons {e : Expr} {es : List Expr} {m : ME} {ms : MA} (ha : PE X e (tM w EX m)) (hb : PA X es (tA w EX ms)) (hs : starEach (e :: es) X.env = (false, eval e X.env) :: starEach es X.env := by rfl) : PA X (e :: es) (tA w EX (maCons m ms)) := by
  refine PA.imp (pa_cons ha hb hs) fun σ H Q h => ?_
  obtain ⟨M, rho, env, hh, er, hr, o⟩ := h
  refine tM.of er hr o.bind fun x h1 M1 rho1 H1 v st1 er1 hr1 o1 rv => ?_
  refine ⟨M1, rho1, env, h1, er1, hr1, (Out.bind o1).imp fun ys h2 M2 rho2 H2 st2 hr2 o2 us rs => ?_⟩
  exact o2.now hr2 (v :: us) (.cons (rv.step st2 hr1) rs)
/-- a new tuple -/
theorem KV.tup {xs : List PV} {vs : List V} {Q : VK} (hr : HR w M rho H h) (o : Out w EX M rho H (.ok (.tup xs) h) (KV w Q)) (r : VRs w M rho H xs vs) : ∀ p, H p = none → Q (.ref p) (upd H p (.tup vs)) := fun p n =>
  o M rho _ (Step.grow (same_upd n)) (hr.grow (same_upd n)) _ (.tup (SqT.of upd_same) (r.step (Step.grow (same_upd n)) hr))
/-- a new list -/
theorem KV.lst {xs : List PV} {vs : List V} {Q : VK} (hr : HR w M rho H h) (o : Out w EX M rho H (.ok (.ref h.length) (h ++ [.lst xs])) (KV w Q)) (r : VRs w M rho H xs vs) : ∀ p, H p = none → Q (.ref p) (upd H p (.lst vs)) := fun p n => by
  have st := Step.alloc (M := M) (rho := rho) (o := .lst vs) n
  have r2 := r.step st hr
  refine o _ _ _ st (hr.alloc n ⟨vs, upd_same, r2⟩) _ (.ref ?_)
  rw [List.getElem?_append_right (by rw [hr.len]; exact Nat.le_refl _), hr.len, Nat.sub_self]
  rfl
theorem me_tup {es : List Expr} {ms : MA} {x1 pos} (ha : PA X es (tA w EX ms)) : PE X (.Tuple es x1 pos) (tM w EX (mTup ms)) := by
  refine PE.imp (pe_tup ha) fun σ H Q h => ?_
  obtain ⟨M, rho, env, hh, er, hr, o⟩ := h
  refine tA.of er hr o.bind fun xs h1 M1 rho1 H1 vs st1 er1 hr1 o1 rs => ?_
  by_cases hl : xs.length ≤ LIM
  · simp only [hl, if_true] at o1
    exact ⟨by rw [rs.length, lim_eq]; exact hl, KV.tup hr1 o1 rs⟩
  · simp only [hl, if_false] at o1
    exact o1.elim
theorem me_lst {es : List Expr} {ms : MA} {pos} (ha : PA X es (tA w EX ms)) : PE X (.List es pos) (tM w EX (mLst ms)) := by
  refine PE.imp (pe_lst ha) fun σ H Q h => ?_
  obtain ⟨M, rho, env, hh, er, hr, o⟩ := h
  refine tA.of er hr o.bind fun xs h1 M1 rho1 H1 vs st1 er1 hr1 o1 rs => ?_
  by_cases hl : xs.length ≤ LIM
  · simp only [hl, if_true] at o1
    exact ⟨by rw [rs.length, lim_eq]; exact hl, KV.lst hr1 o1 rs⟩
  · simp only [hl, if_false] at o1
    exact o1.elim
end

abbrev O2 := PH → PV → PV → R PV
abbrev O1 := PH → PV → R PV
def r2 (w : Wo) (EX : XC) (op : O2) : R2 := fun x y H Q => ∃ M rho h px py, HR w M rho H h ∧ VR w M rho H px x ∧ VR w M rho H py y ∧ Out w EX M rho H (op h px py) (KV w Q)
def r1 (w : Wo) (EX : XC) (op : O1) : V → Hp → VK → Prop := fun x H Q => ∃ M rho h px, HR w M rho H h ∧ VR w M rho H px x ∧ Out w EX M rho H (op h px) (KV w Q)
def rA (w : Wo) (EX : XC) (op : PH → List PV → R PV) : List V → Hp → VK → Prop := fun xs H Q => ∃ M rho h ps, HR w M rho H h ∧ VRs w M rho H ps xs ∧ Out w EX M rho H (op h ps) (KV w Q)
def mOp (op : O2) (ma mb : ME) : ME := fun env h => (ma env h).bind fun x h1 => (mb env h1).bind fun y h2 => op h2 x y
def mUn (op : O1) (ma : ME) : ME := fun env h => (ma env h).bind fun x h1 => op h1 x
section
variable {w : Wo} {EX : XC} {X : Cx} {k : Nat} {a b : Expr} {ma mb : ME} {pos : Pos}
theorem tM_op {op : O2} {σ : Sl} {H : Hp} {Q : VK} (h : tM w EX (mOp op ma mb) σ H Q) : tOp (r2 w EX op) (tM w EX ma) (tM w EX mb) σ H Q := by
  obtain ⟨M, rho, env, hh, er, hr, o⟩ := h
  refine tM.of er hr o.bind fun x h1 M1 rho1 H1 v st1 er1 hr1 o1 rv => ?_
  refine ⟨M1, rho1, env, h1, er1, hr1, (Out.bind o1).imp fun y h2 M2 rho2 H2 st2 hr2 o2 u ru => ?_⟩
  exact ⟨M2, rho2, h2, x, y, hr2, rv.step st2 hr1, ru, o2⟩
theorem tM_un {op : O1} {σ : Sl} {H : Hp} {Q : VK} (h : tM w EX (mUn op ma) σ H Q) : tUn (r1 w EX op) (tM w EX ma) σ H Q := by
  obtain ⟨M, rho, env, hh, er, hr, o⟩ := h
  exact tM.of er hr o.bind fun x h1 M1 rho1 H1 v st1 er1 hr1 o1 rv => ⟨M1, rho1, h1, x, hr1, rv, o1⟩
theorem me_op {op : Operator} {f : O2} (ho : OpR X (binaryOp op) (r2 w EX f)) (ha : PE X a (tM w EX ma)) (hb : PE X b (tM w EX mb)) : PE X (.BinOp a op b pos) (tM w EX (mOp f ma mb)) :=
  PE.imp (pe_op ho ha hb) fun _ _ _ h => tM_op h
theorem me_un {op : UnaryOp} {f : O1} (ho : UnR X (unaryOp op) (r1 w EX f)) (ha : PE X a (tM w EX ma)) : PE X (.UnaryOp op a pos) (tM w EX (mUn f ma)) :=
  PE.imp (pe_un ho ha) fun _ _ _ h => tM_un h
theorem me_cmp {op : CmpOp} {f : O2} (ho : OpR X (compareOp op) (r2 w EX f)) (ha : PE X a (tM w EX ma)) (hb : PE X b (tM w EX mb)) (hm : behindInMarks op b = false) : PE X (.Compare a [op] [b] pos) (tM w EX (mOp f ma mb)) :=
  PE.imp (pe_cmpR ho ha hb hm) fun _ _ _ h => tM_op h
end

/-- of a bool -/
def asB (r : R PV) : R Bool := r.bind fun x h => match x with
  | .bl b => .ok b h
  | _ => .stuck
def mTB (m : ME) : MT := fun env h => asB (m env h)
section
variable {w : Wo} {EX : XC} {X : Cx} {k : Nat} {a b c : Expr} {ma mb mc : ME} {pos : Pos}
theorem tM_test {σ : Sl} {H : Hp} {Q : Bool → Hp → Prop} (h : tT w EX (mTB ma) σ H Q) : tTest (tM w EX ma) σ H Q := by
  obtain ⟨M, rho, env, hh, er, hr, o⟩ := h
  refine tM.of er hr (Out.bind o) fun x h1 M1 rho1 H1 v st1 er1 hr1 o1 rv => ?_
  cases rv with
  | bl b => exact ⟨b, rfl, o1.now hr1⟩
  | _ => exact (show False from o1).elim
theorem mt_cmp {op : CmpOp} {f : O2} (ho : OpR X (compareOp op) (r2 w EX f)) (ha : PE X a (tM w EX ma)) (hb : PE X b (tM w EX mb)) (hm : behindInMarks op b = false) : PT X (.Compare a [op] [b] pos) (tT w EX (mTB (mOp f ma mb))) := by
  refine PT.imp (pt_cmpR ho ha hb hm) fun σ H Q h => ?_
  exact tM_op (show tM w EX (mOp f ma mb) σ H _ from tM_test h)
/-- a < b < c -/
def mCh (f g : O2) (ma mb mc : ME) : ME := fun env h => (ma env h).bind fun x h1 => (mb env h1).bind fun y h2 => (f h2 x y).bind fun z h3 => match z with
  | .bl true => (mc env h3).bind fun u h4 => g h4 y u
  | .bl false => .ok (.bl false) h3
  | _ => .stuck
theorem tM_ch {f g : O2} {σ : Sl} {H : Hp} {Q : VK} (h : tM w EX (mCh f g ma mb mc) σ H Q) : tChain (r2 w EX f) (r2 w EX g) (tM w EX ma) (tM w EX mb) (tM w EX mc) σ H Q := by
  obtain ⟨M, rho, env, hh, er, hr, o⟩ := h
  refine tM.of er hr o.bind fun x h1 M1 rho1 H1 v st1 er1 hr1 o1 rv => ?_
  refine ⟨M1, rho1, env, h1, er1, hr1, (Out.bind o1).imp fun y h2 M2 rho2 H2 st2 hr2 o2 u ru => ?_⟩
  refine ⟨M2, rho2, h2, x, y, hr2, rv.step st2 hr1, ru, (Out.bind o2).imp fun z h3 M3 rho3 H3 st3 hr3 o3 t rt => ?_⟩
  have er3 := (er1.step st2 hr1).step st3 hr2
  cases rt with
  | bl b =>
    refine ⟨b, rfl, ?_⟩
    cases b with
    | false => exact o3.now hr3 _ (.bl false)
    | true =>
      refine iteT (tM.of er3 hr3 (Out.bind (show Out w EX M3 rho3 H3 ((mc env h3).bind fun u h4 => g h4 y u) _ from o3)) fun p h4 M4 rho4 H4 q st4 er4 hr4 o4 rq => ?_)
      exact ⟨M4, rho4, h4, y, p, hr4, (ru.step st3 hr2).step st4 hr3, rq, o4⟩
  | _ => exact (show False from o3).elim
end
end MC

end
section
set_option maxRecDepth 100000
set_option maxHeartbeats 4000000
namespace MC
open PySem PySem.Spec PyProof.Rows L2

def S (l : List Nat) : Str := ⟨l.toArray⟩
theorem S_len (l : List Nat) : (S l).length = l.length := by show l.toArray.size = _; simp
theorem S_app (a b : List Nat) : S a ++ S b = S (a ++ b) := by
  show (⟨a.toArray ++ b.toArray⟩ : Str) = ⟨(a ++ b).toArray⟩
  simp
theorem S_inj {a b : List Nat} (h : S a = S b) : a = b := by
  have := congrArg (fun z : Str => z.cps.toList) h
  simpa [S] using this
theorem S_list (l : List Nat) : (S l).cps.toList = l := by simp [S]
theorem S_of (z : Str) : S z.cps.toList = z := by cases z; simp [S]

def opI (C : Int → Int → Bool) (g : Int → Int → PV) : O2 := fun h x y => match x, y with
  | .int i, .int j => bif C i j then .ok (g i j) h else .stuck
  | _, _ => .stuck
def unI (g : Int → Int) : O1 := fun h x => match x with
  | .int i => .ok (.int (g i)) h
  | _ => .stuck
section
variable {w : Wo} {EX : XC} {X : Cx} {k : Nat}
theorem oI {f : Value → Value → Sem Value} {C : Int → Int → Bool} {D : Int → Int → Prop} {g : Int → Int → PV} {g' : Int → Int → V} (ho : OpR X f (rI D g')) (hC : ∀ i j, C i j = true → D i j) (hg : ∀ i j M rho H, VR w M rho H (g i j) (g' i j)) :
    OpR X f (r2 w EX (opI C g)) := by
  intro pins s σ H x y v u Q I rx ry ⟨M, rho, h, px, py, hr, vx, vy, o⟩
  cases vx <;> try exact (show False from o).elim
  cases vy <;> try exact (show False from o).elim
  rename_i i j
  cases e : C i j with
  | false =>
    have o' : Out w EX M rho H (bif C i j then .ok (g i j) h else .stuck) (KV w Q) := o
    rw [e] at o'
    exact (show False from o').elim
  | true =>
    have o' : Out w EX M rho H (bif C i j then .ok (g i j) h else .stuck) (KV w Q) := o
    rw [e] at o'
    exact ho pins s σ H _ _ v u Q I rx ry ⟨i, j, rfl, rfl, hC i j e, (show Out w EX M rho H (.ok (g i j) h) (KV w Q) from o').now hr _ (hg i j M rho H)⟩
theorem oI0 {f : Value → Value → Sem Value} {g : Int → Int → PV} {g' : Int → Int → V} (ho : OpR X f (rI0 g')) (hg : ∀ i j M rho H, VR w M rho H (g i j) (g' i j)) : OpR X f (r2 w EX (opI (fun _ _ => true) g)) :=
  oI (D := fun _ _ => True) (fun pins s σ H x y v u Q I rx ry ⟨i, j, e1, e2, _, q⟩ => ho pins s σ H x y v u Q I rx ry ⟨i, j, e1, e2, q⟩) (fun _ _ _ => trivial) hg
def opSub : O2 := opI (fun _ _ => true) fun i j => .int (i - j)
def opMod : O2 := opI (fun _ j => decide (0 < j)) fun i j => .int (i % j)
def opFdiv : O2 := opI (fun _ j => decide (0 < j) && decide (j < 1073741824)) fun i j => .int (i / j)
def opPow : O2 := opI (fun i j => decide (0 ≤ j) && decide (j ≤ 1000000) && decide (i.natAbs < 2 ^ 64)) fun i j => .int (i ^ j.toNat)
theorem o_sub : OpR X (binaryOp .Sub) (r2 w EX opSub) := oI0 op_sub fun _ _ _ _ _ => .int _
theorem o_mod : OpR X (binaryOp .Mod) (r2 w EX opMod) := oI op_mod (fun _ _ h => of_decide_eq_true h) fun _ _ _ _ _ => .int _
theorem o_fdiv : OpR X (binaryOp .FloorDiv) (r2 w EX opFdiv) := oI op_fdiv (fun _ _ h => by
  rw [Bool.and_eq_true] at h
  exact ⟨of_decide_eq_true h.1, of_decide_eq_true h.2⟩) fun _ _ _ _ _ => .int _
theorem o_pow : OpR X (binaryOp .Pow) (r2 w EX opPow) := oI op_pow (fun _ _ h => by
  rw [Bool.and_eq_true, Bool.and_eq_true] at h
  exact ⟨of_decide_eq_true h.1.1, of_decide_eq_true h.1.2, of_decide_eq_true h.2⟩) fun _ _ _ _ _ => .int _
theorem o_neg : UnR X (unaryOp .USub) (r1 w EX (unI fun i => -i)) := by
  intro pins s σ H x v Q I rx ⟨M, rho, h, px, hr, vx, o⟩
  cases vx <;> try exact (show False from o).elim
  exact un_neg pins s σ H _ v Q I rx ⟨_, rfl, (show Out w EX M rho H (.ok _ h) (KV w Q) from o).now hr _ (.int _)⟩
def opAdd : O2 := fun h x y => match x, y with
  | .int i, .int j => .ok (.int (i + j)) h
  | .str a, .str b => bif decide (a.length + b.length ≤ LIM) then .ok (.str (a ++ b)) h else .stuck
  | .tup a, .tup b => bif decide (a.length + b.length ≤ LIM) then .ok (.tup (a ++ b)) h else .stuck
  | .ref n, .ref m => match h[n]?, h[m]? with
    | some (.lst a), some (.lst b) => bif decide (a.length + b.length ≤ LIM) then .ok (.ref h.length) (h ++ [.lst (a ++ b)]) else .stuck
    | _, _ => .stuck
  | _, _ => .stuck
theorem Out.lim {M : Addr → Prop} {rho : List Addr} {H : Hp} {α : Type} {c : Prop} [Decidable c] {r : R α} {kk : KC α} (o : Out w EX M rho H (bif decide c then r else .stuck) kk) : c ∧ Out w EX M rho H r kk := by
  by_cases h : c
  · rw [decide_eq_true h] at o; exact ⟨h, o⟩
  · rw [decide_eq_false h] at o; exact (show False from o).elim
theorem HR.lst {M : Addr → Prop} {rho : List Addr} {H : Hp} {h : PH} (hr : HR w M rho H h) {n : Nat} {a : Addr} {xs : List PV} (e : h[n]? = some (.lst xs)) (ha : rho[n]? = some a) : ∃ vs, H a = some (.lst vs) ∧ VRs w M rho H xs vs := by
  obtain ⟨b, hb, q⟩ := hr.ob n _ e
  rw [ha] at hb; cases hb
  exact q
theorem o_add (C : Cxt w k X) : OpR X (binaryOp .Add) (r2 w EX opAdd) := by
  intro pins s σ H x y v u Q I rx ry ⟨M, rho, h, px, py, hr, vx, vy, o⟩
  cases vx with
  | int i =>
    cases vy <;> try exact (show False from o).elim
    exact op_add pins s σ H _ _ v u Q I rx ry ⟨_, _, rfl, rfl, (show Out w EX M rho H (.ok _ h) (KV w Q) from o).now hr _ (.int _)⟩
  | str a =>
    cases vy <;> try exact (show False from o).elim
    obtain ⟨hl, o2⟩ := Out.lim o
    refine op_add_str pins s σ H _ _ v u Q I rx ry ⟨_, _, rfl, rfl, ?_, ?_⟩
    · show (S _).length + (S _).length ≤ _
      rw [S_len, S_len, lim_eq]; exact hl
    · show Q (.str (S _ ++ S _)) H
      rw [S_app]
      exact o2.now hr _ (.str _)
  | @tup a vs A ha sa =>
    cases vy <;> try exact (show False from o).elim
    rename_i b us B hb sb
    obtain ⟨hl, o2⟩ := Out.lim o
    refine op_catA pins s σ H _ _ v u Q I rx ry ⟨A, B, vs, us, rfl, rfl, by rw [C.hK]; exact ha, by rw [C.hK]; exact hb, by rw [sa.length, sb.length, lim_eq]; exact hl, fun e => ?_, fun _ e => ?_, fun _ _ => ?_⟩
    · subst e
      cases sa
      exact o2.now hr _ (.tup hb sb)
    · subst e
      cases sb
      rw [List.append_nil] at o2
      exact o2.now hr _ (.tup ha sa)
    · exact KV.tup hr o2 (sa.append sb)
  | @ref n A ha =>
    cases vy <;> try exact (show False from o).elim
    rename_i m B hb
    have o' : Out w EX M rho H (match h[n]?, h[m]? with
      | some (.lst a), some (.lst b) => bif decide (a.length + b.length ≤ LIM) then .ok (.ref h.length) (h ++ [.lst (a ++ b)]) else .stuck
      | _, _ => .stuck) (KV w Q) := o
    split at o'
    · rename_i xs ys e1 e2
      obtain ⟨hl, o2⟩ := Out.lim o'
      obtain ⟨vs, h1, s1⟩ := hr.lst e1 ha
      obtain ⟨us, h2, s2⟩ := hr.lst e2 hb
      exact op_cat pins s σ H _ _ v u Q I rx ry ⟨A, B, vs, us, rfl, rfl, h1, h2, by rw [s1.length, s2.length, lim_eq]; exact hl, KV.lst hr o2 (s1.append s2)⟩
    · exact (show False from o').elim
  | _ => exact (show False from o).elim
end
theorem tuple_mul1 (l : Addr) (items : Array Value) (n : Nat) (dd : Option Addr) (sl : Array (Option Value)) (u : Tok) :
    Meets (Builtin.«tuple.__mul__» ⟨[.ref l, .int 1 u], []⟩) (fun _ R s => s.heap.get? l = some { cls := .type "tuple", dict := dd, data := .seq items n, slots := sl } ∧ R (.ok (.ret (Value.ref l))) s) :=
  .of_wp fun prog w A R s h => by
    obtain ⟨hp, g, d, tk, os⟩ := s
    obtain ⟨hl, h⟩ := h
    have f1 := AutoSeq1.idx_int
    wp_walk using wpAny_loadPart' hl
    repeat (first
      | (refine wpAny_ite_true (by simp) ?_; wp_walk using wpAny_loadPart' hl)
      | (refine wpAny_ite_false (by simp) ?_; wp_walk using wpAny_loadPart' hl))
    exact ⟨_, rfl, h⟩

def opMul : O2 := fun h x y => match x, y with
  | .int i, .int j => bif (decide (-(2 ^ 64) < i) && decide (i < 2 ^ 64)) || (decide (-(2 ^ 64) < j) && decide (j < 2 ^ 64)) then .ok (.int (i * j)) h else .stuck
  | .str a, .int j => bif decide (-1000000 ≤ j) && decide (j ≤ 1000) && decide (a.length ≤ 1000) then .ok (.str (List.replicate j.toNat a).flatten) h else .stuck
  | .tup a, .int j => bif decide (1 ≤ j) && decide (j ≤ 1000) && decide (1 ≤ a.length) && decide (a.length ≤ 1000) then .ok (.tup (List.replicate j.toNat a).flatten) h else .stuck
  | .ref n, .int j => match h[n]? with
    | some (.lst a) => bif decide (-1000000 ≤ j) && decide (j ≤ 1000) && decide (a.length ≤ 1000) then .ok (.ref h.length) (h ++ [.lst (List.replicate j.toNat a).flatten]) else .stuck
    | _ => .stuck
  | _, _ => .stuck
theorem Out.bif {w : Wo} {EX : XC} {M : Addr → Prop} {rho : List Addr} {H : Hp} {α : Type} {c : Bool} {r : R α} {kk : KC α} (o : Out w EX M rho H (bif c then r else .stuck) kk) : c = true ∧ Out w EX M rho H r kk := by
  cases c with
  | true => exact ⟨rfl, o⟩
  | false => exact (show False from o).elim
theorem VRs.rep {w : Wo} {M : Addr → Prop} {rho : List Addr} {H : Hp} {xs : List PV} {vs : List V} (r : VRs w M rho H xs vs) : ∀ j : Nat, VRs w M rho H (List.replicate j xs).flatten (List.replicate j vs).flatten
  | 0 => .nil
  | j + 1 => by
    rw [List.replicate_succ, List.replicate_succ, List.flatten_cons, List.flatten_cons]
    exact r.append (VRs.rep r j)
theorem rep_one {α : Type} (l : List α) : (List.replicate 1 l).flatten = l := by simp
theorem foldl_repS (l : List Nat) : ∀ (j : Nat) (acc : List Nat), List.foldl (fun x y => x ++ y) acc.toArray (List.replicate j l.toArray) = (acc ++ (List.replicate j l).flatten).toArray
  | 0, acc => by simp
  | j + 1, acc => by
    rw [List.replicate_succ, List.foldl_cons, show acc.toArray ++ l.toArray = (acc ++ l).toArray by simp, foldl_repS l j (acc ++ l), List.replicate_succ, List.flatten_cons, List.append_assoc]
theorem S_rep (l : List Nat) (j : Int) : Txt.mul (S l) j = S (List.replicate j.toNat l).flatten := by
  unfold Txt.mul
  by_cases h1 : j < 1
  · rw [if_pos h1, show j.toNat = 0 by omega]
    rfl
  · rw [if_neg h1]
    by_cases h2 : (j == 1 || (S l).length == 0) = true
    · rw [if_pos h2]
      rw [S_len] at h2
      simp only [Bool.or_eq_true, beq_iff_eq] at h2
      rcases h2 with h2 | h2
      · subst h2
        show S l = S (List.replicate 1 l).flatten
        rw [rep_one]
      · have : l = [] := List.eq_nil_of_length_eq_zero h2
        subst this
        simp [S]
    · rw [if_neg h2]
      have e := foldl_repS l j.toNat []
      show (⟨List.foldl (fun x y => x ++ y) #[] (List.replicate j.toNat l.toArray)⟩ : Str) = ⟨(List.replicate j.toNat l).flatten.toArray⟩
      rw [e]
      simp
theorem o_mul {w : Wo} {EX : XC} {X : Cx} {k : Nat} (C : Cxt w k X) : OpR X (binaryOp .Mult) (r2 w EX opMul) := by
  intro pins s σ H x y v u Q I rx ry ⟨M, rho, h, px, py, hr, vx, vy, o⟩
  cases vx with
  | int i =>
    cases vy <;> try exact (show False from o).elim
    rename_i j
    obtain ⟨hc, o2⟩ := Out.bif o
    refine op_mul pins s σ H _ _ v u Q I rx ry ⟨i, j, rfl, rfl, ?_, o2.now hr _ (.int _)⟩
    simp only [Bool.or_eq_true, Bool.and_eq_true, decide_eq_true_eq] at hc
    exact hc
  | str a =>
    cases vy <;> try exact (show False from o).elim
    rename_i j
    obtain ⟨hc, o2⟩ := Out.bif o
    simp only [Bool.and_eq_true, decide_eq_true_eq] at hc
    obtain ⟨t, rfl⟩ := rx
    obtain ⟨t', rfl⟩ := ry
    refine SB.mul (mulOk_of 1000 1000 (by show (S a).length ≤ _; rw [S_len]; exact hc.2) (by omega) (by omega) (by decide) (by decide)) fun t2 k2 => ?_
    refine ⟨.str _, H, I.tok _, ⟨t2, rfl⟩, ?_⟩
    show Q (.str (Txt.mul (S a) j)) H
    rw [S_rep]
    exact o2.now hr _ (.str _)
  | @tup a vs A ha sa =>
    cases vy <;> try exact (show False from o).elim
    rename_i j
    obtain ⟨hc, o2⟩ := Out.bif o
    simp only [Bool.and_eq_true, decide_eq_true_eq] at hc
    obtain ⟨⟨⟨h1, h2⟩, h3⟩, h4⟩ := hc
    have hl := sa.length
    by_cases e : j = 1
    · subst e
      have o3 : Out w EX M rho H (.ok (.tup (List.replicate 1 a).flatten) h) (KV w Q) := o2
      rw [rep_one] at o3
      have q := o3.now hr _ (.tup ha sa)
      cases rx
      obtain ⟨t, rfl⟩ := ry
      obtain ⟨its, r, ⟨⟨cls, dd, data, sl⟩, ho, hcl, n, hd⟩, hs⟩ := I.tuple (show SqT X.K H A vs by rw [C.hK]; exact ha)
      simp only at hcl hd
      subst hcl hd
      exact wpAny_binaryOp_repeat_ref (T := "tuple") (U := "int") (by decide) ⟨_, ho, rfl⟩ (fun s' => typeIs_int s' 1 t) noFill_tuple_mul F.fills_int_mul F.slot_int_rmul repeat_tuple F.slot_int_index.lookup
        (call_meets F.slot_int_rmul (typeIs_int s 1 t) F.entry_int_rmul (F.args_int_rmul_2 _ _) (int_rmul_tuple 1 t A its.toArray n dd sl)
          ⟨ho, rfl, ⟨_, ho, rfl⟩, call_meets F.slot_tuple_mul ⟨_, ho, rfl⟩ F.entry_tuple_mul (F.args_tuple_mul_2 _ _) (tuple_mul1 A its.toArray n dd sl t) ⟨ho, ⟨.ref A, H, I, rfl, q⟩⟩⟩)
    · refine op_repT pins s σ H _ _ v u Q I rx ry ⟨A, j, vs, rfl, rfl, by rw [C.hK]; exact ha, fun z => ?_, by omega, by omega, by omega, KV.tup hr o2 (sa.rep _)⟩
      rw [z] at hl
      simp at hl
      omega
  | @ref n A ha =>
    cases vy <;> try exact (show False from o).elim
    rename_i j
    have o' : Out w EX M rho H (match h[n]? with
      | some (.lst a) => bif decide (-1000000 ≤ j) && decide (j ≤ 1000) && decide (a.length ≤ 1000) then .ok (.ref h.length) (h ++ [.lst (List.replicate j.toNat a).flatten]) else .stuck
      | _ => .stuck) (KV w Q) := o
    split at o'
    · rename_i xs e1
      obtain ⟨hc, o2⟩ := Out.bif o'
      simp only [Bool.and_eq_true, decide_eq_true_eq] at hc
      obtain ⟨⟨h1, h2⟩, h3⟩ := hc
      obtain ⟨vs, h4, s1⟩ := hr.lst e1 ha
      refine op_rep pins s σ H _ _ v u Q I rx ry ⟨A, j, vs, rfl, rfl, h4, by omega, by omega, ?_, KV.lst hr o2 (s1.rep _)⟩
      rw [s1.length, lim_eq]
      have : xs.length * j.toNat ≤ 1000 * 1000 := Nat.mul_le_mul h3 (by omega)
      show _ ≤ 16777216
      omega
    · exact (show False from o').elim
  | _ => exact (show False from o).elim

def mapO {α β : Type} (f : α → Option β) : List α → Option (List β)
  | [] => some []
  | x :: xs => match f x with
    | none => none
    | some y => match mapO f xs with
      | none => none
      | some ys => some (y :: ys)
/-- a value as data -/
def toD (h : PH) : Nat → PV → Option PyData
  | 0, _ => none
  | n + 1, x => match x with
    | .non => some .none
    | .bl b => some (.bool b)
    | .int i => some (.int i)
    | .str s => some (.str (S s))
    | .tup xs => (mapO (toD h n) xs).map .tuple
    | .scr xs => (mapO (toD h n) xs).map .list
    | .ref m => match h[m]? with
      | some (.lst xs) => (mapO (toD h n) xs).map .list
      | _ => none
    | _ => none
def DEP : Nat := 20
section
variable {w : Wo} {EX : XC} {X : Cx} {k : Nat} {M : Addr → Prop} {rho : List Addr} {H : Hp} {h : PH}
theorem mapO_dp (hr : HR w M rho H h) {f : PV → Option PyData} (hf : ∀ x d v, f x = some d → VR w M rho H x v → Dp w.K H v d) : ∀ {xs : List PV} {vs : List V} {ds : List PyData}, mapO f xs = some ds → VRs w M rho H xs vs → DpAll w.K H vs ds
  | [], _, _, e, r => by
    cases r
    cases e
    exact .nil
  | x :: xs, _, ds, e, r => by
    cases r with
    | cons r1 r2 =>
      unfold mapO at e
      cases e1 : f x with
      | none => rw [e1] at e; cases e
      | some d =>
        rw [e1] at e
        cases e2 : mapO f xs with
        | none => simp only [e2] at e; cases e
        | some ds' =>
          simp only [e2] at e
          cases e
          exact .cons (hf x d _ e1 r1) (mapO_dp hr hf e2 r2)
theorem toD_dp (hr : HR w M rho H h) : ∀ (n : Nat) (x : PV) (d : PyData) (v : V), toD h n x = some d → VR w M rho H x v → Dp w.K H v d := by
  intro n
  induction n with
  | zero => intro x d v e; cases e
  | succ n ih =>
    intro x d v e r
    cases r with
    | non => cases e; exact .non
    | bl b => cases e; exact .bl b
    | int i => cases e; exact .int i
    | str s => cases e; exact .str _
    | @tup xs vs A ha sa =>
      have e' : (mapO (toD h n) xs).map PyData.tuple = some d := e
      cases e2 : mapO (toD h n) xs with
      | none => rw [e2] at e'; cases e'
      | some ds => rw [e2] at e'; cases e'; exact .tup ha (mapO_dp hr ih e2 sa)
    | @scr xs vs A ha sa =>
      have e' : (mapO (toD h n) xs).map PyData.list = some d := e
      cases e2 : mapO (toD h n) xs with
      | none => rw [e2] at e'; cases e'
      | some ds => rw [e2] at e'; cases e'; exact .lst ha.sq (mapO_dp hr ih e2 sa)
    | @ref m A ha =>
      have e' : (match h[m]? with
        | some (.lst xs) => (mapO (toD h n) xs).map PyData.list
        | _ => none) = some d := e
      split at e'
      · rename_i xs e1
        obtain ⟨vs, h4, s1⟩ := hr.lst e1 ha
        cases e2 : mapO (toD h n) xs with
        | none => rw [e2] at e'; cases e'
        | some ds => rw [e2] at e'; cases e'; exact .lst (SqL.of h4) (mapO_dp hr ih e2 s1)
      · cases e'
    | _ => cases e
/-- two values as data -/
def by2 (f : PyData → PyData → Bool) : O2 := fun h x y => match toD h DEP x, toD h DEP y with
  | some d, some e => bif SeqAt.shaped d && SeqAt.shaped e then .ok (.bl (f d e)) h else .stuck
  | _, _ => .stuck
def opEq : O2 := by2 fun d e => PyData.eqv d e
def opNe : O2 := by2 fun d e => !PyData.eqv d e
theorem by2_out {f : PyData → PyData → Bool} {x y : PV} {kk : KC PV} (o : Out w EX M rho H (by2 f h x y) kk) : ∃ d e, toD h DEP x = some d ∧ toD h DEP y = some e ∧ SeqAt.shaped d = true ∧ SeqAt.shaped e = true ∧ Out w EX M rho H (.ok (.bl (f d e)) h) kk := by
  unfold by2 at o
  split at o
  · rename_i d e e1 e2
    obtain ⟨hc, o2⟩ := Out.bif o
    rw [Bool.and_eq_true] at hc
    exact ⟨d, e, e1, e2, hc.1, hc.2, o2⟩
  · exact (show False from o).elim
theorem Cxt.units (C : Cxt w k X) : X.A.units + 190 < cLine := by have := C.room.un; omega
theorem o_eq (C : Cxt w k X) : OpR X (compareOp .Eq) (r2 w EX opEq) := by
  intro pins s σ H x y v u Q I rx ry ⟨M, rho, h, px, py, hr, vx, vy, o⟩
  obtain ⟨d, e, e1, e2, s1, s2, o2⟩ := by2_out o
  have hu := C.units
  exact op_eqD (by omega) pins s σ H _ _ v u Q I rx ry ⟨d, e, by rw [C.hK]; exact toD_dp hr _ _ _ _ e1 vx, by rw [C.hK]; exact toD_dp hr _ _ _ _ e2 vy, s1, s2, o2.now hr _ (.bl _)⟩
theorem o_ne (C : Cxt w k X) : OpR X (compareOp .NotEq) (r2 w EX opNe) := by
  intro pins s σ H x y v u Q I rx ry ⟨M, rho, h, px, py, hr, vx, vy, o⟩
  obtain ⟨d, e, e1, e2, s1, s2, o2⟩ := by2_out o
  have hu := C.units
  exact op_neD (by omega) pins s σ H _ _ v u Q I rx ry ⟨d, e, by rw [C.hK]; exact toD_dp hr _ _ _ _ e1 vx, by rw [C.hK]; exact toD_dp hr _ _ _ _ e2 vy, s1, s2, o2.now hr _ (.bl _)⟩
end
end MC

end
section
set_option maxRecDepth 100000
set_option maxHeartbeats 4000000
namespace MC
open PySem PySem.Spec PyProof.Rows L2

def truth (h : PH) : PV → Option Bool
  | .non => some false
  | .bl b => some b
  | .int i => some (i != 0)
  | .str s => bif decide (s.length ≤ LIM) then some (!s.isEmpty) else none
  | .tup xs => some (!xs.isEmpty)
  | .scr xs => some (!xs.isEmpty)
  | .ref n => match h[n]? with
    | some (.lst xs) => some (!xs.isEmpty)
    | some (.dic false kvs) => some (!kvs.isEmpty)
    | _ => none
  | _ => none
def mTru (m : ME) : MT := fun env h => (m env h).bind fun x h1 => match truth h1 x with
  | some b => .ok b h1
  | none => .stuck
def mAnd (a b : MT) : MT := fun env h => (a env h).bind fun c h1 => bif c then b env h1 else .ok false h1
def mOr (a b : MT) : MT := fun env h => (a env h).bind fun c h1 => bif c then .ok true h1 else b env h1
def mNot (a : MT) : MT := fun env h => (a env h).bind fun c h1 => .ok (!c) h1
def mIf (t : MT) (a b : ME) : ME := fun env h => (t env h).bind fun c h1 => bif c then a env h1 else b env h1
def mAndV (a b : ME) : ME := fun env h => (a env h).bind fun x h1 => match x with
  | .bl c => bif c then b env h1 else .ok (.bl false) h1
  | _ => .stuck
def mOrV (a b : ME) : ME := fun env h => (a env h).bind fun x h1 => match x with
  | .bl c => bif c then .ok (.bl true) h1 else b env h1
  | _ => .stuck
def mNotV (a : ME) : ME := fun env h => (a env h).bind fun x h1 => match x with
  | .bl c => .ok (.bl (!c)) h1
  | _ => .stuck
theorem empty_len {α β : Type} {xs : List α} {ys : List β} (h : ys.length = xs.length) : (!ys.isEmpty) = !xs.isEmpty := by
  cases xs <;> cases ys <;> first | rfl | (simp at h)
section
variable {w : Wo} {EX : XC} {X : Cx} {k : Nat} {M : Addr → Prop} {rho : List Addr} {H : Hp} {h : PH} {a b c : Expr} {ma mb : ME} {ta tb : MT} {pos : Pos} {rest : List Expr}
theorem KRs.length : ∀ {kvs : List (PV × PV)} {ks : List (Key × V)}, KRs w M rho H kvs ks → ks.length = kvs.length
  | _, _, .nil => rfl
  | _, _, .cons _ _ b => by rw [List.length_cons, List.length_cons, KRs.length b]
theorem truth_ok (hr : HR w M rho H h) {x : PV} {v : V} {b : Bool} (r : VR w M rho H x v) (e : truth h x = some b) : TruV w.K v H b := by
  cases r with
  | non => cases e; exact rfl
  | bl b => cases e; exact rfl
  | int i => cases e; exact rfl
  | str s =>
    have e' : (bif decide (s.length ≤ LIM) then some (!s.isEmpty) else none) = some b := e
    by_cases hl : s.length ≤ LIM
    · rw [decide_eq_true hl] at e'
      cases e'
      refine ⟨by show (S s).length ≤ _; rw [S_len, lim_eq]; exact hl, ?_⟩
      show _ = (((S s).length : Int) != 0)
      rw [S_len]
      cases s with
      | nil => rfl
      | cons z zs =>
        show true = _
        symm
        rw [bne_iff_ne]
        simp only [List.length_cons]
        omega
    · rw [decide_eq_false hl] at e'
      cases e'
  | tup q s => cases e; exact .inr (.inl ⟨_, q, (empty_len s.length).symm⟩)
  | scr q s => cases e; exact .inl ⟨_, q.sq, (empty_len s.length).symm⟩
  | @ref n A ha =>
    have e' : (match h[n]? with
      | some (.lst xs) => some (!xs.isEmpty)
      | some (.dic false kvs) => some (!kvs.isEmpty)
      | _ => none) = some b := e
    split at e'
    · rename_i xs e1
      cases e'
      obtain ⟨vs, h1, s1⟩ := hr.lst e1 ha
      exact .inl ⟨vs, SqL.of h1, (empty_len s1.length).symm⟩
    · rename_i kvs e1
      cases e'
      obtain ⟨b, hb, ks, h1, s1⟩ := hr.ob n _ e1
      rw [ha] at hb; cases hb
      exact .inr (.inr ⟨ks, h1, (empty_len s1.length).symm⟩)
    · cases e'
  | _ => cases e
theorem mt_tru (C : Cxt w k X) (ha : PE X a (tM w EX ma)) (he : ∀ whole, isTrue a X.env whole = (do let v ← whole; standAt a.pos; holding [v] (truthy v)) := by intro _; rfl) : PT X a (tT w EX (mTru ma)) := by
  refine PT.imp (pt_truth ha he) fun σ H Q hh => ?_
  obtain ⟨M, rho, env, h, er, hr, o⟩ := hh
  refine tM.of er hr (Out.bind o) fun x h1 M1 rho1 H1 v st1 er1 hr1 o1 rv => ?_
  cases e : truth h1 x with
  | none => rw [e] at o1; exact (show False from o1).elim
  | some b =>
    rw [e] at o1
    exact ⟨b, by rw [C.hK]; exact truth_ok hr1 rv e, o1.now hr1⟩
theorem mw_one {op : BoolOp} (ha : PT X a (tT w EX ta)) : PW X (.BoolOp op [a] pos) (tT w EX ta) := by
  cases op with
  | And => exact pw_and1 ha
  | Or => exact pw_or1 ha
theorem mw_and (ha : PT X a (tT w EX ta)) (hb : PW X (.BoolOp .And (b :: rest) pos) (tT w EX tb)) : PW X (.BoolOp .And (a :: b :: rest) pos) (tT w EX (mAnd ta tb)) := by
  refine PW.imp (pw_and ha hb) fun σ H Q hh => ?_
  obtain ⟨M, rho, env, h, er, hr, o⟩ := hh
  refine tT.of er hr (Out.bind o) fun x h1 M1 rho1 H1 st1 er1 hr1 o1 => ?_
  cases x with
  | true => exact iteT ⟨M1, rho1, env, h1, er1, hr1, o1⟩
  | false => exact iteF (o1.now hr1)
theorem mw_or (ha : PT X a (tT w EX ta)) (hb : PW X (.BoolOp .Or (b :: rest) pos) (tT w EX tb)) : PW X (.BoolOp .Or (a :: b :: rest) pos) (tT w EX (mOr ta tb)) := by
  refine PW.imp (pw_or ha hb) fun σ H Q hh => ?_
  obtain ⟨M, rho, env, h, er, hr, o⟩ := hh
  refine tT.of er hr (Out.bind o) fun x h1 M1 rho1 H1 st1 er1 hr1 o1 => ?_
  cases x with
  | true => exact iteT (o1.now hr1)
  | false => exact iteF ⟨M1, rho1, env, h1, er1, hr1, o1⟩
theorem mt_not (ha : PT X a (tT w EX ta)) : PT X (.UnaryOp .Not a pos) (tT w EX (mNot ta)) := by
  refine PT.imp (pt_not ha) fun σ H Q hh => ?_
  obtain ⟨M, rho, env, h, er, hr, o⟩ := hh
  exact tT.of er hr (Out.bind o) fun x h1 M1 rho1 H1 st1 er1 hr1 o1 => o1.now hr1
theorem me_if (hc : PT X c (tT w EX ta)) (ha : PE X a (tM w EX ma)) (hb : PE X b (tM w EX mb)) : PE X (.IfExp c a b pos) (tM w EX (mIf ta ma mb)) := by
  refine PE.imp (pe_ifExp hc ha hb) fun σ H Q hh => ?_
  obtain ⟨M, rho, env, h, er, hr, o⟩ := hh
  refine tT.of er hr (Out.bind o) fun x h1 M1 rho1 H1 st1 er1 hr1 o1 => ?_
  cases x with
  | true => exact iteT ⟨M1, rho1, env, h1, er1, hr1, o1⟩
  | false => exact iteF ⟨M1, rho1, env, h1, er1, hr1, o1⟩
theorem me_one {op : BoolOp} (ha : PE X a (tM w EX ma)) : PE X (.BoolOp op [a] pos) (tM w EX ma) := pe_one ha
theorem me_and (ha : PE X a (tM w EX ma)) (hb : PE X (.BoolOp .And (b :: rest) pos) (tM w EX mb)) : PE X (.BoolOp .And (a :: b :: rest) pos) (tM w EX (mAndV ma mb)) := by
  refine PE.imp (pe_and ha hb) fun σ H Q hh => ?_
  obtain ⟨M, rho, env, h, er, hr, o⟩ := hh
  refine tM.of er hr (Out.bind o) fun x h1 M1 rho1 H1 v st1 er1 hr1 o1 rv => ?_
  cases rv <;> try exact (show False from o1).elim
  rename_i c
  refine ⟨c, rfl, ?_⟩
  cases c with
  | true => exact iteT ⟨M1, rho1, env, h1, er1, hr1, o1⟩
  | false => exact iteF ((show Out w EX M1 rho1 H1 (.ok (.bl false) h1) (KV w Q) from o1).now hr1 _ (.bl _))
theorem me_or (ha : PE X a (tM w EX ma)) (hb : PE X (.BoolOp .Or (b :: rest) pos) (tM w EX mb)) : PE X (.BoolOp .Or (a :: b :: rest) pos) (tM w EX (mOrV ma mb)) := by
  refine PE.imp (pe_or ha hb) fun σ H Q hh => ?_
  obtain ⟨M, rho, env, h, er, hr, o⟩ := hh
  refine tM.of er hr (Out.bind o) fun x h1 M1 rho1 H1 v st1 er1 hr1 o1 rv => ?_
  cases rv <;> try exact (show False from o1).elim
  rename_i c
  refine ⟨c, rfl, ?_⟩
  cases c with
  | true => exact iteT ((show Out w EX M1 rho1 H1 (.ok (.bl true) h1) (KV w Q) from o1).now hr1 _ (.bl _))
  | false => exact iteF ⟨M1, rho1, env, h1, er1, hr1, o1⟩
theorem me_not (ha : PE X a (tM w EX ma)) : PE X (.UnaryOp .Not a pos) (tM w EX (mNotV ma)) := by
  refine PE.imp (pe_not ha) fun σ H Q hh => ?_
  obtain ⟨M, rho, env, h, er, hr, o⟩ := hh
  refine tM.of er hr (Out.bind o) fun x h1 M1 rho1 H1 v st1 er1 hr1 o1 rv => ?_
  cases rv <;> try exact (show False from o1).elim
  rename_i c
  exact ⟨c, rfl, (show Out w EX M1 rho1 H1 (.ok (.bl (!c)) h1) (KV w Q) from o1).now hr1 _ (.bl _)⟩
/-- a chain as a test -/
theorem mt_ch {op op' : CmpOp} {f g : O2} {mc : ME} (ho : OpR X (compareOp op) (r2 w EX f)) (ho' : OpR X (compareOp op') (r2 w EX g)) (ha : PE X a (tM w EX ma)) (hb : PE X b (tM w EX mb)) (hc : PE X c (tM w EX mc))
    (hm : lastMarks [op, op'] [b, c] = false := by with_unfolding_all rfl) : PT X (.Compare a [op, op'] [b, c] pos) (tT w EX (mTB (mCh f g ma mb mc))) := by
  refine PT.imp (pt_chain ho ho' ha hb hc hm) fun σ H Q h => ?_
  exact tM_ch (show tM w EX (mCh f g ma mb mc) σ H _ from tM_test h)
theorem me_ch {op op' : CmpOp} {f g : O2} {mc : ME} (ho : OpR X (compareOp op) (r2 w EX f)) (ho' : OpR X (compareOp op') (r2 w EX g)) (ha : PE X a (tM w EX ma)) (hb : PE X b (tM w EX mb)) (hc : PE X c (tM w EX mc))
    (hm : lastMarks [op, op'] [b, c] = false := by with_unfolding_all rfl) : PE X (.Compare a [op, op'] [b, c] pos) (tM w EX (mCh f g ma mb mc)) := PE.imp (pe_chain ho ho' ha hb hc hm) fun σ H Q h => tM_ch h
end
end MC

end
section
set_option maxRecDepth 100000
set_option maxHeartbeats 4000000
namespace MC
open PySem PySem.Spec PyProof.Rows L2

def ltN : List Nat → List Nat → Bool
  | [], [] => false
  | [], _ :: _ => true
  | _ :: _, [] => false
  | x :: xs, y :: ys => bif x == y then ltN xs ys else decide (x < y)
theorem ltN_iff : ∀ a b : List Nat, decide (a < b) = ltN a b
  | [], [] => by decide
  | [], y :: ys => by simp [ltN]
  | x :: xs, [] => by simp [ltN]
  | x :: xs, y :: ys => by
    have ih := ltN_iff xs ys
    unfold ltN
    by_cases e : x = y
    · subst e
      rw [beq_self_eq_true, cond_true, ← ih]
      simp
    · have e2 : (x == y) = false := beq_eq_false_iff_ne.mpr e
      rw [e2, cond_false]
      simp [List.cons_lt_cons_iff, e]
def opOrd (p : Int → Int → Bool) (q : List Nat → List Nat → Bool) : O2 := fun h x y => match x, y with
  | .int i, .int j => .ok (.bl (p i j)) h
  | .str a, .str b => .ok (.bl (q a b)) h
  | _, _ => .stuck
def opLt : O2 := opOrd (fun i j => decide (i < j)) fun a b => ltN a b
def opLe : O2 := opOrd (fun i j => decide (i ≤ j)) fun a b => !ltN b a
def opGt : O2 := opOrd (fun i j => decide (j < i)) fun a b => ltN b a
def opGe : O2 := opOrd (fun i j => decide (j ≤ i)) fun a b => !ltN a b
def isNon : PV → Bool
  | .non => true
  | _ => false
def opIs (neg : Bool) : O2 := fun h x y => match y with
  | .non => .ok (.bl (bif neg then !isNon x else isNon x)) h
  | .bl b => match x with
    | .bl a => .ok (.bl (bif neg then !(a == b) else a == b)) h
    | _ => .stuck
  | _ => .stuck
section
variable {w : Wo} {EX : XC} {X : Cx} {k : Nat} {M : Addr → Prop} {rho : List Addr} {H : Hp} {h : PH}
theorem o_ord {f : Value → Value → Sem Value} {p : Int → Int → Bool} {q : List Nat → List Nat → Bool} (hi : OpR X f (rI0 fun i j => .bl (p i j)))
    (hs : OpR X f (fun x y H Q => ∃ i j, x = .str i ∧ y = .str j ∧ Q (.bl (q i.cps.toList j.cps.toList)) H)) : OpR X f (r2 w EX (opOrd p q)) := by
  intro pins s σ H x y v u Q I rx ry ⟨M, rho, h, px, py, hr, vx, vy, o⟩
  cases vx <;> try exact (show False from o).elim
  · cases vy <;> try exact (show False from o).elim
    rename_i i j
    exact hi pins s σ H _ _ v u Q I rx ry ⟨i, j, rfl, rfl, (show Out w EX M rho H (.ok (.bl (p i j)) h) (KV w Q) from o).now hr _ (.bl _)⟩
  · cases vy <;> try exact (show False from o).elim
    rename_i a b
    refine hs pins s σ H _ _ v u Q I rx ry ⟨_, _, rfl, rfl, ?_⟩
    have e1 : (⟨a.toArray⟩ : Str).cps.toList = a := by simp
    have e2 : (⟨b.toArray⟩ : Str).cps.toList = b := by simp
    rw [e1, e2]
    exact (show Out w EX M rho H (.ok (.bl (q a b)) h) (KV w Q) from o).now hr _ (.bl _)
theorem o_lt : OpR X (compareOp .Lt) (r2 w EX opLt) := o_ord op_lt fun pins s σ H x y v u Q I rx ry ⟨i, j, e1, e2, q⟩ => op_lt_str pins s σ H x y v u Q I rx ry ⟨i, j, e1, e2, by rw [ltN_iff]; exact q⟩
theorem o_le : OpR X (compareOp .LtE) (r2 w EX opLe) := o_ord op_le fun pins s σ H x y v u Q I rx ry ⟨i, j, e1, e2, q⟩ => op_le_str pins s σ H x y v u Q I rx ry ⟨i, j, e1, e2, by rw [ltN_iff]; exact q⟩
theorem o_gt : OpR X (compareOp .Gt) (r2 w EX opGt) := o_ord op_gt fun pins s σ H x y v u Q I rx ry ⟨i, j, e1, e2, q⟩ => op_gt_str pins s σ H x y v u Q I rx ry ⟨i, j, e1, e2, by rw [ltN_iff]; exact q⟩
theorem o_ge : OpR X (compareOp .GtE) (r2 w EX opGe) := o_ord op_ge fun pins s σ H x y v u Q I rx ry ⟨i, j, e1, e2, q⟩ => op_ge_str pins s σ H x y v u Q I rx ry ⟨i, j, e1, e2, by rw [ltN_iff]; exact q⟩
theorem VR.non_iff (hg : ∀ i v, w.gv i = some v → v ≠ .non) {x : PV} {v : V} (r : VR w M rho H x v) : decide (v = .non) = isNon x := by
  cases r <;> first | rfl | skip
  rename_i i e
  have := hg i v e
  simp [this, isNon]
theorem o_is (hg : ∀ i v, w.gv i = some v → v ≠ .non) : OpR X (compareOp .Is) (r2 w EX (opIs false)) := by
  intro pins s σ H x y v u Q I rx ry ⟨M, rho, h, px, py, hr, vx, vy, o⟩
  cases vy <;> try exact (show False from o).elim
  · have q := (show Out w EX M rho H (.ok (.bl (isNon px)) h) (KV w Q) from o).now hr _ (.bl _)
    exact op_isN pins s σ H _ _ v u Q I rx ry ⟨rfl, by rw [VR.non_iff hg vx]; exact q⟩
  · cases vx <;> try exact (show False from o).elim
    rename_i b a
    exact op_isBl pins s σ H _ _ v u Q I rx ry ⟨a, b, rfl, rfl, by rw [← Bool.beq_eq_decide_eq]; exact (show Out w EX M rho H (.ok (.bl (a == b)) h) (KV w Q) from o).now hr _ (.bl _)⟩
theorem o_isnot (hg : ∀ i v, w.gv i = some v → v ≠ .non) : OpR X (compareOp .IsNot) (r2 w EX (opIs true)) := by
  intro pins s σ H x y v u Q I rx ry ⟨M, rho, h, px, py, hr, vx, vy, o⟩
  cases vy <;> try exact (show False from o).elim
  · have q := (show Out w EX M rho H (.ok (.bl (!isNon px)) h) (KV w Q) from o).now hr _ (.bl _)
    exact op_notN pins s σ H _ _ v u Q I rx ry ⟨rfl, by rw [VR.non_iff hg vx]; exact q⟩
  · cases vx <;> try exact (show False from o).elim
    rename_i b a
    exact op_notBl pins s σ H _ _ v u Q I rx ry ⟨a, b, rfl, rfl, by rw [← Bool.beq_eq_decide_eq]; exact (show Out w EX M rho H (.ok (.bl (!(a == b))) h) (KV w Q) from o).now hr _ (.bl _)⟩
end

/-- the items of a list or tuple -/
def items (h : PH) : PV → Option (List PV)
  | .tup xs => some xs
  | .scr xs => some xs
  | .ref n => match h[n]? with
    | some (.lst xs) => some xs
    | _ => none
  | _ => none
/-- a key is that key -/
def keyQ : PV → PV → Bool
  | .int i, .int j => i == j
  | .str a, .str b => a == b
  | _, _ => false
def lookP (x : PV) : List (PV × PV) → Option PV
  | [] => none
  | (k, v) :: r => bif keyQ k x then some v else lookP x r
def isKey : PV → Bool
  | .int _ => true
  | .str _ => true
  | _ => false
def negB (neg : Bool) (b : Bool) : Bool := bif neg then !b else b
def inItems (neg : Bool) (h : PH) (x : PV) (ys : List PV) : R PV := match toD h DEP x, mapO (toD h DEP) ys with
  | some d, some ds => bif SeqAt.shaped d && PyData.canLayAll0 ds then .ok (.bl (negB neg (ds.any fun z => PyData.eqv z d))) h else .stuck
  | _, _ => .stuck
def opIn (neg : Bool) : O2 := fun h x y => match y with
  | .str t => match x with
    | .str [c] => .ok (.bl (negB neg (decide (c ∈ t)))) h
    | _ => .stuck
  | .rdic kvs => bif isKey x then .ok (.bl (negB neg (lookP x kvs).isSome)) h else .stuck
  | .ref n => match h[n]? with
    | some (.dic _ kvs) => bif isKey x then .ok (.bl (negB neg (lookP x kvs).isSome)) h else .stuck
    | some (.lst ys) => inItems neg h x ys
    | _ => .stuck
  | .tup ys => inItems neg h x ys
  | .scr ys => inItems neg h x ys
  | _ => .stuck
section
variable {w : Wo} {EX : XC} {X : Cx} {k : Nat} {M : Addr → Prop} {rho : List Addr} {H : Hp} {h : PH}
theorem keyQ_iff {k x : PV} {j : Key} {v : V} (hk : keyP k = some j) (hx : isKey x = true) (rx : VR w M rho H x v) : ∃ i, keyP x = some i ∧ v = kV i ∧ (keyQ k x = decide (j = i)) := by
  cases rx <;> try (exact (Bool.false_ne_true hx).elim)
  · rename_i i
    refine ⟨.inl i, rfl, rfl, ?_⟩
    cases k <;> try (cases hk)
    · exact (key_ll _ _).symm
    · exact (key_rl _ _).symm
  · rename_i b
    refine ⟨.inr ⟨b.toArray⟩, rfl, rfl, ?_⟩
    cases k <;> try (cases hk)
    · exact (key_lr _ _).symm
    · rename_i a
      rw [key_rr]
      show (a == b) = _
      by_cases e : a = b
      · subst e; simp
      · rw [beq_eq_false_iff_ne.mpr e, decide_eq_false]
        intro z
        exact e (S_inj z)
theorem lookP_ok {x : PV} {v : V} (hx : isKey x = true) (rx : VR w M rho H x v) : ∃ i, keyP x = some i ∧ v = kV i ∧ ∀ {kvs : List (PV × PV)} {ks : List (Key × V)}, KRs w M rho H kvs ks →
    (lookP x kvs = none ∧ valV ks i = none) ∨ ∃ y u, lookP x kvs = some y ∧ valV ks i = some u ∧ VR w M rho H y u := by
  obtain ⟨i, h1, h2, _⟩ := keyQ_iff (k := .int 0) (j := .inl 0) rfl hx rx
  refine ⟨i, h1, h2, fun {kvs ks} r => ?_⟩
  induction kvs generalizing ks with
  | nil => cases r; exact .inl ⟨rfl, rfl⟩
  | cons p kvs ih =>
    cases r with
    | @cons k y j u _ gs hk hv ht =>
      obtain ⟨i', h1', _, q⟩ := keyQ_iff hk hx rx
      rw [h1] at h1'
      cases h1'
      unfold lookP
      by_cases e : j = i
      · rw [q, decide_eq_true e, cond_true]
        exact .inr ⟨y, u, rfl, valV_pos e, hv⟩
      · rw [q, decide_eq_false e, cond_false, valV_neg (by exact e)]
        exact ih ht
theorem inItems_out {neg : Bool} {x : PV} {ys : List PV} {kk : KC PV} (o : Out w EX M rho H (inItems neg h x ys) kk) :
    ∃ d ds, toD h DEP x = some d ∧ mapO (toD h DEP) ys = some ds ∧ SeqAt.shaped d = true ∧ PyData.canLayAll0 ds = true ∧ Out w EX M rho H (.ok (.bl (negB neg (ds.any fun z => PyData.eqv z d))) h) kk := by
  unfold inItems at o
  split at o
  · rename_i d ds e1 e2
    obtain ⟨hc, o2⟩ := Out.bif o
    rw [Bool.and_eq_true] at hc
    exact ⟨d, ds, e1, e2, hc.1, hc.2, o2⟩
  · exact (show False from o).elim
theorem o_in (C : Cxt w k X) : OpR X (compareOp .In) (r2 w EX (opIn false)) := by
  intro pins s σ H x y v u Q I rx ry ⟨M, rho, h, px, py, hr, vx, vy, o⟩
  have hu := C.units
  have seqL : ∀ {ys : List PV} {us : List V} {A : Addr}, u = .ref A → SqL w.K H A us → VRs w M rho H ys us → Out w EX M rho H (inItems false h px ys) (KV w Q) → wpAny (model X.prog X.w) X.A (compareOp .In v u) (EP X pins σ Q) X.xe s := by
    intro ys us A eu hs rs o
    obtain ⟨d, ds, e1, e2, s1, s2, o2⟩ := inItems_out o
    have D1 : Dp X.K H x d := by rw [C.hK]; exact toD_dp hr _ _ _ _ e1 vx
    have D2 : Dp X.K H (.ref A) (.list ds) := by rw [C.hK]; exact .lst hs (mapO_dp hr (toD_dp hr _) e2 rs)
    obtain ⟨as, r1⟩ := Dp.reads I d _ _ D1 rx
    obtain ⟨bs, r2⟩ := Dp.reads I (.list ds) _ u D2 eu
    have h64 := SeqAt.depth_of_shaped s1
    exact SeqAt.in_list_reads r2 r1 s2 (SeqAt.canLay_of_shaped s1) (by omega) ⟨.bl _, H, I, rfl, o2.now hr _ (.bl _)⟩
  cases vy <;> try exact (show False from o).elim
  · rename_i t
    obtain ⟨c, rfl, o2⟩ : ∃ c, px = .str [c] ∧ Out w EX M rho H (.ok (.bl (decide (c ∈ t))) h) (KV w Q) := by
      have o' : Out w EX M rho H (match px with
        | .str [c] => .ok (.bl (negB false (decide (c ∈ t)))) h
        | _ => .stuck) (KV w Q) := o
      split at o'
      · exact ⟨_, rfl, o'⟩
      · exact (show False from o').elim
    cases vx
    refine op_in_sign pins s σ H _ _ v u Q I rx ry ⟨c, _, rfl, rfl, ?_⟩
    rw [show (⟨t.toArray⟩ : Str).cps.toList = t by simp]
    exact o2.now hr _ (.bl _)
  · rename_i ys us A ha sa
    obtain ⟨d, ds, e1, e2, s1, s2, o2⟩ := inItems_out o
    have D1 : Dp X.K H x d := by rw [C.hK]; exact toD_dp hr _ _ _ _ e1 vx
    have D2 : Dp X.K H (.ref A) (.tuple ds) := by rw [C.hK]; exact .tup ha (mapO_dp hr (toD_dp hr _) e2 sa)
    obtain ⟨as, r1⟩ := Dp.reads I d _ _ D1 rx
    obtain ⟨bs, r2⟩ := Dp.reads I (.tuple ds) _ u D2 ry
    have h64 := SeqAt.depth_of_shaped s1
    exact SeqAt.in_tuple_reads r2 r1 s2 (SeqAt.canLay_of_shaped s1) (by omega) ⟨.bl _, H, I, rfl, o2.now hr _ (.bl _)⟩
  · rename_i ys us A ha sa
    exact seqL ry ha.sq sa o
  · rename_i kvs ks A ob ha hn sa
    obtain ⟨hx, o2⟩ := Out.bif o
    obtain ⟨i, e1, e2, e3⟩ := lookP_ok hx vx
    subst e2
    cases ry
    refine d_in (o := valV ks i) (by omega) I (.inl ⟨ks, i, .inr ⟨ob, ha⟩, rfl, rfl⟩) rx fun s3 I3 => ⟨.bl _, H, I3, rfl, ?_⟩
    rcases e3 sa with ⟨z1, z2⟩ | ⟨y', u', z1, z2, _⟩
    · rw [z1] at o2; rw [z2]; exact o2.now hr _ (.bl _)
    · rw [z1] at o2; rw [z2]; exact o2.now hr _ (.bl _)
  · rename_i n A ha
    have o' : Out w EX M rho H (match h[n]? with
      | some (.dic _ kvs) => bif isKey px then .ok (.bl (negB false (lookP px kvs).isSome)) h else .stuck
      | some (.lst ys) => inItems false h px ys
      | _ => .stuck) (KV w Q) := o
    split at o'
    · rename_i lk kvs e0
      obtain ⟨hx, o2⟩ := Out.bif o'
      obtain ⟨b, hb, ks, h1, sa⟩ := hr.ob n _ e0
      rw [ha] at hb; cases hb
      obtain ⟨i, e1, e2, e3⟩ := lookP_ok hx vx
      subst e2
      cases ry
      have rd : Rd H A (.dK ks) := by
        cases lk with
        | false => exact .inl h1
        | true => exact .inr h1
      refine d_in (o := valV ks i) (by omega) I (.inl ⟨ks, i, rd, rfl, rfl⟩) rx fun s3 I3 => ⟨.bl _, H, I3, rfl, ?_⟩
      rcases e3 sa with ⟨z1, z2⟩ | ⟨y', u', z1, z2, _⟩
      · rw [z1] at o2; rw [z2]; exact o2.now hr _ (.bl _)
      · rw [z1] at o2; rw [z2]; exact o2.now hr _ (.bl _)
    · rename_i ys e0
      obtain ⟨us, h1, sa⟩ := hr.lst e0 ha
      exact seqL ry (SqL.of h1) sa o'
    · exact (show False from o').elim
end
end MC

end
section
set_option maxRecDepth 100000
set_option maxHeartbeats 4000000
namespace MC
open PySem PySem.Spec PyProof.Rows L2

def ixL (h : PH) (xs : List PV) (y : PV) : R PV := match y with
  | .int i => match atI xs i with
    | some v => .ok v h
    | none => .stuck
  | _ => .stuck
def ixD (h : PH) (kvs : List (PV × PV)) (y : PV) : R PV := bif isKey y then (match lookP y kvs with
  | some v => .ok v h
  | none => .stuck) else .stuck
def ixS (h : PH) (s : List Nat) (y : PV) : R PV := match y with
  | .int i => match atI s i with
    | some c => bif decide (s.length ≤ LIM) then .ok (.str [c]) h else .stuck
    | none => .stuck
  | _ => .stuck
def opIx : O2 := fun h x y => match x with
  | .str s => ixS h s y
  | .rdic kvs => ixD h kvs y
  | .ref n => match h[n]? with
    | some (.dic _ kvs) => ixD h kvs y
    | some (.lst xs) => ixL h xs y
    | _ => .stuck
  | .tup xs => ixL h xs y
  | .scr xs => ixL h xs y
  | _ => .stuck
section
variable {w : Wo} {EX : XC} {X : Cx} {k : Nat} {M : Addr → Prop} {rho : List Addr} {H : Hp} {h : PH}
theorem VRs.atI {xs : List PV} {vs : List V} {i : Int} {x : PV} (r : VRs w M rho H xs vs) (e : L2.atI xs i = some x) : ∃ v, L2.atI vs i = some v ∧ VR w M rho H x v := by
  unfold L2.atI at e ⊢
  rw [r.length]
  cases q : ixN xs.length i with
  | none => rw [q] at e; cases e
  | some j =>
    rw [q] at e
    exact r.get e
theorem ixL_out {xs : List PV} {py : PV} {kk : KC PV} (o : Out w EX M rho H (ixL h xs py) kk) : ∃ i z, py = .int i ∧ L2.atI xs i = some z ∧ Out w EX M rho H (.ok z h) kk := by
  unfold ixL at o
  split at o
  · split at o
    · rename_i e
      exact ⟨_, _, rfl, e, o⟩
    · exact (show False from o).elim
  · exact (show False from o).elim
theorem o_ix (C : Cxt w k X) : IxR X (r2 w EX opIx) := by
  intro value slice pins s σ H x y v u Q I rx ry ⟨M, rho, h, px, py, hr, vx, vy, o⟩ hs
  have hu := C.units
  have dic : ∀ {A : Addr} {ks : List (Key × V)} {kvs : List (PV × PV)}, v = .ref A → Rd H A (.dK ks) → KRs w M rho H kvs ks → Out w EX M rho H (ixD h kvs py) (KV w Q) → wpAny (model X.prog X.w) X.A (subscriptTail value slice v u) (EP X pins σ Q) X.xe s := by
    intro A ks kvs ev rd sa o
    obtain ⟨hx, o2⟩ := Out.bif o
    obtain ⟨i, e1, e2, e3⟩ := lookP_ok hx vy
    subst ev e2
    rcases e3 sa with ⟨z1, z2⟩ | ⟨y', u', z1, z2, r'⟩
    · rw [z1] at o2; exact (show False from o2).elim
    · rw [z1] at o2
      have g : DGet H A (kV i) (some u') := .inl ⟨ks, i, rd, rfl, z2.symm⟩
      exact tail_any (T := "dict") (dict_typeIs I g) PySem.F.slot_dict_getitem.lookup (d_getItem (by omega) I g ry fun w' s3 I3 rw' => ⟨u', H, I3, rw', (show Out w EX M rho H (.ok y' h) (KV w Q) from o2).now hr _ r'⟩) hs
  have lst : ∀ {A : Addr} {us : List V} {xs : List PV}, x = .ref A → SqL w.K H A us → VRs w M rho H xs us → Out w EX M rho H (ixL h xs py) (KV w Q) → wpAny (model X.prog X.w) X.A (subscriptTail value slice v u) (EP X pins σ Q) X.xe s := by
    intro A us xs ex hq sa o
    obtain ⟨i, z, rfl, e, o⟩ := ixL_out o
    cases vy
    obtain ⟨z', e', r'⟩ := sa.atI e
    exact ix_list value slice pins s σ H _ _ v u Q I rx ry ⟨A, us, i, z', ex, rfl, by rw [C.hK]; exact hq, e', o.now hr _ r'⟩ hs
  cases vx <;> try exact (show False from o).elim
  · rename_i t
    have o' : Out w EX M rho H (ixS h t py) (KV w Q) := o
    unfold ixS at o'
    split at o'
    · split at o'
      · rename_i e
        cases vy
        obtain ⟨hl, o2⟩ := Out.lim o'
        refine ix_str value slice pins s σ H _ _ v u Q I rx ry ⟨_, _, _, rfl, rfl, ?_, ?_, o2.now hr (.str ⟨#[_]⟩) (.str [_])⟩ hs
        · show (S t).length ≤ _
          rw [S_len, lim_eq]; exact hl
        · show L2.atI (S t).cps.toList _ = some _
          rw [S_list]; exact e
      · exact (show False from o').elim
    · exact (show False from o').elim
  · rename_i xs us A ha sa
    obtain ⟨i, z, rfl, e, o2⟩ := ixL_out o
    cases vy
    obtain ⟨z', e', r'⟩ := sa.atI e
    exact ix_tup value slice pins s σ H _ _ v u Q I rx ry ⟨A, us, i, z', rfl, rfl, by rw [C.hK]; exact ha, e', o2.now hr _ r'⟩ hs
  · rename_i xs us A ha sa
    exact lst rfl ha.sq sa o
  · rename_i kvs ks A ob ha hn sa
    exact dic (by cases rx; rfl) (.inr ⟨ob, ha⟩) sa o
  · rename_i n A ha
    have o' : Out w EX M rho H (match h[n]? with
      | some (.dic _ kvs) => ixD h kvs py
      | some (.lst xs) => ixL h xs py
      | _ => .stuck) (KV w Q) := o
    split at o'
    · rename_i lk kvs e0
      obtain ⟨b, hb, ks, h1, sa⟩ := hr.ob n _ e0
      rw [ha] at hb; cases hb
      exact dic (by cases rx; rfl) (by
        cases lk with
        | false => exact .inl h1
        | true => exact .inr h1) sa o'
    · rename_i xs e0
      obtain ⟨us, h1, sa⟩ := hr.lst e0 ha
      exact lst rfl (SqL.of h1) sa o'
    · exact (show False from o').elim
theorem me_ix (C : Cxt w k X) {a b : Expr} {ma mb : ME} {pos : Pos} (ha : PE X a (tM w EX ma)) (hb : PE X b (tM w EX mb)) (hs : PlainIx b := by exact fun _ _ => rfl) : PE X (.Subscript a b pos) (tM w EX (mOp opIx ma mb)) :=
  PE.imp (pe_ix (o_ix C) ha hb hs) fun _ _ _ h => tM_op h
end

def cutG {α : Type} (xs : List α) (lo hi : Option Int) : List α := (xs.drop (HT.sIx xs.length 0 lo)).take (HT.sIx xs.length xs.length hi - HT.sIx xs.length 0 lo)
abbrev MO := List (Option PV) → PH → R (Option Int)
def tO (w : Wo) (EX : XC) (m : MO) : TO := fun σ H Q => ∃ M rho env h, ER w M rho H env σ ∧ HR w M rho H h ∧ Out w EX M rho H (m env h) (fun i _ _ _ H' => Q i H')
def moNone : MO := fun _ h => .ok none h
def moSome (m : ME) : MO := fun env h => (m env h).bind fun x h1 => match x with
  | .int i => .ok (some i) h1
  | _ => .stuck
def opSl (h : PH) (x : PV) (lo hi : Option Int) : R PV := match x with
  | .str s => bif decide (s.length ≤ LIM) then .ok (.str (cutG s lo hi)) h else .stuck
  | .tup xs => .ok (.tup (cutG xs lo hi)) h
  | .scr xs => .ok (.ref h.length) (h ++ [.lst (cutG xs lo hi)])
  | .ref n => match h[n]? with
    | some (.lst xs) => .ok (.ref h.length) (h ++ [.lst (cutG xs lo hi)])
    | _ => .stuck
  | _ => .stuck
def mSl (m : ME) (l u : MO) : ME := fun env h => (m env h).bind fun x h1 => (l env h1).bind fun lo h2 => (u env h2).bind fun hi h3 => opSl h3 x lo hi
section
variable {w : Wo} {EX : XC} {X : Cx} {k : Nat} {M : Addr → Prop} {rho : List Addr} {H : Hp} {h : PH}
theorem PO_imp {X : Cx} {e : Option Expr} {t t2 : TO} (p : L2.PO X e t) (i : ∀ σ H Q, t2 σ H Q → t σ H Q) : L2.PO X e t2 := ⟨fun pins s σ H Q I h => p.run pins s σ H Q I (i σ H Q h)⟩
theorem mo_none : L2.PO X none (tO w EX moNone) := by
  refine PO_imp po_none fun σ H Q hh => ?_
  obtain ⟨M, rho, env, h, er, hr, o⟩ := hh
  exact o.now hr
theorem mo_some {e : Expr} {m : ME} (ha : PE X e (tM w EX m)) : L2.PO X (some e) (tO w EX (moSome m)) := by
  refine PO_imp (po_some ha) fun σ H Q hh => ?_
  obtain ⟨M, rho, env, h, er, hr, o⟩ := hh
  refine tM.of er hr (Out.bind o) fun x h1 M1 rho1 H1 v st1 er1 hr1 o1 rv => ?_
  cases rv <;> try exact (show False from o1).elim
  rename_i i
  exact ⟨i, rfl, (show Out w EX M1 rho1 H1 (.ok (some i) h1) _ from o1).now hr1⟩
theorem VRs.cut {xs : List PV} {vs : List V} (r : VRs w M rho H xs vs) (lo hi : Option Int) : VRs w M rho H (cutG xs lo hi) (cutV vs lo hi) := by
  unfold cutG cutV
  rw [r.length]
  exact (r.drop _).take _
theorem cut_all {α : Type} (xs : List α) {lo hi : Option Int} (e : HT.sIx xs.length 0 lo = 0 ∧ HT.sIx xs.length xs.length hi = xs.length) : cutG xs lo hi = xs := by
  unfold cutG
  rw [e.1, e.2]
  simp
theorem o_sl (C : Cxt w k X) : SlR X (fun x lo hi H Q => ∃ M rho h px, HR w M rho H h ∧ VR w M rho H px x ∧ Out w EX M rho H (opSl h px lo hi) (KV w Q)) := by
  intro pins s σ H x v vl vu lo hi sl Q I rx hs pl pu ⟨M, rho, h, px, hr, vx, o⟩
  cases vx <;> try exact (show False from o).elim
  · rename_i t
    obtain ⟨hl, o2⟩ := Out.lim o
    refine sl_str pins s σ H _ v vl vu lo hi sl Q I rx hs pl pu ⟨_, rfl, ?_, ?_⟩
    · show (S t).length ≤ _
      rw [S_len, lim_eq]; exact hl
    · have e : cutS (⟨t.toArray⟩ : Str) lo hi = S (cutG t lo hi) := by
        unfold cutS cutG S
        simp [Str.length]
      rw [e]
      exact o2.now hr _ (.str _)
  · rename_i xs us A ha sa
    refine sl_tupA pins s σ H _ v vl vu lo hi sl Q I rx hs pl pu ⟨A, us, rfl, by rw [C.hK]; exact ha, fun e => ?_, fun _ => ?_⟩
    · have o2 : Out w EX M rho H (.ok (.tup (cutG xs lo hi)) h) (KV w Q) := o
      rw [sa.length] at e
      rw [cut_all xs e] at o2
      exact o2.now hr _ (.tup ha sa)
    · exact KV.tup hr o (sa.cut lo hi)
  · rename_i xs us A ha sa
    exact sl_list pins s σ H _ v vl vu lo hi sl Q I rx hs pl pu ⟨A, us, rfl, by rw [C.hK]; exact ha.sq, KV.lst hr o (sa.cut lo hi)⟩
  · rename_i n A ha
    have o' : Out w EX M rho H (match h[n]? with
      | some (.lst xs) => .ok (.ref h.length) (h ++ [.lst (cutG xs lo hi)])
      | _ => .stuck) (KV w Q) := o
    split at o'
    · rename_i xs e0
      obtain ⟨us, h1, sa⟩ := hr.lst e0 ha
      exact sl_list pins s σ H _ v vl vu lo hi sl Q I rx hs pl pu ⟨A, us, rfl, by rw [C.hK]; exact SqL.of h1, KV.lst hr o' (sa.cut lo hi)⟩
    · exact (show False from o').elim
theorem me_sl (C : Cxt w k X) {e : Expr} {lo hi : Option Expr} {m : ME} {l u : MO} {p2 pos : Pos} (ha : PE X e (tM w EX m)) (hl : L2.PO X lo (tO w EX l)) (hu : L2.PO X hi (tO w EX u)) : PE X (.Subscript e (.Slice lo hi none p2) pos) (tM w EX (mSl m l u)) := by
  refine PE.imp (pe_slice (o_sl (EX := EX) C) ha hl hu) fun σ H Q hh => ?_
  obtain ⟨M, rho, env, h, er, hr, o⟩ := hh
  refine tM.of er hr (Out.bind o) fun x h1 M1 rho1 H1 v st1 er1 hr1 o1 rv => ?_
  refine ⟨M1, rho1, env, h1, er1, hr1, (Out.bind o1).imp fun lo h2 M2 rho2 H2 st2 hr2 o2 => ?_⟩
  refine ⟨M2, rho2, env, h2, er1.step st2 hr1, hr2, (Out.bind o2).imp fun hi h3 M3 rho3 H3 st3 hr3 o3 => ?_⟩
  exact ⟨M3, rho3, h3, x, hr3, (rv.step st2 hr1).step st3 hr2, o3⟩
end

def lookF (f : Nm) : List (Nm × PV) → Option PV
  | [] => none
  | (k, v) :: r => bif k == f then some v else lookF f r
/-- the class and the attributes of an instance -/
def fldsOf (h : PH) : PV → Option (Nat × List (Nm × PV))
  | .ins c fs => some (c, fs)
  | .ref n => match h[n]? with
    | some (.ins c fs) => some (c, fs)
    | _ => none
  | _ => none
/-- o.f; cs: the classes of which the rule knows that field -/
def mFld (cs : List Nat) (f : Nm) (m : ME) : ME := fun env h => (m env h).bind fun x h1 => match fldsOf h1 x with
  | some (c, fs) => bif cs.contains c then (match lookF f fs with
    | some v => .ok v h1
    | none => .stuck) else .stuck
  | none => .stuck
/-- what the text says of a field of some classes -/
def Fld (w : Wo) (cs : List Nat) (f : Nm) : Prop := ∀ c C, c ∈ cs → w.cl c = some C → Cls w.K C ∧ NoAttr w.K C (nmS f)
section
variable {w : Wo} {EX : XC} {X : Cx} {k : Nat} {M : Addr → Prop} {rho : List Addr} {H : Hp} {h : PH}
theorem nmS_inj {a b : Nm} (e : nmS a = nmS b) : a = b := S_inj e
theorem FRs.look {f : Nm} : ∀ {fs : List (Nm × PV)} {gs : List (Str × V)} {x : PV}, FRs w M rho H fs gs → lookF f fs = some x → ∃ v, gs.lookup (nmS f) = some v ∧ VR w M rho H x v
  | _, _, _, .nil, e => nomatch e
  | _, _, x, .cons (k := kk) r s, e => by
    unfold lookF at e
    by_cases q : kk = f
    · subst q
      rw [beq_self_eq_true, cond_true] at e
      cases e
      exact ⟨_, by rw [List.lookup_cons, beq_self_eq_true], r⟩
    · rw [beq_eq_false_iff_ne.mpr q, cond_false] at e
      obtain ⟨v, h1, h2⟩ := FRs.look s e
      refine ⟨v, ?_, h2⟩
      rw [List.lookup_cons, beq_eq_false_iff_ne.mpr (fun z => q (nmS_inj z).symm)]
      exact h1
theorem flds_ok (hr : HR w M rho H h) {x : PV} {v : V} {c : Nat} {fs : List (Nm × PV)} (r : VR w M rho H x v) (e : fldsOf h x = some (c, fs)) : ∃ a C dx gs, v = .ref a ∧ w.cl c = some C ∧ H a = some (.ins C dx gs) ∧ FRs w M rho H fs gs := by
  cases r with
  | ins h1 h2 h3 h4 =>
    cases e
    exact ⟨_, _, _, _, rfl, h1, h2, h4⟩
  | @ref n a ha =>
    have e' : (match h[n]? with
      | some (.ins c fs) => some (c, fs)
      | _ => none) = some (c, fs) := e
    split at e'
    · rename_i c' fs' e0
      cases e'
      obtain ⟨b, hb, C, dx, gs, h1, h2, h3⟩ := hr.ob n _ e0
      rw [ha] at hb; cases hb
      exact ⟨a, C, dx, gs, rfl, h1, h2, h3⟩
    · cases e'
  | _ => cases e
theorem me_fld {cs : List Nat} {e : Expr} {z : Str} {m : ME} {pos : Pos} (C : Cxt w k X) (f : Nm) (hf : z = nmS f) (hA : Fld w cs f) (he : PE X e (tM w EX m)) (hb : attributeBase e z X.env (eval e X.env) = eval e X.env := by rfl) :
    PE X (.Attribute e z pos) (tM w EX (mFld cs f m)) := by
  subst hf
  refine PE.imp (pe_fld he hb) fun σ H Q hh => ?_
  obtain ⟨M, rho, env, h, er, hr, o⟩ := hh
  refine tM.of er hr (Out.bind o) fun x h1 M1 rho1 H1 v st1 er1 hr1 o1 rv => ?_
  split at o1
  · rename_i c fs e0
    obtain ⟨hc, o2⟩ := Out.bif o1
    split at o2
    · rename_i y e1
      obtain ⟨a, C', dx, gs, ev, h1, h2, h3⟩ := flds_ok hr1 rv e0
      obtain ⟨u, h4, h5⟩ := h3.look e1
      obtain ⟨g1, g2⟩ := hA c C' (List.contains_iff_mem.mp hc) h1
      exact ⟨a, C', dx, gs, u, ev, h2, by rw [C.hK]; exact g1, by rw [C.hK]; exact g2, h4, o2.now hr1 _ h5⟩
    · exact (show False from o2).elim
  · exact (show False from o1).elim
end
end MC

end
section
set_option maxRecDepth 100000
set_option maxHeartbeats 4000000
namespace MC
open PySem PySem.Spec PyProof.Rows L2

mutual
def noRef : PV → Bool
  | .ref _ => false
  | .tup xs => noRefs xs
  | .scr xs => noRefs xs
  | .rdic kvs => noRefK kvs
  | .ins _ fs => noRefF fs
  | .non => true
  | .bl _ => true
  | .int _ => true
  | .str _ => true
  | .gl _ => true
def noRefs : List PV → Bool
  | [] => true
  | x :: xs => noRef x && noRefs xs
def noRefK : List (PV × PV) → Bool
  | [] => true
  | (k, x) :: xs => noRef k && (noRef x && noRefK xs)
def noRefF : List (Nm × PV) → Bool
  | [] => true
  | (_, x) :: xs => noRef x && noRefF xs
end
mutual
def renV (f : Nat → Option Nat) : PV → Option PV
  | .ref n => match f n with
    | some m => some (.ref m)
    | none => none
  | .tup xs => match renVs f xs with
    | some ys => some (.tup ys)
    | none => none
  | .scr xs => match renVs f xs with
    | some ys => some (.scr ys)
    | none => none
  | .rdic kvs => match renK f kvs with
    | some ys => some (.rdic ys)
    | none => none
  | .ins c fs => match renF f fs with
    | some ys => some (.ins c ys)
    | none => none
  | .non => some .non
  | .bl b => some (.bl b)
  | .int i => some (.int i)
  | .str s => some (.str s)
  | .gl i => some (.gl i)
def renVs (f : Nat → Option Nat) : List PV → Option (List PV)
  | [] => some []
  | x :: xs => match renV f x, renVs f xs with
    | some y, some ys => some (y :: ys)
    | _, _ => none
def renK (f : Nat → Option Nat) : List (PV × PV) → Option (List (PV × PV))
  | [] => some []
  | (k, x) :: xs => match renV f x, renK f xs with
    | some y, some ys => some ((k, y) :: ys)
    | _, _ => none
def renF (f : Nat → Option Nat) : List (Nm × PV) → Option (List (Nm × PV))
  | [] => some []
  | (k, x) :: xs => match renV f x, renF f xs with
    | some y, some ys => some ((k, y) :: ys)
    | _, _ => none
end
def renO (f : Nat → Option Nat) : PO → Option PO
  | .lst xs => match renVs f xs with
    | some ys => some (.lst ys)
    | none => none
  | .ins c fs => match renF f fs with
    | some gs => some (.ins c gs)
    | none => none
  | .dic lk kvs => match renK f kvs with
    | some ls => some (.dic lk ls)
    | none => none
  | .dit lk kvs => match renK f kvs with
    | some ls => some (.dit lk ls)
    | none => none
mutual
def refsV : PV → List Nat
  | .ref n => [n]
  | .tup xs => refsVs xs
  | .scr xs => refsVs xs
  | .rdic kvs => refsK kvs
  | .ins _ fs => refsF fs
  | .non => []
  | .bl _ => []
  | .int _ => []
  | .str _ => []
  | .gl _ => []
def refsVs : List PV → List Nat
  | [] => []
  | x :: xs => refsV x ++ refsVs xs
def refsK : List (PV × PV) → List Nat
  | [] => []
  | (_, x) :: xs => refsV x ++ refsK xs
def refsF : List (Nm × PV) → List Nat
  | [] => []
  | (_, x) :: xs => refsV x ++ refsF xs
end
def refsO : PO → List Nat
  | .lst xs => refsVs xs
  | .ins _ fs => refsF fs
  | .dic _ kvs => refsK kvs
  | .dit _ kvs => refsK kvs
/-- the objects that are reached, each once -/
def reach (h : PH) : Nat → List Nat → List Nat → Option (List Nat)
  | _, [], seen => some seen
  | 0, _ :: _, _ => none
  | f + 1, n :: todo, seen => bif seen.contains n then reach h f todo seen else match h[n]? with
    | some o => reach h f (refsO o ++ todo) (seen ++ [n])
    | none => none
def idx (l : List Nat) (n : Nat) : Option Nat := match l with
  | [] => none
  | m :: r => bif m == n then some 0 else match idx r n with
    | some i => some (i + 1)
    | none => none

section
variable {w : Wo} {M M1 : Addr → Prop} {rho rho1 : List Addr} {H H1 : Hp} {h : PH}
/-- what stands for ever -/
def fixO : HO → Bool
  | .tup _ => true
  | .frz _ _ => true
  | .ins _ _ _ => true
  | _ => false
structure Tr (w : Wo) (M : Addr → Prop) (rho : List Addr) (H : Hp) (M1 : Addr → Prop) (rho1 : List Addr) (H1 : Hp) (f : Nat → Option Nat) : Prop where
  hp : ∀ b o, fixO o = true → H b = some o → H1 b = some o
  mo : ∀ b, M1 b → M b
  rf : ∀ (n m : Nat) a, f n = some m → rho[n]? = some a → rho1[m]? = some a
theorem Tr.sqT {f : Nat → Option Nat} (t : Tr w M rho H M1 rho1 H1 f) {K : PySem.W.Frag} {a : Addr} {vs : List V} (q : SqT K H a vs) : SqT K H1 a vs := by
  rcases q with (q | ⟨o, q⟩) | q
  · exact .inl (.inl (t.hp _ _ rfl q))
  · exact .inl (.inr ⟨o, t.hp _ _ rfl q⟩)
  · exact .inr q
theorem Tr.scr {f : Nat → Option Nat} (t : Tr w M rho H M1 rho1 H1 f) {a : Addr} {vs : List V} (q : ScrL w M H a vs) : ScrL w M1 H1 a vs := by
  rcases q with q | ⟨o, q, n⟩
  · exact .inl q
  · exact .inr ⟨o, t.hp _ _ rfl q, fun z => n (t.mo _ z)⟩
mutual
theorem VR.tr {f : Nat → Option Nat} (t : Tr w M rho H M1 rho1 H1 f) : ∀ {x y : PV} {v : V}, VR w M rho H x v → renV f x = some y → VR w M1 rho1 H1 y v
  | _, _, _, .non, e => by cases e; exact .non
  | _, _, _, .bl b, e => by cases e; exact .bl b
  | _, _, _, .int i, e => by cases e; exact .int i
  | _, _, _, .str s, e => by cases e; exact .str s
  | _, _, _, .tup (xs := xs) q s, e => by
    unfold renV at e
    cases e1 : renVs f xs with
    | none => rw [e1] at e; cases e
    | some ys => rw [e1] at e; cases e; exact .tup (t.sqT q) (VRs.tr t s e1)
  | _, _, _, .scr (xs := xs) q s, e => by
    unfold renV at e
    cases e1 : renVs f xs with
    | none => rw [e1] at e; cases e
    | some ys => rw [e1] at e; cases e; exact .scr (t.scr q) (VRs.tr t s e1)
  | _, _, _, .rdic (kvs := kvs) q n s, e => by
    unfold renV at e
    cases e1 : renK f kvs with
    | none => rw [e1] at e; cases e
    | some ys => rw [e1] at e; cases e; exact .rdic (t.hp _ _ rfl q) (fun z => n (t.mo _ z)) (KRs.tr t s e1)
  | _, _, _, .ins (fs := fs) c q n s, e => by
    unfold renV at e
    cases e1 : renF f fs with
    | none => rw [e1] at e; cases e
    | some ys => rw [e1] at e; cases e; exact .ins c (t.hp _ _ rfl q) (fun z => n (t.mo _ z)) (FRs.tr t s e1)
  | _, _, _, .ref (n := n) q, e => by
    unfold renV at e
    cases e1 : f n with
    | none => rw [e1] at e; cases e
    | some m => rw [e1] at e; cases e; exact .ref (t.rf n m _ e1 q)
  | _, _, _, .gl q, e => by cases e; exact .gl q
theorem VRs.tr {f : Nat → Option Nat} (t : Tr w M rho H M1 rho1 H1 f) : ∀ {xs ys : List PV} {vs : List V}, VRs w M rho H xs vs → renVs f xs = some ys → VRs w M1 rho1 H1 ys vs
  | _, _, _, .nil, e => by cases e; exact .nil
  | _, _, _, .cons (x := x) (xs := xs) a b, e => by
    unfold renVs at e
    cases e1 : renV f x with
    | none => rw [e1] at e; cases e
    | some y =>
      cases e2 : renVs f xs with
      | none => rw [e1, e2] at e; cases e
      | some ys => rw [e1, e2] at e; cases e; exact .cons (VR.tr t a e1) (VRs.tr t b e2)
theorem FRs.tr {f : Nat → Option Nat} (t : Tr w M rho H M1 rho1 H1 f) : ∀ {xs ys : List (Nm × PV)} {vs : List (Str × V)}, FRs w M rho H xs vs → renF f xs = some ys → FRs w M1 rho1 H1 ys vs
  | _, _, _, .nil, e => by cases e; exact .nil
  | _, _, _, .cons (x := x) (fs := xs) a b, e => by
    unfold renF at e
    cases e1 : renV f x with
    | none => rw [e1] at e; cases e
    | some y =>
      cases e2 : renF f xs with
      | none => rw [e1, e2] at e; cases e
      | some ys => rw [e1, e2] at e; cases e; exact .cons (VR.tr t a e1) (FRs.tr t b e2)
theorem KRs.tr {f : Nat → Option Nat} (t : Tr w M rho H M1 rho1 H1 f) : ∀ {xs ys : List (PV × PV)} {vs : List (Key × V)}, KRs w M rho H xs vs → renK f xs = some ys → KRs w M1 rho1 H1 ys vs
  | _, _, _, .nil, e => by cases e; exact .nil
  | _, _, _, .cons (x := x) (fs := xs) q a b, e => by
    unfold renK at e
    cases e1 : renV f x with
    | none => rw [e1] at e; cases e
    | some y =>
      cases e2 : renK f xs with
      | none => rw [e1, e2] at e; cases e
      | some ys => rw [e1, e2] at e; cases e; exact .cons q (VR.tr t a e1) (KRs.tr t b e2)
end
mutual
theorem nk_ren (f : Nat → Option Nat) : ∀ (x : PV) (k : NestedKey), nkP x = some k → renV f x = some x
  | .non, _, _ | .bl _, _, _ | .int _, _, _ | .str _, _, _ => by unfold renV; rfl
  | .tup xs, k, e => by
    unfold nkP at e
    cases q : nkPs xs with
    | none => rw [q] at e; cases e
    | some ks => unfold renV; rw [nks_ren f xs ks q]
  | .scr _, _, e | .rdic _, _, e | .ins _ _, _, e | .ref _, _, e | .gl _, _, e => by unfold nkP at e; cases e
theorem nks_ren (f : Nat → Option Nat) : ∀ (x : List PV) (k : List NestedKey), nkPs x = some k → renVs f x = some x
  | [], _, _ => by unfold renVs; rfl
  | x :: xs, k, e => by
    unfold nkPs at e
    cases q : nkP x with
    | none => rw [q] at e; cases e
    | some y =>
      cases q2 : nkPs xs with
      | none => rw [q, q2] at e; cases e
      | some ys => unfold renVs; rw [nk_ren f x y q, nks_ren f xs ys q2]
end
theorem TRs.tr {f : Nat → Option Nat} (t : Tr w M rho H M1 rho1 H1 f) : ∀ {xs ys : List (PV × PV)} {vs : List (NestedKey × Addr × Value)}, TRs w M rho H xs vs → renK f xs = some ys → TRs w M1 rho1 H1 ys vs
  | _, _, _, .nil, e => by cases e; exact .nil
  | _, _, _, .cons (k := k) (x := x) (fs := xs) q1 q2 r0 a r b, e => by
    unfold renK at e
    cases e1 : renV f x with
    | none => rw [e1] at e; cases e
    | some y =>
      cases e2 : renK f xs with
      | none => rw [e1, e2] at e; cases e
      | some ys => rw [e1, e2] at e; cases e; exact .cons q1 q2 (r0.tr t (nk_ren f k _ q1)) (a.tr t e1) r (TRs.tr t b e2)
theorem OR.tr {f : Nat → Option Nat} (t : Tr w M rho H M1 rho1 H1 f) {a : Addr} {o p : PO} (q : OR w M rho H a o) (he : H1 a = H a) (e : renO f o = Option.some p) : OR w M1 rho1 H1 a p := by
  cases o with
  | lst xs =>
    obtain ⟨vs, h1, h2⟩ := q
    cases e1 : renVs f xs with
    | none => simp only [renO, e1] at e; cases e
    | some ys => simp only [renO, e1] at e; cases e; exact ⟨vs, he.trans h1, h2.tr t e1⟩
  | ins c fs =>
    obtain ⟨C, dx, gs, h0, h1, h2⟩ := q
    cases e1 : renF f fs with
    | none => simp only [renO, e1] at e; cases e
    | some ys => simp only [renO, e1] at e; cases e; exact ⟨C, dx, gs, h0, he.trans h1, h2.tr t e1⟩
  | dic lk kvs =>
    obtain ⟨ks, h1, h2⟩ := q
    cases e1 : renK f kvs with
    | none => simp only [renO, e1] at e; cases e
    | some ys =>
      simp only [renO, e1] at e; cases e
      refine ⟨ks, ?_, h2.tr t e1⟩
      cases lk with
      | false => exact he.trans h1
      | true => obtain ⟨o, h1⟩ := h1; exact ⟨o, he.trans h1⟩
  | dit lk kvs =>
    obtain ⟨ks, h1, z1, z2, z3, h2⟩ := q
    cases e1 : renK f kvs with
    | none => simp only [renO, e1] at e; cases e
    | some ys =>
      simp only [renO, e1] at e; cases e
      refine ⟨ks, ?_, z1, z2, z3, h2.tr t e1⟩
      cases lk with
      | false => exact he.trans h1
      | true => obtain ⟨o, h1⟩ := h1; exact ⟨o, he.trans h1⟩
end

abbrev MF := List PV → PH → R PV
def FUEL : Nat := 400
def pick (h : PH) (f : Nat → Option Nat) (n : Nat) : Option PO := match h[n]? with
  | some o => renO f o
  | none => none
def setAll : PH → List Nat → List PO → PH
  | h, n :: ns, o :: os => setAll (h.set n o) ns os
  | h, _, _ => h
def newsOf (fp live : List Nat) : List Nat := live.filter fun n => decide (fp.length ≤ n)
def backF (fp news : List Nat) (n0 : Nat) : Nat → Option Nat := fun n => bif decide (n < fp.length) then fp[n]? else match idx news n with
  | some i => some (n0 + i)
  | none => none
/-- behind the call: fp the objects that were handed over, h the caller's heap, vs and g what came back -/
def takeL (h : PH) (fp : List Nat) (vs : List PV) (g : PH) : Option (List Nat × List PV × PH) := match reach g FUEL (refsVs vs ++ List.range fp.length) [] with
  | some live => match renVs (backF fp (newsOf fp live) h.length) vs, mapO (pick g (backF fp (newsOf fp live) h.length)) (List.range fp.length), mapO (pick g (backF fp (newsOf fp live) h.length)) (newsOf fp live) with
    | some us, some os, some ns => some (newsOf fp live, us, setAll h fp os ++ ns)
    | _, _, _ => none
  | none => none
def takeBack (h : PH) (fp : List Nat) (v : PV) (g : PH) : R PV := match takeL h fp [v] g with
  | some (_, [u], h2) => .ok u h2
  | _ => .stuck
/-- a new instance that nobody else holds is taken over as a value -/
def takeFrz (h : PH) (fp : List Nat) (v : PV) (g : PH) : R PV := match v with
  | .ref i => match g[i]? with
    | some (.ins c fs) => match takeL h fp (fs.map (·.2)) g with
      | some (news, us, h2) => bif news.contains i || decide (i < fp.length) then .stuck else .ok (.ins c ((fs.map (·.1)).zip us)) h2
      | none => .stuck
    | _ => .stuck
  | _ => .stuck
def callG (tb : PH → List Nat → PV → PH → R PV) (m : MF) (args : List PV) (h : PH) : R PV := match reach h FUEL (refsVs args) [] with
  | some fp => match renVs (idx fp) args, mapO (pick h (idx fp)) fp with
    | some as, some hc => match m as hc with
      | .ok v g => tb h fp v g
      | .exc _ _ _ => .stuck
      | .stuck => .stuck
    | _, _ => .stuck
  | none => .stuck
section
theorem idx_get : ∀ {l : List Nat} {n i : Nat}, idx l n = some i → l[i]? = some n
  | [], _, _, e => nomatch e
  | m :: r, n, i, e => by
    unfold idx at e
    by_cases q : m = n
    · rw [beq_iff_eq.mpr q, cond_true] at e
      cases e
      rw [q]; rfl
    · rw [beq_eq_false_iff_ne.mpr q, cond_false] at e
      split at e
      · rename_i j ej
        cases e
        have := idx_get ej
        simpa using this
      · cases e
theorem mapO_len {α β : Type} {f : α → Option β} : ∀ {xs : List α} {ys : List β}, mapO f xs = some ys → ys.length = xs.length
  | [], _, e => by cases e; rfl
  | x :: xs, ys, e => by
    unfold mapO at e
    split at e
    · cases e
    · split at e
      · cases e
      · rename_i e2
        cases e
        rw [List.length_cons, List.length_cons, mapO_len e2]
theorem mapO_get {α β : Type} {f : α → Option β} : ∀ {xs : List α} {ys : List β}, mapO f xs = some ys → ∀ {i : Nat} {x : α}, xs[i]? = some x → ∃ y, ys[i]? = some y ∧ f x = some y
  | [], _, _, i, _, h => by simp at h
  | x :: xs, ys, e, i, z, h => by
    unfold mapO at e
    split at e
    · cases e
    · rename_i y ey
      split at e
      · cases e
      · rename_i e2
        cases e
        cases i with
        | zero =>
          have h1 : x = z := by simpa using h
          subst h1
          exact ⟨y, rfl, ey⟩
        | succ i =>
          obtain ⟨y2, h1, h2⟩ := mapO_get e2 (i := i) (x := z) (by simpa using h)
          exact ⟨y2, by simpa using h1, h2⟩
theorem reach_nd {h : PH} : ∀ {f : Nat} {todo seen fp : List Nat}, seen.Nodup → reach h f todo seen = some fp → fp.Nodup
  | f, [], seen, fp, n, e => by
    cases f <;> (unfold reach at e; cases e; exact n)
  | 0, _ :: _, _, _, _, e => by unfold reach at e; cases e
  | f + 1, m :: todo, seen, fp, n, e => by
    unfold reach at e
    by_cases q : seen.contains m = true
    · rw [q, cond_true] at e
      exact reach_nd n e
    · have q' : seen.contains m = false := by simpa using q
      rw [q', cond_false] at e
      split at e
      · refine reach_nd (List.nodup_append.mpr ⟨n, (by simp), fun a ha b hb z => ?_⟩) e
        rw [List.mem_singleton] at hb
        subst z; subst hb
        exact q (List.contains_iff_mem.mpr ha)
      · cases e
theorem setAll_len : ∀ (h : PH) (ns : List Nat) (os : List PO), (setAll h ns os).length = h.length
  | h, [], os => by cases os <;> rfl
  | h, n :: ns, [] => rfl
  | h, n :: ns, o :: os => by
    show (setAll (h.set n o) ns os).length = _
    rw [setAll_len, List.length_set]
theorem setAll_out : ∀ (h : PH) (ns : List Nat) (os : List PO) {i : Nat}, i ∉ ns → (setAll h ns os)[i]? = h[i]?
  | h, [], os, i, _ => by cases os <;> rfl
  | h, n :: ns, [], i, _ => rfl
  | h, n :: ns, o :: os, i, hn => by
    show (setAll (h.set n o) ns os)[i]? = _
    have h1 : n ≠ i := fun e => hn (by rw [e]; exact List.mem_cons_self)
    rw [setAll_out (h.set n o) ns os fun z => hn (List.mem_cons_of_mem _ z), List.getElem?_set_ne h1]
theorem setAll_in : ∀ (h : PH) (ns : List Nat) (os : List PO), ns.Nodup → os.length = ns.length → ∀ {i j : Nat}, ns[j]? = some i → i < h.length → (setAll h ns os)[i]? = os[j]?
  | h, [], os, _, _, i, j, e, _ => by simp at e
  | h, n :: ns, [], _, l, i, j, e, _ => by simp at l
  | h, n :: ns, o :: os, nd, l, i, j, e, hi => by
    show (setAll (h.set n o) ns os)[i]? = _
    have nd2 := List.nodup_cons.mp nd
    cases j with
    | zero =>
      have e1 : n = i := by simpa using e
      subst e1
      rw [setAll_out _ _ _ nd2.1, List.getElem?_set_self hi]
      rfl
    | succ j =>
      have e1 : ns[j]? = some i := by simpa using e
      have := setAll_in (h.set n o) ns os nd2.2 (by simpa using l) e1 (by rw [List.length_set]; exact hi)
      rw [this]
      simp
end
section
variable {w : Wo} {EX EX2 : XC} {M : Addr → Prop} {rho : List Addr} {H : Hp} {h : PH}
/-- the addresses that are handed over -/
def some_of (rho : List Addr) (fp : List Nat) : List Addr := fp.map fun n => rho.getD n 0
theorem some_get {rho : List Addr} {fp : List Nat} {i n : Nat} {a : Addr} (e : fp[i]? = some n) (r : rho[n]? = some a) : (some_of rho fp)[i]? = some a := by
  unfold some_of
  rw [List.getElem?_map, e]
  simp [List.getD, r]
theorem some_inv {rho : List Addr} {fp : List Nat} {i : Nat} {a : Addr} (hf : ∀ n ∈ fp, n < rho.length) (e : (some_of rho fp)[i]? = some a) : ∃ n, fp[i]? = some n ∧ rho[n]? = some a := by
  unfold some_of at e
  rw [List.getElem?_map] at e
  cases q : fp[i]? with
  | none => rw [q] at e; cases e
  | some n =>
    rw [q] at e
    have hn := hf n (List.mem_of_getElem? q)
    refine ⟨n, rfl, ?_⟩
    rw [← e]
    simp [List.getD, hn]
theorem some_nd {rho : List Addr} {fp : List Nat} (h1 : rho.Nodup) (h2 : fp.Nodup) (hf : ∀ n ∈ fp, n < rho.length) : (some_of rho fp).Nodup := by
  unfold some_of
  induction fp with
  | nil => exact List.nodup_nil
  | cons n r ih =>
    have h3 := List.nodup_cons.mp h2
    rw [List.map_cons]
    refine List.nodup_cons.mpr ⟨fun z => ?_, ih h3.2 fun m hm => hf m (List.mem_cons_of_mem _ hm)⟩
    obtain ⟨m, hm, e⟩ := List.mem_map.mp z
    have l1 := hf n List.mem_cons_self
    have l2 := hf m (List.mem_cons_of_mem _ hm)
    simp only [List.getD, List.getElem?_eq_getElem l1, List.getElem?_eq_getElem l2, Option.getD_some] at e
    have := (List.getElem_inj h1).mp e
    subst this
    exact h3.1 hm
theorem pick_some {h : PH} {f : Nat → Option Nat} {n : Nat} {p : PO} (e : pick h f n = some p) : ∃ o, h[n]? = some o ∧ renO f o = some p := by
  unfold pick at e
  split at e
  · rename_i o e0
    exact ⟨o, e0, e⟩
  · cases e
theorem pick_all {h : PH} {f : Nat → Option Nat} {ns : List Nat} {os : List PO} (e : mapO (pick h f) ns = some os) : ∀ n ∈ ns, n < h.length := fun n hn => by
  obtain ⟨i, hi, ei⟩ := List.mem_iff_getElem.mp hn
  obtain ⟨y, _, ey⟩ := mapO_get e (i := i) (x := n) (by rw [List.getElem?_eq_getElem hi, ei])
  obtain ⟨o, h1, _⟩ := pick_some ey
  exact (List.getElem?_eq_some_iff.mp h1).1
/-- entering -/
theorem enter_ok (hr : HR w M rho H h) {args as : List PV} {hc : PH} {fp : List Nat} {vs : List V} (nd : fp.Nodup) (e1 : renVs (idx fp) args = some as) (e2 : mapO (pick h (idx fp)) fp = some hc) (r : VRs w M rho H args vs) :
    VRs w M (some_of rho fp) H as vs ∧ HR w M (some_of rho fp) H hc := by
  have hf : ∀ n ∈ fp, n < rho.length := fun n hn => by rw [← hr.len]; exact pick_all e2 n hn
  have t : Tr w M rho H M (some_of rho fp) H (idx fp) := ⟨fun _ _ _ e => e, fun _ e => e, fun n m a q ha => some_get (idx_get q) ha⟩
  refine ⟨r.tr t e1, ⟨?_, some_nd hr.nd nd hf, fun b hb => ?_, hr.live, fun n o q => ?_⟩⟩
  · rw [mapO_len e2]
    unfold some_of
    rw [List.length_map]
  · obtain ⟨i, hi, ei⟩ := List.mem_iff_getElem.mp hb
    obtain ⟨n, _, hn⟩ := some_inv hf (i := i) (a := b) (by rw [List.getElem?_eq_getElem hi, ei])
    exact hr.mem b (List.mem_of_getElem? hn)
  · have hn : n < fp.length := by
      have := (List.getElem?_eq_some_iff.mp q).1
      rwa [mapO_len e2] at this
    obtain ⟨y, hy, ey⟩ := mapO_get e2 (i := n) (x := fp[n]) (List.getElem?_eq_getElem hn)
    rw [q] at hy
    cases hy
    obtain ⟨o', h1, h2⟩ := pick_some ey
    obtain ⟨a, ha, s⟩ := hr.ob _ _ h1
    exact ⟨a, some_get (List.getElem?_eq_getElem hn) ha, s.tr t rfl h2⟩
theorem Out.bifN {α : Type} {c : Bool} {r : R α} {kk : KC α} (o : Out w EX M rho H (bif c then .stuck else r) kk) : c = false ∧ Out w EX M rho H r kk := by
  cases c with
  | true => exact (show False from o).elim
  | false => exact ⟨rfl, o⟩
/-- coming back -/
theorem back_core {M1 : Addr → Prop} {rho1 : List Addr} {H1 : Hp} (hr : HR w M rho H h) {fp : List Nat} {g h2 : PH} {v us : List PV} {V : List L2.V} {nw : List Nat} (nd : fp.Nodup) (hf : ∀ n ∈ fp, n < rho.length) (st : Step M (some_of rho fp) H M1 rho1 H1) (hr1 : HR w M1 rho1 H1 g) (r : VRs w M1 rho1 H1 v V)
    (o : takeL h fp v g = some (nw, us, h2)) : ∃ M2 rho2, Step M rho H M2 rho2 H1 ∧ HR w M2 rho2 H1 h2 ∧ VRs w M2 rho2 H1 us V ∧ (∀ b, M2 b → M b ∨ ∃ n ∈ nw, rho1[n]? = some b) := by
  unfold takeL at o
  split at o
  · rename_i live el
    have ndl := reach_nd List.nodup_nil el
    generalize hnews : newsOf fp live = news at o
    have ndn : news.Nodup := by rw [← hnews]; exact ndl.filter _
    have nge : ∀ n ∈ news, fp.length ≤ n := fun n hn => by
      rw [← hnews] at hn
      exact of_decide_eq_true (List.mem_filter.mp hn).2
    generalize hfd : backF fp news h.length = f at o
    split at o
    · rename_i us' os ns e1 e2 e3
      have lo : os.length = fp.length := by rw [mapO_len e2, List.length_range]
      have ln : ns.length = news.length := mapO_len e3
      have nlt : ∀ n ∈ news, n < rho1.length := fun n hn => by rw [← hr1.len]; exact pick_all e3 n hn
      have lc : (some_of rho fp).length = fp.length := by unfold some_of; rw [List.length_map]
      -- a new address
      have newA : ∀ b ∈ some_of rho1 news, b ∈ rho1 ∧ H b = none := fun b hb => by
        obtain ⟨i, hi, ei⟩ := List.mem_iff_getElem.mp hb
        obtain ⟨n, h1, h2⟩ := some_inv nlt (i := i) (a := b) (by rw [List.getElem?_eq_getElem hi, ei])
        have hm := List.mem_of_getElem? h2
        refine ⟨hm, ?_⟩
        rcases st.new b hm with z | z
        · obtain ⟨j, hj, ej⟩ := List.mem_iff_getElem.mp z
          have q := st.ext j b (by rw [List.getElem?_eq_getElem hj, ej])
          obtain ⟨l1, z1⟩ := List.getElem?_eq_some_iff.mp q
          obtain ⟨l2, z2⟩ := List.getElem?_eq_some_iff.mp h2
          have := (List.getElem_inj hr1.nd).mp (z1.trans z2.symm)
          have g1 := nge n (List.mem_of_getElem? h1)
          rw [lc] at hj
          omega
        · exact z
      have subR : ∀ b ∈ some_of rho fp, b ∈ rho := fun b hb => by
        obtain ⟨i, hi, ei⟩ := List.mem_iff_getElem.mp hb
        obtain ⟨n, _, hn⟩ := some_inv hf (i := i) (a := b) (by rw [List.getElem?_eq_getElem hi, ei])
        exact List.mem_of_getElem? hn
      let M2 : Addr → Prop := fun b => M b ∨ b ∈ some_of rho1 news
      let rho2 := rho ++ some_of rho1 news
      have st2 : Step M rho H M2 rho2 H1 := by
        refine ⟨fun n a e => ?_, fun b e => .inl e, fun b e => e.elim .inl fun z => .inr (newA b z).2, fun b e => ?_, fun b o' nb e => st.frame b o' (fun z => nb (subR b z)) e, st.there, st.frz⟩
        · show (rho ++ some_of rho1 news)[n]? = some a
          rw [List.getElem?_append_left (List.getElem?_eq_some_iff.mp e).1]; exact e
        · rcases List.mem_append.mp e with z | z
          · exact .inl z
          · exact .inr (newA b z).2
      have t : Tr w M1 rho1 H1 M2 rho2 H1 f := by
        refine ⟨fun _ _ _ e => e, fun b e => e.elim (st.mono b) fun z => hr1.mem b (newA b z).1, fun n m a q ha => ?_⟩
        rw [← hfd] at q
        unfold backF at q
        by_cases hn : n < fp.length
        · simp only [hn, decide_true, cond_true] at q
          have hm := hf m (List.mem_of_getElem? q)
          have z := st.ext n _ (some_get q (List.getElem?_eq_getElem hm))
          rw [ha] at z
          cases z
          show (rho ++ some_of rho1 news)[m]? = _
          rw [List.getElem?_append_left hm]
          exact List.getElem?_eq_getElem hm
        · simp only [hn, decide_false, cond_false] at q
          split at q
          · rename_i i ei
            cases q
            show (rho ++ some_of rho1 news)[h.length + i]? = _
            rw [hr.len, List.getElem?_append_right (Nat.le_add_right _ _), Nat.add_sub_cancel_left]
            exact some_get (idx_get ei) ha
          · cases q
      have hr2 : HR w M2 rho2 H1 (setAll h fp os ++ ns) := by
        refine ⟨?_, ?_, fun b hb => ?_, fun b hb => ?_, fun n o' q => ?_⟩
        · show _ = (rho ++ some_of rho1 news).length
          rw [List.length_append, List.length_append, setAll_len, hr.len, ln]
          unfold some_of
          rw [List.length_map]
        · refine List.nodup_append.mpr ⟨hr.nd, some_nd hr1.nd ndn nlt, fun a ha b hb e => ?_⟩
          subst e
          exact hr.live _ (hr.mem _ ha) (newA _ hb).2
        · rcases List.mem_append.mp hb with z | z
          · exact .inl (hr.mem b z)
          · exact .inr z
        · rcases hb with z | z
          · exact st.there b (hr.live b z)
          · exact hr1.live b (hr1.mem b (newA b z).1)
        · by_cases hn : n < h.length
          · rw [List.getElem?_append_left (by rw [setAll_len]; exact hn)] at q
            by_cases hm : n ∈ fp
            · obtain ⟨j, hj, ej⟩ := List.mem_iff_getElem.mp hm
              have e4 : fp[j]? = some n := by rw [List.getElem?_eq_getElem hj, ej]
              rw [setAll_in h fp os nd lo e4 hn] at q
              obtain ⟨y, hy, ey⟩ := mapO_get e2 (i := j) (x := j) (by simp [hj])
              rw [q] at hy
              cases hy
              obtain ⟨o2, h1, h2⟩ := pick_some ey
              obtain ⟨a, ha, s⟩ := hr1.ob _ _ h1
              refine ⟨a, ?_, s.tr t rfl h2⟩
              have hn2 : n < rho.length := by rw [← hr.len]; exact hn
              have z := st.ext j _ (some_get e4 (List.getElem?_eq_getElem hn2))
              rw [ha] at z
              cases z
              show (rho ++ some_of rho1 news)[n]? = _
              rw [List.getElem?_append_left hn2]
              exact List.getElem?_eq_getElem hn2
            · rw [setAll_out h fp os hm] at q
              obtain ⟨a, ha, s⟩ := hr.ob _ _ q
              refine ⟨a, st2.ext n a ha, s.step st2 hr ?_⟩
              obtain ⟨x, hx, _⟩ := s.some
              rw [hx]
              refine st.frame a x (fun z => ?_) hx
              obtain ⟨i, hi, ei⟩ := List.mem_iff_getElem.mp z
              obtain ⟨n', h5, h6⟩ := some_inv hf (i := i) (a := a) (by rw [List.getElem?_eq_getElem hi, ei])
              obtain ⟨l1, z1⟩ := List.getElem?_eq_some_iff.mp ha
              obtain ⟨l2, z2⟩ := List.getElem?_eq_some_iff.mp h6
              have := (List.getElem_inj hr.nd).mp (z1.trans z2.symm)
              subst this
              exact hm (List.mem_of_getElem? h5)
          · rw [List.getElem?_append_right (by rw [setAll_len]; omega), setAll_len] at q
            have hl : n - h.length < news.length := by
              have := (List.getElem?_eq_some_iff.mp q).1
              omega
            obtain ⟨y, hy, ey⟩ := mapO_get e3 (i := n - h.length) (x := news[n - h.length]) (List.getElem?_eq_getElem hl)
            rw [q] at hy
            cases hy
            obtain ⟨o2, h1, h2⟩ := pick_some ey
            obtain ⟨a, ha, s⟩ := hr1.ob _ _ h1
            refine ⟨a, ?_, s.tr t rfl h2⟩
            show (rho ++ some_of rho1 news)[n]? = _
            rw [List.getElem?_append_right (by rw [← hr.len]; omega), ← hr.len]
            exact some_get (List.getElem?_eq_getElem hl) ha
      have o2 := Option.some.inj o
      have p1 := congrArg Prod.fst o2
      have p2 := congrArg (fun z => z.2.1) o2
      have p3 := congrArg (fun z => z.2.2) o2
      simp only at p1 p2 p3
      subst p1; subst p2; subst p3
      refine ⟨M2, rho2, st2, hr2, r.tr t e1, fun b hb => hb.elim .inl fun z => .inr ?_⟩
      obtain ⟨i, hi, ei⟩ := List.mem_iff_getElem.mp z
      obtain ⟨n, h1, h2⟩ := some_inv nlt (i := i) (a := b) (by rw [List.getElem?_eq_getElem hi, ei])
      exact ⟨n, List.mem_of_getElem? h1, h2⟩
    · cases o
  · cases o
theorem back_ok {M1 : Addr → Prop} {rho1 : List Addr} {H1 : Hp} (hr : HR w M rho H h) {fp : List Nat} {g : PH} {v : PV} {V : L2.V} (nd : fp.Nodup) (hf : ∀ n ∈ fp, n < rho.length) (st : Step M (some_of rho fp) H M1 rho1 H1) (hr1 : HR w M1 rho1 H1 g) (r : VR w M1 rho1 H1 v V)
    {k : KC PV} (o : Out w EX M rho H (takeBack h fp v g) k) : ∃ M2 rho2 u h2, Step M rho H M2 rho2 H1 ∧ HR w M2 rho2 H1 h2 ∧ VR w M2 rho2 H1 u V ∧ k u h2 M2 rho2 H1 := by
  unfold takeBack at o
  split at o
  · rename_i nw u h2 e
    obtain ⟨M2, rho2, st2, hr2, r2, _⟩ := back_core hr nd hf st hr1 (.cons r .nil) e
    cases r2 with
    | cons r2 _ => exact ⟨M2, rho2, u, h2, st2, hr2, r2, o M2 rho2 H1 st2 hr2⟩
  · exact (show False from o).elim
theorem FRs.vals {M1 : Addr → Prop} {rho1 : List Addr} {H1 : Hp} : ∀ {fs : List (Nm × PV)} {gs : List (Str × L2.V)}, FRs w M1 rho1 H1 fs gs → VRs w M1 rho1 H1 (fs.map (·.2)) (gs.map (·.2))
  | _, _, .nil => .nil
  | _, _, .cons a b => .cons a b.vals
theorem FRs.back {M1 M2 : Addr → Prop} {rho1 rho2 : List Addr} {H1 H2 : Hp} : ∀ {fs : List (Nm × PV)} {gs : List (Str × L2.V)} {us : List PV}, FRs w M1 rho1 H1 fs gs → VRs w M2 rho2 H2 us (gs.map (·.2)) → FRs w M2 rho2 H2 ((fs.map (·.1)).zip us) gs
  | _, _, _, .nil, .nil => .nil
  | _, _, _, .cons a b, .cons c d => .cons c (b.back d)
theorem frz_ok {M1 : Addr → Prop} {rho1 : List Addr} {H1 : Hp} (hr : HR w M rho H h) {fp : List Nat} {g : PH} {v : PV} {V : L2.V} (nd : fp.Nodup) (hf : ∀ n ∈ fp, n < rho.length) (st : Step M (some_of rho fp) H M1 rho1 H1) (hr1 : HR w M1 rho1 H1 g) (r : VR w M1 rho1 H1 v V)
    {k : KC PV} (o : Out w EX M rho H (takeFrz h fp v g) k) : ∃ M2 rho2 u h2, Step M rho H M2 rho2 H1 ∧ HR w M2 rho2 H1 h2 ∧ VR w M2 rho2 H1 u V ∧ k u h2 M2 rho2 H1 := by
  unfold takeFrz at o
  cases r <;> try exact (show False from o).elim
  rename_i i a ha
  dsimp only at o
  split at o
  · rename_i c fs e0
    split at o
    · rename_i nw us h2 e
      obtain ⟨hc, o⟩ := Out.bifN o
      simp only [Bool.or_eq_false_iff, decide_eq_false_iff_not] at hc
      obtain ⟨a', ha', C, dx, gs, q1, q2, q3⟩ := hr1.ob _ _ e0
      rw [ha] at ha'
      cases ha'
      obtain ⟨M2, rho2, st2, hr2, r2, mm⟩ := back_core hr nd hf st hr1 q3.vals e
      refine ⟨M2, rho2, _, h2, st2, hr2, .ins q1 q2 (fun z => ?_) (q3.back r2), o M2 rho2 H1 st2 hr2⟩
      have uniq : ∀ n, rho1[n]? = some a → n = i := fun n hn => by
        obtain ⟨l1, z1⟩ := List.getElem?_eq_some_iff.mp hn
        obtain ⟨l2, z2⟩ := List.getElem?_eq_some_iff.mp ha
        exact (List.getElem_inj hr1.nd).mp (z1.trans z2.symm)
      rcases mm a z with y | ⟨n, hn, en⟩
      · rcases st.new a (List.mem_of_getElem? ha) with x | x
        · obtain ⟨j, hj, ej⟩ := List.mem_iff_getElem.mp x
          have q := st.ext j a (by rw [List.getElem?_eq_getElem hj, ej])
          have := uniq j q
          subst this
          have lc : (some_of rho fp).length = fp.length := by unfold some_of; rw [List.length_map]
          exact hc.2 (by omega)
        · exact hr.live a y x
      · have := uniq n en
        subst this
        have := hc.1
        rw [List.contains_iff_mem.mpr hn] at this
        cases this
    · exact (show False from o).elim
  · exact (show False from o).elim
/-- the callee's outcome from the call's -/
def TbOk (w : Wo) (EX : XC) (tb : PH → List Nat → PV → PH → R PV) : Prop := ∀ {M M1 : Addr → Prop} {rho rho1 : List Addr} {H H1 : Hp} {h : PH}, HR w M rho H h → ∀ {fp : List Nat} {g : PH} {v : PV} {V : L2.V}, fp.Nodup → (∀ n ∈ fp, n < rho.length) → Step M (some_of rho fp) H M1 rho1 H1 → HR w M1 rho1 H1 g → VR w M1 rho1 H1 v V →
    ∀ {k : KC PV}, Out w EX M rho H (tb h fp v g) k → ∃ M2 rho2 u h2, Step M rho H M2 rho2 H1 ∧ HR w M2 rho2 H1 h2 ∧ VR w M2 rho2 H1 u V ∧ k u h2 M2 rho2 H1
theorem tb_ok : TbOk w EX takeBack := back_ok
theorem tf_ok : TbOk w EX takeFrz := frz_ok
theorem callG_ok {tb : PH → List Nat → PV → PH → R PV} (T : TbOk w EX tb) {m : MF} {args : List PV} {vs : List V} {k : KC PV} (hr : HR w M rho H h) (r : VRs w M rho H args vs) (o : Out w EX M rho H (callG tb m args h) k) :
    ∃ rho' as hc, VRs w M rho' H as vs ∧ HR w M rho' H hc ∧ Out w EX2 M rho' H (m as hc) (fun v _ M1 rho1 H1 => ∀ V, VR w M1 rho1 H1 v V → ∃ M2 rho2 u h2, Step M rho H M2 rho2 H1 ∧ HR w M2 rho2 H1 h2 ∧ VR w M2 rho2 H1 u V ∧ k u h2 M2 rho2 H1) := by
  unfold callG at o
  split at o
  · rename_i fp ef
    have nd := reach_nd List.nodup_nil ef
    split at o
    · rename_i as hc e1 e2
      have hf : ∀ n ∈ fp, n < rho.length := fun n hn => by rw [← hr.len]; exact pick_all e2 n hn
      obtain ⟨r', hr'⟩ := enter_ok hr nd e1 e2 r
      refine ⟨_, as, hc, r', hr', ?_⟩
      split at o
      · rename_i v g em
        rw [em]
        exact fun M1 rho1 H1 st hr1 V rv => T hr nd hf st hr1 rv o
      · exact (show False from o).elim
      · exact (show False from o).elim
    · exact (show False from o).elim
  · exact (show False from o).elim
end
end MC

end
section
set_option maxRecDepth 100000
set_option maxHeartbeats 4000000
namespace MC
open PySem PySem.Spec PyProof.Rows L2

abbrev En := List (Option PV)
/-- how a statement ends -/
inductive Fl where
  | nx (e : En)
  | rt (v : PV)
  | bk (e : En)
  | ct (e : En)
abbrev MS := En → PH → R Fl
def KS (w : Wo) (D : Ends) : KC Fl := fun f _ M rho H => match f with
  | .nx e => ∀ s, ER w M rho H e s → D.nx s H
  | .rt x => ∀ v, VR w M rho H x v → D.rt v H
  | .bk e => ∀ s, ER w M rho H e s → D.bk s H
  | .ct e => ∀ s, ER w M rho H e s → D.ct s H
def tS (w : Wo) (EX : XC) (m : MS) : TS := fun D s H => ∃ M rho env h, ER w M rho H env s ∧ HR w M rho H h ∧ Out w EX M rho H (m env h) (KS w D)
theorem PS_imp {X : Cx} {e : Stmt} {t t2 : TS} (p : PS X e t) (i : ∀ D s H, t2 D s H → t D s H) : PS X e t2 := ⟨fun pins s σ H D I h => p.run pins s σ H D I (i D σ H h)⟩
theorem PSs_imp {X : Cx} {e : List Stmt} {t t2 : TS} (p : PSs X e t) (i : ∀ D s H, t2 D s H → t D s H) : PSs X e t2 := ⟨fun pins s σ H D I h => p.run pins s σ H D I (i D σ H h)⟩

def mNil : MS := fun env h => .ok (.nx env) h
def mSeq (a b : MS) : MS := fun env h => (a env h).bind fun f h1 => match f with
  | .nx e => b e h1
  | .rt v => .ok (.rt v) h1
  | .bk e => .ok (.bk e) h1
  | .ct e => .ok (.ct e) h1
def mSet (i : Nat) (m : ME) : MS := fun env h => (m env h).bind fun x h1 => .ok (.nx (env.set i (some x))) h1
def mDrop (m : ME) : MS := fun env h => (m env h).bind fun _ h1 => .ok (.nx env) h1
def mRet (m : ME) : MS := fun env h => (m env h).bind fun x h1 => .ok (.rt x) h1
def mRetN : MS := fun _ h => .ok (.rt .non) h
def mIfS (t : MT) (a b : MS) : MS := fun env h => (t env h).bind fun c h1 => bif c then a env h1 else b env h1
def mBreak : MS := fun env h => .ok (.bk env) h
def mCont : MS := fun env h => .ok (.ct env) h
def mNever : MS := fun _ _ => .stuck
section
variable {w : Wo} {EX : XC} {X : Cx} {k : Nat} {st : Stmt} {rest : List Stmt} {a b : MS} {m : ME} {e : Expr} {pos : Pos}
theorem mss_nil : PSs X [] (tS w EX mNil) := by
  refine PSs_imp pss_nil fun D s H hh => ?_
  obtain ⟨M, rho, env, h, er, hr, o⟩ := hh
  exact o.now hr s er
theorem mss_cons (h1 : PS X st (tS w EX a)) (h2 : PSs X rest (tS w EX b)) : PSs X (st :: rest) (tS w EX (mSeq a b)) := by
  refine PSs_imp (pss_cons h1 h2) fun D s H hh => ?_
  obtain ⟨M, rho, env, h, er, hr, o⟩ := hh
  refine ⟨M, rho, env, h, er, hr, (Out.bind o).imp fun f h1 M1 rho1 H1 st1 hr1 o1 => ?_⟩
  cases f with
  | nx e => exact fun s1 er1 => ⟨M1, rho1, e, h1, er1, hr1, o1⟩
  | rt v => exact (show Out w EX M1 rho1 H1 (.ok (.rt v) h1) (KS w D) from o1).now hr1
  | bk e => exact (show Out w EX M1 rho1 H1 (.ok (.bk e) h1) (KS w D) from o1).now hr1
  | ct e => exact (show Out w EX M1 rho1 H1 (.ok (.ct e) h1) (KS w D) from o1).now hr1
theorem mss_never {sts : List Stmt} : PSs X sts (tS w EX mNever) := ⟨fun _ _ _ _ _ _ ⟨_, _, _, _, _, _, o⟩ => (show False from o).elim⟩
theorem ms_set (i : Nat) {x : Str} {pos' : Pos} (hN : X.N.Nodup) (he : PE X e (tM w EX m)) (hi : X.N[i]? = some x := by rfl) (hx : Loc X.env.scope x := by first | exact Or.inl rfl | exact Or.inr rfl)
    (hs : swapsWith e (some (.Name x pos')) pos.line X.env = pure false := by rfl) (hf : X.fn x = true ∨ X.env.scope.names.lookup x = some .local := by first | exact .inl rfl | exact .inr rfl | assumption) :
    PS X (.Assign [.Name x pos'] e pos) (tS w EX (mSet i m)) := by
  refine PS_imp (ps_set hN hi hx he hs hf) fun D s H hh => ?_
  obtain ⟨M, rho, env, h, er, hr, o⟩ := hh
  exact tM.of er hr (Out.bind o) fun y h1 M1 rho1 H1 v st1 er1 hr1 o1 rv => o1.now hr1 _ (er1.set rv i)
theorem ms_expr (he : PE X e (tM w EX m)) (hs : swapsWith e none pos.line X.env = pure false := by rfl) : PS X (.Expr e pos) (tS w EX (mDrop m)) := by
  refine PS_imp (ps_expr he hs) fun D s H hh => ?_
  obtain ⟨M, rho, env, h, er, hr, o⟩ := hh
  exact tM.of er hr (Out.bind o) fun y h1 M1 rho1 H1 v st1 er1 hr1 o1 rv => o1.now hr1 _ er1
theorem ms_ret (he : PE X e (tM w EX m)) : PS X (.Return (some e) pos) (tS w EX (mRet m)) := by
  refine PS_imp (ps_ret he) fun D s H hh => ?_
  obtain ⟨M, rho, env, h, er, hr, o⟩ := hh
  exact tM.of er hr (Out.bind o) fun y h1 M1 rho1 H1 v st1 er1 hr1 o1 rv => o1.now hr1 _ rv
theorem ms_if {c : Expr} {as bs : List Stmt} {t : MT} (hc : PT X c (tT w EX t)) (ha : PSs X as (tS w EX a)) (hb : PSs X bs (tS w EX b)) : PS X (.If c as bs pos) (tS w EX (mIfS t a b)) := by
  refine PS_imp (ps_if hc ha hb) fun D s H hh => ?_
  obtain ⟨M, rho, env, h, er, hr, o⟩ := hh
  refine tT.of er hr (Out.bind o) fun x h1 M1 rho1 H1 st1 er1 hr1 o1 => ?_
  cases x with
  | true => exact iteT ⟨M1, rho1, env, h1, er1, hr1, o1⟩
  | false => exact iteF ⟨M1, rho1, env, h1, er1, hr1, o1⟩
end

abbrev MG := PV → En → PH → R En
abbrev MGs := List PV → En → PH → R En
def KG (w : Wo) (Q : L2.St → Hp → Prop) : KC En := fun e _ M rho H => ∀ s, ER w M rho H e s → Q s H
def tG (w : Wo) (EX : XC) (m : MG) : TG := fun v s H Q => ∃ M rho env h x, ER w M rho H env s ∧ HR w M rho H h ∧ VR w M rho H x v ∧ Out w EX M rho H (m x env h) (KG w Q)
def tGs (w : Wo) (EX : XC) (m : MGs) : TGs := fun vs s H Q => ∃ M rho env h xs, ER w M rho H env s ∧ HR w M rho H h ∧ VRs w M rho H xs vs ∧ Out w EX M rho H (m xs env h) (KG w Q)
def gName' (i : Nat) : MG := fun x env h => .ok (env.set i (some x)) h
def gsNil : MGs := fun xs env h => match xs with
  | [] => .ok env h
  | _ => .stuck
def gsCons (g : MG) (gs : MGs) : MGs := fun xs env h => match xs with
  | x :: r => (g x env h).bind fun e h1 => gs r e h1
  | [] => .stuck
def gTup' (n : Nat) (gs : MGs) : MG := fun x env h => match x with
  | .tup xs => bif xs.length == n then gs xs env h else .stuck
  | _ => .stuck
/-- target = value -/
def mAsg (m : ME) (g : MG) : MS := fun env h => (m env h).bind fun x h1 => (g x env h1).bind fun e h2 => .ok (.nx e) h2
section
variable {w : Wo} {EX : XC} {X : Cx} {k : Nat} {pos : Pos}
theorem PG_imp {tg : Expr} {t t2 : TG} (p : PG X tg t) (i : ∀ v s H Q, t2 v s H Q → t v s H Q) : PG X tg t2 := ⟨fun pins s σ H v u Q I r h => p.run pins s σ H v u Q I r (i v σ H Q h)⟩
theorem PGs_imp {tg : List Expr} {t t2 : TGs} (p : PGs X tg t) (i : ∀ v s H Q, t2 v s H Q → t v s H Q) : PGs X tg t2 := ⟨fun pins s σ H v u Q I r h => p.run pins s σ H v u Q I r (i v σ H Q h)⟩
theorem mg_name (i : Nat) {x : Str} (hN : X.N.Nodup) (hi : X.N[i]? = some x := by rfl) (hx : Loc X.env.scope x := by first | exact Or.inl rfl | exact Or.inr rfl) (hf : X.fn x = true ∨ X.env.scope.names.lookup x = some .local := by first | exact .inl rfl | exact .inr rfl | assumption) :
    PG X (.Name x pos) (tG w EX (gName' i)) := by
  refine PG_imp (pg_name hN hi hx hf) fun v s H Q hh => ?_
  obtain ⟨M, rho, env, h, x, er, hr, rv, o⟩ := hh
  exact o.now hr _ (er.set rv i)
theorem mgs_nil : PGs X [] (tGs w EX gsNil) := by
  refine PGs_imp pgs_nil fun vs s H Q hh => ?_
  obtain ⟨M, rho, env, h, xs, er, hr, rv, o⟩ := hh
  cases rv with
  | nil => exact ⟨rfl, (show Out w EX M rho H (.ok env h) (KG w Q) from o).now hr _ er⟩
  | cons _ _ => exact (show False from o).elim
theorem mgs_cons {e : Expr} {es : List Expr} {g : MG} {gs : MGs} (h1 : PG X e (tG w EX g)) (h2 : PGs X es (tGs w EX gs)) (hs : (assignEach (e :: es) X.env).map (·.2) = assign e X.env :: (assignEach es X.env).map (·.2) := by rfl) : PGs X (e :: es) (tGs w EX (gsCons g gs)) := by
  refine PGs_imp (pgs_cons h1 h2 hs) fun vs s H Q hh => ?_
  obtain ⟨M, rho, env, h, xs, er, hr, rv, o⟩ := hh
  cases rv with
  | nil => exact (show False from o).elim
  | @cons x v xs vs r1 r2 =>
    refine ⟨v, vs, rfl, M, rho, env, h, x, er, hr, r1, ?_⟩
    exact (Out.bind (show Out w EX M rho H ((g x env h).bind fun e h1 => gs xs e h1) (KG w Q) from o)).imp fun e h1 M1 rho1 H1 st1 hr1 o1 s1 er1 => ⟨M1, rho1, e, h1, xs, er1, hr1, r2.step st1 hr, o1⟩
theorem mg_tup (C : Cxt w k X) {es : List Expr} {j : Nat} {gs : MGs} (n : Nat) (h : PGs X es (tGs w EX gs)) (hn : (assignEach es X.env).length = n := by rfl) (hst : (assignEach es X.env).findIdx? (·.1) = none := by rfl) : PG X (.Tuple es j pos) (tG w EX (gTup' n gs)) := by
  refine PG_imp (pg_tup C.calm h hn hst) fun v s H Q hh => ?_
  obtain ⟨M, rho, env, hp, x, er, hr, rv, o⟩ := hh
  cases rv <;> try exact (show False from o).elim
  rename_i xs vs A ha sa
  obtain ⟨hl, o2⟩ := Out.bif o
  exact ⟨A, vs, rfl, by rw [C.hK]; exact ha, by rw [sa.length]; exact beq_iff_eq.mp hl, M, rho, env, hp, xs, er, hr, sa, o2⟩
theorem ms_asg {tg e : Expr} {m : ME} {g : MG} (he : PE X e (tM w EX m)) (hg : PG X tg (tG w EX g)) (hs : swapsWithSole [tg] e pos.line X.env = pure false := by rfl) (hw : swappedStores [tg] e X.env = pure none := by rfl)
    (h1 : (assignEach [tg] X.env).map (·.2) = [assign tg X.env] := by rfl) : PS X (.Assign [tg] e pos) (tS w EX (mAsg m g)) := by
  refine PS_imp (ps_asg he hg hs hw h1) fun D s H hh => ?_
  obtain ⟨M, rho, env, h, er, hr, o⟩ := hh
  refine tM.of er hr (Out.bind o) fun x h1 M1 rho1 H1 v st1 er1 hr1 o1 rv => ?_
  exact ⟨M1, rho1, env, h1, x, er1, hr1, rv, (Out.bind o1).imp fun e h2 M2 rho2 H2 st2 hr2 o2 s2 er2 => o2.now hr2 _ er2⟩
/-- a, b = x, y: plain local names -/
def mPar (i j : Nat) (ma mb : ME) : MS := fun env h => (ma env h).bind fun x h1 => (mb env h1).bind fun y h2 => .ok (.nx ((env.set i (some x)).set j (some y))) h2
end

/-- a body as a function of its arguments; n names -/
def mFun (n : Nat) (b : MS) : MF := fun args h => (b (args.map some ++ List.replicate (n - args.length) none) h).bind fun f h1 => match f with
  | .nx _ => .ok .non h1
  | .rt v => .ok v h1
  | _ => .stuck
def spM (w : Wo) (EX : XC) (m : MF) (vs : List V) (H : Hp) (Q : VK) : Prop := ∃ M rho args h, VRs w M rho H args vs ∧ HR w M rho H h ∧ Out w EX M rho H (m args h) (KV w Q)
structure FnM (P : Program) (W : World) (w : Wo) (mg : Str → Option Value) (base : Heap) (CX : CXT) (ex : XK → XC) (k : Nat) (f : Addr) (fd : FuncData) (ps : List Str) (m : MF) : Prop where
  run : ∀ (A : Around) (outer : List Env) (s : Shared) (H : Hp) (args : Args) (us : List Value) (vs : List V) (Q : VK) (E : XK), Room k A → A.guards = some [] → Env0 P W w.K mg base A outer s H → BindsTo s fd args (ps.zip us) → Vals vs us → vs.length = ps.length →
    spM w (ex E) m vs H Q → codeAny (model P W) A (.call (.ref f) args) (CR CX outer P W H s Q E) s
section
variable {P : Program} {W : World} {w : Wo} {mg : Str → Option Value} {base : Heap} {CX : CXT} {ex : XK → XC} {k : Nat}
theorem start_er {M : Addr → Prop} {rho : List Addr} {H : Hp} {args : List PV} {vs : List V} (n : Nat) (r : VRs w M rho H args vs) : ER w M rho H (args.map some ++ List.replicate (n - args.length) none) (vs.map some ++ List.replicate (n - vs.length) none) := by
  rw [r.length]
  generalize n - args.length = j
  have tl : ∀ j : Nat, ER w M rho H (List.replicate j none) (List.replicate j (none : Option V)) := fun j => by
    induction j with
    | zero => exact .nil
    | succ j ih => rw [List.replicate_succ, List.replicate_succ]; exact .no ih
  have all : ∀ {args : List PV} {vs : List V}, VRs w M rho H args vs → ER w M rho H (args.map some ++ List.replicate j none) (vs.map some ++ List.replicate j none) := by
    intro args
    induction args with
    | nil => intro vs r; cases r; exact tl j
    | cons x xs ih => intro vs r; cases r with | cons a b => exact .has a (ih b)
  exact all r
/-- a def of the text, by its body's mirror -/
theorem fnm_of (hW : W = w.W) {x qual : Str} {st : Stmt} {f : Addr} {fd : FuncData} {N ps : List Str} {b : MS} (F : Fun w.K x qual st f fd) (sc : FnScope N ps (defScope st))
    (hb : ∀ (cdv : Value) (A : Around) (outer : List Env) (s : Shared) (H : Hp) (E : XK), Cxt w k (cxOf CX P W w.K mg base N qual (defScope st) f cdv A outer s H E).nox →
      PSs (cxOf CX P W w.K mg base N qual (defScope st) f cdv A outer s H E).nox (defBody st) (tS w (ex E) b)) : FnM P W w mg base CX ex (k + 1) f fd ps (mFun N.length b) := by
  obtain ⟨oc, od, kV, doc, pm, an, cdv, ct, osl, rfl, lk, hcd⟩ := F.ex
  constructor
  intro A outer s H args us vs Q E room grd e0 bt rv len sp
  have inK : w.K.In s.heap := e0.mod.kin.keeps fun b o z => (e0.bs b o z).1
  have noLim : s.heap.NoLimit := e0.mod.nolimit.keeps fun b o z => (e0.bs b o z).1
  refine codeAny_call_function (fd := PySem.W.fnOf x qual (defArgs st) (defBody st) (defScope st) .none kV doc pm an cdv ct) room.depth (inK _ _ lk) rfl sc.co sc.gen rfl (PySem.W.codeRec_of inK hcd) (bt _ _ _ _ ?_)
  refine wpAny_newFunctionEnv_cells sc.kind (fun y hy => ?_) fun env henv s1 x1 => ?_
  · rcases sc.par y.1 (List.of_mem_zip (a := y.1) (b := y.2) hy).1 with q | q
    · exact Or.inl q
    · exact Or.inr ⟨q, PySem.W.cellsFrom_some _ _ _ (Or.inl q)⟩
  subst henv
  refine ⟨noLim.keeps x1.toInCall.keep, codeAny_func ?_⟩
  have C : Cxt w k (cxOf CX P W w.K mg base N qual (defScope st) f cdv A outer s H E).nox := ⟨rfl, hW, rfl, room.deeper _, grd, PassesOwn.never⟩
  have I : Inv (cxOf CX P W w.K mg base N qual (defScope st) f cdv A outer s H E) [] (start N vs) H s1 := inv_start sc room.hd e0 len rv x1
  obtain ⟨M, rho, as, h, ra, hr, o⟩ := sp
  have er : ER w M rho H (as.map some ++ List.replicate (N.length - as.length) none) (start N vs) := start_er N.length ra
  have red : tS w (ex E) b { nx := fun _ H' => Q .non H', rt := Q } (start N vs) H := by
    refine ⟨M, rho, _, h, er, hr, (Out.bind o).imp fun fl h1 M1 rho1 H1 st1 hr1 o1 => ?_⟩
    cases fl with
    | nx e => exact fun s1 _ => (show Out w (ex E) M1 rho1 H1 (.ok .non h1) (KV w Q) from o1).now hr1 _ .non
    | rt v => exact (show Out w (ex E) M1 rho1 H1 (.ok v h1) (KV w Q) from o1).now hr1
    | bk e => exact (show False from o1).elim
    | ct e => exact (show False from o1).elim
  refine wpAny_mono ((hb cdv A outer s H E C).nox.run [] s1 (start N vs) H _ I red) (fun fl s' q => ?_) fun e s' q => q
  cases fl with
  | ret u => obtain ⟨v, σ', H', J, r, q⟩ := q; exact ⟨v, H', J.os, J.bare, J.base, J.hok, r, q⟩
  | next => obtain ⟨σ', H', J, q⟩ := q; exact ⟨.non, H', J.os, J.bare, J.base, J.hok, rfl, q⟩
  | brk => obtain ⟨_, _, _, q⟩ := q; exact (show False from q).elim
  | cont => obtain ⟨_, _, _, q⟩ := q; exact (show False from q).elim
end

end MC

end
section
set_option maxRecDepth 100000
set_option maxHeartbeats 4000000
namespace MC
open PySem PySem.Spec PyProof.Rows L2

/-- arguments by place: the positional ones, then the keywords' values, then the defaults -/
def gI {α : Type} (ix : List Nat) (l : List α) : List α := ix.filterMap fun i => l[i]?
/-- how a call binds -/
structure Bd (K : PySem.W.Frag) (fd : FuncData) (ps ks : List Str) (n : Nat) (ds : List Value) (ix : List Nat) : Prop where
  to : ∀ (s : Shared) (us ws : List Value), K.In s.heap → us.length = n → ws.length = ks.length → BindsTo s fd ⟨us, ks.zip ws⟩ (ps.zip (gI ix (us ++ ws ++ ds)))
  len : ix.length = ps.length
  lo : ∀ i ∈ ix, i < n + ks.length + ds.length
theorem gI_len {α : Type} : ∀ {ix : List Nat} {l : List α}, (∀ i ∈ ix, i < l.length) → (gI ix l).length = ix.length
  | [], _, _ => rfl
  | i :: r, l, h => by
    have h1 := h i List.mem_cons_self
    unfold gI
    rw [List.filterMap_cons, List.getElem?_eq_getElem h1]
    have := gI_len (ix := r) (l := l) fun j hj => h j (List.mem_cons_of_mem _ hj)
    unfold gI at this
    simp only [List.length_cons, this]
theorem gI_vals {xs : List V} {us : List Value} (r : Vals xs us) : ∀ ix : List Nat, Vals (gI ix xs) (gI ix us)
  | [] => .nil
  | i :: ix => by
    have ih := gI_vals r ix
    unfold gI at ih ⊢
    rw [List.filterMap_cons, List.filterMap_cons]
    cases e : xs[i]? with
    | none => rw [r.none_of e]; exact ih
    | some x =>
      obtain ⟨u, e2, q⟩ := r.get e
      rw [e2]
      exact .cons q ih
section
variable {w : Wo} {EX : XC} {M : Addr → Prop} {rho : List Addr} {H : Hp} {h : PH}
theorem VRs.noneOf {xs : List PV} {vs : List V} (r : VRs w M rho H xs vs) {i : Nat} (e : xs[i]? = none) : vs[i]? = none := by
  have := r.length
  rw [List.getElem?_eq_none_iff] at e ⊢
  omega
theorem VRs.gI {xs : List PV} {vs : List V} (r : VRs w M rho H xs vs) : ∀ ix : List Nat, VRs w M rho H (gI ix xs) (gI ix vs)
  | [] => .nil
  | i :: ix => by
    have ih := VRs.gI r ix
    unfold MC.gI at ih ⊢
    rw [List.filterMap_cons, List.filterMap_cons]
    cases e : xs[i]? with
    | none => rw [r.noneOf e]; exact ih
    | some x =>
      obtain ⟨u, e2, q⟩ := r.get e
      rw [e2]
      exact .cons q ih
end

/-- a value that can be called: n values by place, ks by name -/
structure Clb (X : Cx) (w : Wo) (EX : XC) (u : Value) (n : Nat) (ks : List Str) (op : PH → List PV → R PV) : Prop where
  kp : PySem.W.keepIn X.K u = true
  run : ∀ {pins : List (Addr × Obj)} {σ : L2.St} {H : Hp} {s : Shared} {Q : VK} {us ws : List Value} {vs zs : List V} {M : Addr → Prop} {rho : List Addr} {h : PH} {xs ys : List PV}, Inv X pins σ H s → Vals vs us → Vals zs ws → us.length = n → ws.length = ks.length →
    HR w M rho H h → VRs w M rho H xs vs → VRs w M rho H ys zs → Out w EX M rho H (op h (xs ++ ys)) (KV w Q) → wpAny (model X.prog X.w) X.A (call u us (ks.zip ws)) (EP X pins σ Q) X.xe s

section
variable {w : Wo} {EX : XC} {X : Cx} {k j : Nat} {CX : CXT} {ex : XK → XC} {f : Addr} {fd : FuncData} {ps ks : List Str} {m : MF} {E : XK} {p pos apos : Pos} {z : Str}
  {ds : List Value} {dv : List V} {dp : List PV} {n : Nat} {ix : List Nat}
/-- a def -/
theorem clb_fn (C : Cxt w k X) (F : FnM X.prog X.w w X.mg X.base CX ex k f fd ps m) (hx : Passes CX X E) (hk : PySem.W.keepIn w.K (.ref f) = true) (B : Bd w.K fd ps ks n ds ix) (hd : Vals dv ds) (hp : ∀ M rho H, VRs w M rho H dp dv) {tb : PH → List Nat → PV → PH → R PV} (T : TbOk w EX tb) :
    Clb X w EX (.ref f) n ks fun h xs => callG tb m (gI ix (xs ++ dp)) h := by
  refine ⟨by rw [C.hK]; exact hk, ?_⟩
  intro pins σ H s Q us ws vs zs M rho h xs ys I r rz lu lw hr rx ry o
  have rA : Vals (vs ++ zs ++ dv) (us ++ ws ++ ds) := (r.append rz).append hd
  have rP : VRs w M rho H (xs ++ ys ++ dp) (vs ++ zs ++ dv) := (rx.append ry).append (hp M rho H)
  have hlen : (gI ix (us ++ ws ++ ds)).length = ps.length := by
    rw [gI_len, B.len]
    intro i hi
    have := B.lo i hi
    simp only [List.length_append]; omega
  have r2 := gI_vals rA ix
  have e0 : Env0 X.prog X.w w.K X.mg X.base X.A X.stack s H := by rw [← C.hK]; exact I.env0
  obtain ⟨rho', as, hc, r3, hr3, o3⟩ := callG_ok (EX2 := ex E) T hr (rP.gI ix) o
  refine wpAny_call (codeAny_mono (F.run X.A X.stack s H ⟨us, ks.zip ws⟩ (gI ix (us ++ ws ++ ds)) (gI ix (vs ++ zs ++ dv)) Q E C.room C.grd e0 (B.to s us ws (by rw [← C.hK]; exact I.kIn) lu lw) r2 (by rw [r2.length]; exact hlen)
    ⟨M, rho', as, hc, r3, hr3, o3.imp fun v g M1 rho1 H1 st1 hr1 q V rv => ?_⟩) fun rs s' q => ?_)
  · obtain ⟨M2, rho2, u, h2, _, _, ru, kq⟩ := q V rv
    exact kq V ru
  · cases rs with
    | error e => exact hx pins σ H s e s' I q
    | ok fl =>
      cases fl with
      | ret u => exact I.after q
      | next => exact (show False from q).elim
      | brk => exact (show False from q).elim
      | cont => exact (show False from q).elim

/-- what the maker's outcome is: __init__ gives None back, the instance is the answer -/
def initM (c : Nat) (m : MF) (ix : List Nat) (dp : List PV) : MF := fun xs h => (m (gI ix (.ref h.length :: xs ++ dp)) (h ++ [.ins c []])).bind fun v g => match v with
  | .non => .ok (.ref h.length) g
  | _ => .stuck
/-- a class -/
theorem FnM.mono {P : Program} {W : World} {mg : Str → Option Value} {base : Heap} {i j : Nat} (F : FnM P W w mg base CX ex i f fd ps m) (h : i ≤ j) : FnM P W w mg base CX ex j f fd ps m :=
  ⟨fun A outer s H args us vs Q E r => F.run A outer s H args us vs Q E (r.mono h)⟩
theorem clb_cls (c : Nat) {A : Addr} (hA : w.cl c = some A) (C : Cxt w (k + 1) X) (mk : Mk w.K A f) (F : FnM X.prog X.w w X.mg X.base CX ex k f fd ps m) (hx : Passes CX X E) (B : Bd w.K fd ps ks (n + 1) ds ix) (hd : Vals dv ds) (hp : ∀ M rho H, VRs w M rho H dp dv)
    {tb : PH → List Nat → PV → PH → R PV} (T : TbOk w EX tb) : Clb X w EX (.ref A) n ks fun h xs => callG tb (initM c m ix dp) xs h := by
  refine ⟨by rw [C.hK]; exact mk.kp, ?_⟩
  intro pins σ H s Q us ws vs zs M rho h xs ys I r rz lu lw hr rx ry o
  obtain ⟨rho', as, hc, r3, hr3, o3⟩ := callG_ok (EX2 := ex E) T hr (rx.append ry) o
  have I2 := Inv.made (C := A) I
  have hx0 : H (s.heap.objs.size + 1) = none := I.hok.fresh (Nat.le_succ _)
  have hd0 : H s.heap.objs.size = none := I.hok.fresh (Nat.le_refl _)
  have hne : s.heap.objs.size ≠ s.heap.objs.size + 1 := Nat.ne_of_lt (Nat.lt_succ_self _)
  have hx1 : upd H s.heap.objs.size (.own (s.heap.objs.size + 1)) (s.heap.objs.size + 1) = none := by rw [upd_ne (Ne.symm hne)]; exact hx0
  have stA : Step M rho' H M rho' (upd H s.heap.objs.size (.own (s.heap.objs.size + 1))) := Step.grow (same_upd hd0)
  have hrA := hr3.grow (same_upd (o := .own (s.heap.objs.size + 1)) hd0)
  have stB : Step M rho' (upd H s.heap.objs.size (.own (s.heap.objs.size + 1))) (fun b => M b ∨ b = (s.heap.objs.size + 1)) (rho' ++ [(s.heap.objs.size + 1)]) (upd (upd H s.heap.objs.size (.own (s.heap.objs.size + 1))) (s.heap.objs.size + 1) (.ins A s.heap.objs.size [])) := Step.alloc hx1
  have hrB := hrA.alloc (o := .ins A s.heap.objs.size []) hx1 (po := .ins c []) ⟨A, s.heap.objs.size, [], hA, upd_same, .nil⟩
  have st2 := stA.trans stB
  have r4 := r3.step st2 hr3
  have hself : VR w (fun b => M b ∨ b = (s.heap.objs.size + 1)) (rho' ++ [(s.heap.objs.size + 1)]) (upd (upd H s.heap.objs.size (.own (s.heap.objs.size + 1))) (s.heap.objs.size + 1) (.ins A s.heap.objs.size [])) (.ref hc.length) (.ref (s.heap.objs.size + 1)) := by
    refine .ref ?_
    rw [List.getElem?_append_right (by rw [hr3.len]; exact Nat.le_refl _), hr3.len, Nat.sub_self]
    rfl
  have rP : VRs w _ _ _ (PV.ref hc.length :: as ++ dp) (V.ref (s.heap.objs.size + 1) :: (vs ++ zs) ++ dv) := (VRs.cons hself r4).append (hp _ _ _)
  have rA : Vals (V.ref (s.heap.objs.size + 1) :: (vs ++ zs) ++ dv) (Value.ref (s.heap.objs.size + 1) :: (us ++ ws) ++ ds) := (show Vals (V.ref (s.heap.objs.size + 1) :: (vs ++ zs)) (Value.ref (s.heap.objs.size + 1) :: (us ++ ws)) from .cons (show RelV (V.ref (s.heap.objs.size + 1)) (Value.ref (s.heap.objs.size + 1)) from rfl) (r.append rz)).append hd
  have eq1 : (Value.ref (s.heap.objs.size + 1) :: us) ++ ws ++ ds = Value.ref (s.heap.objs.size + 1) :: (us ++ ws) ++ ds := rfl
  have hlen : (gI ix (Value.ref (s.heap.objs.size + 1) :: (us ++ ws) ++ ds)).length = ps.length := by
    rw [gI_len, B.len]
    intro i hi
    have := B.lo i hi
    simp only [List.length_append, List.length_cons]; omega
  have rG := gI_vals rA ix
  have eE := I2.env0.make A us (ks.zip ws)
  rw [C.hK] at eE
  refine wpAny_call (make_map (f := f) (vs := us) (kw := ks.zip ws) I.kIn (by rw [C.hK]; exact mk.makes) (by rw [C.hK]; exact mk.init) (by rw [C.hK]; exact beq_iff_eq.mp mk.fn) (codeAny_mono (F.run _ X.stack _ _ ⟨Value.ref (s.heap.objs.size + 1) :: us, ks.zip ws⟩
    (gI ix (Value.ref (s.heap.objs.size + 1) :: (us ++ ws) ++ ds)) (gI ix (V.ref (s.heap.objs.size + 1) :: (vs ++ zs) ++ dv)) (fun v H2 => v = .non ∧ Q (.ref (s.heap.objs.size + 1)) H2) E (C.room.make A us (ks.zip ws)) C.grd
    eE (by rw [← eq1]; exact B.to _ _ _ (by rw [← C.hK]; exact I2.kIn) (by rw [List.length_cons, lu]) lw) rG (by rw [rG.length]; exact hlen)
    ⟨_, _, _, _, rP.gI ix, hrB, ?_⟩) fun rs s' q => ?_))
  · refine ((Out.bind o3).step st2).imp fun v g M1 rho1 H1 st1 hr1 q V rv => ?_
    cases rv <;> try exact (show False from q).elim
    refine ⟨rfl, ?_⟩
    have q2 := (show Out w (ex E) M1 rho1 H1 (.ok (PV.ref hc.length) g) _ from q).now hr1
    obtain ⟨M2, rho2, u, h2, _, _, ru, kq⟩ := q2 (V.ref (s.heap.objs.size + 1)) (hself.step st1 hrB)
    exact kq _ ru
  · cases rs with
    | error e => exact hx pins σ _ _ e s' I2 q
    | ok fl =>
      cases fl with
      | ret u =>
        obtain ⟨v, H', I3, rv, ev, q3⟩ := I2.after q
        subst ev
        exact ⟨rv, ⟨V.ref (s.heap.objs.size + 1), H', I3, rfl, q3⟩⟩
      | next => exact (show False from q).elim
      | brk => exact (show False from q).elim
      | cont => exact (show False from q).elim
end
end MC

end
section
set_option maxRecDepth 100000
set_option maxHeartbeats 4000000
namespace MC
open PySem PySem.Spec PyProof.Rows L2

abbrev OC := PH → List PV → R PV
def mCl (op : OC) (n j : Nat) (ma mk : MA) : ME := fun env h => (ma env h).bind fun xs h1 => (mk env h1).bind fun ys h2 => bif xs.length == n && ys.length == j then op h2 (xs ++ ys) else .stuck
def mCl0 (op : OC) (n : Nat) (ma : MA) : ME := fun env h => (ma env h).bind fun xs h1 => bif xs.length == n then op h1 xs else .stuck
def mBt (op : OC) (ma : MA) : ME := fun env h => (ma env h).bind fun xs h1 => op h1 xs
section
variable {w : Wo} {EX : XC} {X : Cx} {k n : Nat} {u : Value} {ks : List Str} {op : OC} {x m : Str} {p pos apos kpos : Pos} {e o : Expr} {es : List Expr} {kws : List Keyword} {ma mk : MA} {me : ME} {nm : Option Str}
theorem PK.imp {t t' : TA} (p : PK X kws t) (i : ∀ σ H Q, t' σ H Q → t σ H Q) : PK X kws t' := ⟨fun ps pins s σ H Q I h => p.run ps pins s σ H Q I (i σ H Q h)⟩
theorem mk_nil : PK X [] (tA w EX maNil) := by
  refine PK.imp pk_nil fun σ H Q h => ?_
  obtain ⟨M, rho, env, hh, er, hr, o⟩ := h
  exact o.now hr [] .nil
theorem mk_cons (ha : PE X e (tM w EX me)) (hb : PK X kws (tA w EX mk)) : PK X (⟨nm, e, kpos⟩ :: kws) (tA w EX (maCons me mk)) := by
  refine PK.imp (pk_cons ha hb) fun σ H Q h => ?_
  obtain ⟨M, rho, env, hh, er, hr, o⟩ := h
  refine tM.of er hr o.bind fun x h1 M1 rho1 H1 v st1 er1 hr1 o1 rv => ?_
  refine ⟨M1, rho1, env, h1, er1, hr1, (Out.bind o1).imp fun ys h2 M2 rho2 H2 st2 hr2 o2 us rs => ?_⟩
  exact o2.now hr2 (v :: us) (.cons (rv.step st2 hr1) rs)

/-- the callee's reading behind the arguments -/
theorem clb_at (B : Clb X w EX u n ks op) {pins : List (Addr × Obj)} {σ : L2.St} {H : Hp} {s : Shared} {Q : VK} {us : List Value} {vs : List V} {M : Addr → Prop} {rho : List Addr} {h : PH} {xs : List PV} (hks : ks = []) (I : Inv X pins σ H s) (r : Vals vs us)
    (hr : HR w M rho H h) (rx : VRs w M rho H xs vs) (o : Out w EX M rho H (bif xs.length == n then op h xs else .stuck) (KV w Q)) : wpAny (model X.prog X.w) X.A (call u us) (EP X pins σ Q) X.xe s := by
  subst hks
  obtain ⟨hl, o⟩ := Out.bif o
  have hl := beq_iff_eq.mp hl
  have := B.run (ws := []) (zs := []) (ys := []) I r .nil (by rw [← r.length, rx.length]; exact hl) rfl hr rx .nil (by rw [List.append_nil]; exact o)
  exact this
/-- f(e, ..) -/
theorem me_call (B : Clb X w EX u n [] op) (hg : Gl X x) (hm : X.mg x = some u) (ha : PA X (e :: es) (tA w EX ma)) (hdb : (x == ("__debug__" : Str)) = false := by decide)
    (he : starEach (e :: es) X.env = (false, eval e X.env) :: starEach es X.env := by rfl) (hpl : (backTo pos (starEach es X.env)).any (·.1) = false := by rfl) : PE X (.Call (.Name x p) (e :: es) [] pos) (tM w EX (mCl0 op n ma)) := by
  refine ⟨fun pins s σ H Q I h => ?_⟩
  refine wpAny_Call_Name_kw (ld_glob I hg hm ?_ hdb)
  obtain ⟨M, rho, env, hh, er, hr, o⟩ := h
  refine PySem.W.callWith_K (h₀ := X.base) I.ok.mod.kin B.kp (thn (ha.run pos pins s σ H _ I (tA.of er hr (Out.bind o) fun xs h1 M1 rho1 H1 vs st1 er1 hr1 o1 rs => (⟨M1, rho1, h1, xs, hr1, rs, o1⟩ : ∃ M1 rho1 h1 xs, HR w M1 rho1 H1 h1 ∧ VRs w M1 rho1 H1 xs vs ∧ Out w EX M1 rho1 H1 (bif xs.length == n then op h1 xs else .stuck) (KV w Q)))) fun us s1 ⟨vs, H1, I1, r, q⟩ => ⟨I1.kIn, ?_⟩) he hpl
  obtain ⟨M1, rho1, h1, xs, hr1, rs, o1⟩ := q
  exact clb_at B rfl I1 r hr1 rs o1
theorem clb_kw (B : Clb X w EX u n ks op) {pins : List (Addr × Obj)} {σ : L2.St} {H : Hp} {s : Shared} {Q : VK} {us ws : List Value} {vs zs : List V} {M : Addr → Prop} {rho : List Addr} {h : PH} {xs ys : List PV} (I : Inv X pins σ H s) (r : Vals vs us) (rz : Vals zs ws)
    (hr : HR w M rho H h) (rx : VRs w M rho H xs vs) (ry : VRs w M rho H ys zs) (o : Out w EX M rho H (bif xs.length == n && ys.length == ks.length then op h (xs ++ ys) else .stuck) (KV w Q)) : wpAny (model X.prog X.w) X.A (call u us (ks.zip ws)) (EP X pins σ Q) X.xe s := by
  obtain ⟨hl, o⟩ := Out.bif o
  rw [Bool.and_eq_true] at hl
  exact B.run I r rz (by rw [← r.length, rx.length]; exact beq_iff_eq.mp hl.1) (by rw [← rz.length, ry.length]; exact beq_iff_eq.mp hl.2) hr rx ry o
/-- f(k = v, ..) -/
theorem me_callK0 (B : Clb X w EX u 0 ks op) (hg : Gl X x) (hm : X.mg x = some u) (hkw : PK X kws (tA w EX mk)) (j : Nat) (hj : ks.length = j := by rfl) (hall : (backToKw pos (keywordEach kws X.env)).all (·.1.isSome) = true := by rfl) (hks : (backToKw pos (keywordEach kws X.env)).filterMap (·.1) = ks := by rfl)
    (hdb : (x == ("__debug__" : Str)) = false := by decide)
    (hpl : ((backTo pos (starEach [] X.env)).any (·.1) || (backToKw pos (keywordEach kws X.env)).any (·.1.isNone)) = false := by rfl) : PE X (.Call (.Name x p) [] kws pos) (tM w EX (mCl op 0 j maNil mk)) := by
  subst hj
  refine ⟨fun pins s σ H Q I h => ?_⟩
  refine wpAny_Call_Name_kw (ld_glob I hg hm ?_ hdb)
  obtain ⟨M, rho, env, hh, er, hr, o⟩ := h
  have o1 : Out w EX M rho H ((mk env hh).bind fun ys h2 => bif ([] : List PV).length == 0 && ys.length == ks.length then op h2 ([] ++ ys) else .stuck) (KV w Q) := o
  refine PySem.W.callWith_KW0 (h₀ := X.base) (first := []) I.ok.mod.kin B.kp hall (thn (hkw.run pos pins s σ H _ I (tA.of er hr (Out.bind o1) fun ys h2 M2 rho2 H2 zs st2 er2 hr2 o2 ry =>
    (⟨M2, rho2, h2, ys, hr2, ry, o2⟩ : ∃ M2 rho2 h2 ys, HR w M2 rho2 H2 h2 ∧ VRs w M2 rho2 H2 ys zs ∧ Out w EX M2 rho2 H2 (bif ([] : List PV).length == 0 && ys.length == ks.length then op h2 ([] ++ ys) else .stuck) (KV w Q)))) fun ws s2 ⟨zs, H2, I2, rz, q2⟩ => ⟨I2.kIn, ?_⟩) hpl
  rw [hks]
  obtain ⟨M2, rho2, h2, ys, hr2, ry2, o2⟩ := q2
  exact clb_kw (us := []) (vs := []) B I2 .nil rz hr2 .nil ry2 o2
/-- b(e, ..), b a builtin -/
theorem me_blt {id : String} (hc : CallR X (.builtin id) (rA w EX op)) (hg : Gl X x) (hm : X.mg x = none) (hv : bootBuiltins x = some (.builtin id)) (ha : PA X (e :: es) (tA w EX ma)) (hn : x ≠ "__name__" := by decide) (hdb : (x == ("__debug__" : Str)) = false := by decide)
    (he : starEach (e :: es) X.env = (false, eval e X.env) :: starEach es X.env := by rfl) (hpl : (backTo pos (starEach es X.env)).any (·.1) = false := by rfl) : PE X (.Call (.Name x p) (e :: es) [] pos) (tM w EX (mBt op ma)) := by
  refine PE.imp (pe_callB hc hg hm hv ha hn hdb he hpl) fun σ H Q h => ?_
  obtain ⟨M, rho, env, hh, er, hr, o⟩ := h
  exact tA.of er hr (Out.bind o) fun xs h1 M1 rho1 H1 vs st1 er1 hr1 o1 rs => ⟨M1, rho1, h1, xs, hr1, rs, o1⟩
/-- T(e, ..), T a builtin type -/
theorem me_ty {T : String} (hc : CallR X (.type T) (rA w EX op)) (hg : Gl X x) (hm : X.mg x = none) (hv : bootBuiltins x = some (.type T)) (ha : PA X (e :: es) (tA w EX ma)) (hn : x ≠ "__name__" := by decide) (hdb : (x == ("__debug__" : Str)) = false := by decide)
    (he : starEach (e :: es) X.env = (false, eval e X.env) :: starEach es X.env := by rfl) (hpl : (backTo pos (starEach es X.env)).any (·.1) = false := by rfl) : PE X (.Call (.Name x p) (e :: es) [] pos) (tM w EX (mBt op ma)) := by
  refine PE.imp (pe_callTy hc hg hm hv ha hn hdb he hpl) fun σ H Q h => ?_
  obtain ⟨M, rho, env, hh, er, hr, o⟩ := h
  exact tA.of er hr (Out.bind o) fun xs h1 M1 rho1 H1 vs st1 er1 hr1 o1 rs => ⟨M1, rho1, h1, xs, hr1, rs, o1⟩
end

section
variable {w : Wo} {EX : XC} {X : Cx} {k n c : Nat} {f A : Addr} {op : OC} {m : Nm} {pos apos : Pos} {e o : Expr} {es : List Expr} {ma : MA} {mo : ME} {pl : Sem Bool}
end
end MC

end
section
set_option maxRecDepth 100000
set_option maxHeartbeats 4000000
namespace MC
open PySem PySem.Spec PyProof.Rows L2

mutual
def beqV : PV → PV → Bool
  | .non, .non => true
  | .bl a, .bl b => a == b
  | .int a, .int b => a == b
  | .str a, .str b => a == b
  | .tup a, .tup b => beqVs a b
  | .scr a, .scr b => beqVs a b
  | .rdic a, .rdic b => beqK a b
  | .ins c a, .ins d b => c == d && beqF a b
  | .ref a, .ref b => a == b
  | .gl a, .gl b => a == b
  | _, _ => false
def beqVs : List PV → List PV → Bool
  | [], [] => true
  | x :: xs, y :: ys => beqV x y && beqVs xs ys
  | _, _ => false
def beqK : List (PV × PV) → List (PV × PV) → Bool
  | [], [] => true
  | (a, x) :: xs, (b, y) :: ys => beqV a b && (beqV x y && beqK xs ys)
  | _, _ => false
def beqF : List (Nm × PV) → List (Nm × PV) → Bool
  | [], [] => true
  | (a, x) :: xs, (b, y) :: ys => a == b && (beqV x y && beqF xs ys)
  | _, _ => false
end
mutual
theorem beqV_rf : ∀ x : PV, beqV x x = true
  | .non => by unfold beqV; rfl
  | .bl b => by unfold beqV; simp
  | .int i => by unfold beqV; simp
  | .str s => by unfold beqV; simp
  | .tup xs => by unfold beqV; exact beqVs_rf xs
  | .scr xs => by unfold beqV; exact beqVs_rf xs
  | .rdic xs => by unfold beqV; exact beqK_rf xs
  | .ins c fs => by unfold beqV; simp [beqF_rf fs]
  | .ref n => by unfold beqV; simp
  | .gl n => by unfold beqV; simp
theorem beqVs_rf : ∀ x : List PV, beqVs x x = true
  | [] => by unfold beqVs; rfl
  | x :: xs => by unfold beqVs; simp [beqV_rf x, beqVs_rf xs]
theorem beqK_rf : ∀ x : List (PV × PV), beqK x x = true
  | [] => by unfold beqK; rfl
  | (a, x) :: xs => by unfold beqK; simp [beqV_rf a, beqV_rf x, beqK_rf xs]
theorem beqF_rf : ∀ x : List (Nm × PV), beqF x x = true
  | [] => by unfold beqF; rfl
  | (a, x) :: xs => by unfold beqF; simp [beqV_rf x, beqF_rf xs]
end
mutual
theorem beqV_ok : ∀ {x y : PV}, beqV x y = true → x = y
  | .non, .non, _ => rfl
  | .bl a, .bl b, h => by unfold beqV at h; rw [beq_iff_eq.mp h]
  | .int a, .int b, h => by unfold beqV at h; rw [beq_iff_eq.mp h]
  | .str a, .str b, h => by unfold beqV at h; rw [beq_iff_eq.mp h]
  | .tup a, .tup b, h => by unfold beqV at h; rw [beqVs_ok h]
  | .scr a, .scr b, h => by unfold beqV at h; rw [beqVs_ok h]
  | .rdic a, .rdic b, h => by unfold beqV at h; rw [beqK_ok h]
  | .ins c a, .ins d b, h => by unfold beqV at h; rw [Bool.and_eq_true] at h; rw [beq_iff_eq.mp h.1, beqF_ok h.2]
  | .ref a, .ref b, h => by unfold beqV at h; rw [beq_iff_eq.mp h]
  | .gl a, .gl b, h => by unfold beqV at h; rw [beq_iff_eq.mp h]
  | .non, .bl _, h | .non, .int _, h | .non, .str _, h | .non, .tup _, h | .non, .scr _, h | .non, .rdic _, h | .non, .ins _ _, h | .non, .ref _, h | .non, .gl _, h => by unfold beqV at h; cases h
  | .bl _, .non, h | .bl _, .int _, h | .bl _, .str _, h | .bl _, .tup _, h | .bl _, .scr _, h | .bl _, .rdic _, h | .bl _, .ins _ _, h | .bl _, .ref _, h | .bl _, .gl _, h => by unfold beqV at h; cases h
  | .int _, .non, h | .int _, .bl _, h | .int _, .str _, h | .int _, .tup _, h | .int _, .scr _, h | .int _, .rdic _, h | .int _, .ins _ _, h | .int _, .ref _, h | .int _, .gl _, h => by unfold beqV at h; cases h
  | .str _, .non, h | .str _, .bl _, h | .str _, .int _, h | .str _, .tup _, h | .str _, .scr _, h | .str _, .rdic _, h | .str _, .ins _ _, h | .str _, .ref _, h | .str _, .gl _, h => by unfold beqV at h; cases h
  | .tup _, .non, h | .tup _, .bl _, h | .tup _, .int _, h | .tup _, .str _, h | .tup _, .scr _, h | .tup _, .rdic _, h | .tup _, .ins _ _, h | .tup _, .ref _, h | .tup _, .gl _, h => by unfold beqV at h; cases h
  | .scr _, .non, h | .scr _, .bl _, h | .scr _, .int _, h | .scr _, .str _, h | .scr _, .tup _, h | .scr _, .rdic _, h | .scr _, .ins _ _, h | .scr _, .ref _, h | .scr _, .gl _, h => by unfold beqV at h; cases h
  | .rdic _, .non, h | .rdic _, .bl _, h | .rdic _, .int _, h | .rdic _, .str _, h | .rdic _, .tup _, h | .rdic _, .scr _, h | .rdic _, .ins _ _, h | .rdic _, .ref _, h | .rdic _, .gl _, h => by unfold beqV at h; cases h
  | .ins _ _, .non, h | .ins _ _, .bl _, h | .ins _ _, .int _, h | .ins _ _, .str _, h | .ins _ _, .tup _, h | .ins _ _, .scr _, h | .ins _ _, .rdic _, h | .ins _ _, .ref _, h | .ins _ _, .gl _, h => by unfold beqV at h; cases h
  | .ref _, .non, h | .ref _, .bl _, h | .ref _, .int _, h | .ref _, .str _, h | .ref _, .tup _, h | .ref _, .scr _, h | .ref _, .rdic _, h | .ref _, .ins _ _, h | .ref _, .gl _, h => by unfold beqV at h; cases h
  | .gl _, .non, h | .gl _, .bl _, h | .gl _, .int _, h | .gl _, .str _, h | .gl _, .tup _, h | .gl _, .scr _, h | .gl _, .rdic _, h | .gl _, .ins _ _, h | .gl _, .ref _, h => by unfold beqV at h; cases h
theorem beqVs_ok : ∀ {x y : List PV}, beqVs x y = true → x = y
  | [], [], _ => rfl
  | x :: xs, y :: ys, h => by unfold beqVs at h; rw [Bool.and_eq_true] at h; rw [beqV_ok h.1, beqVs_ok h.2]
  | [], _ :: _, h | _ :: _, [], h => by unfold beqVs at h; cases h
theorem beqK_ok : ∀ {x y : List (PV × PV)}, beqK x y = true → x = y
  | [], [], _ => rfl
  | (a, x) :: xs, (b, y) :: ys, h => by unfold beqK at h; rw [Bool.and_eq_true, Bool.and_eq_true] at h; rw [beqV_ok h.1, beqV_ok h.2.1, beqK_ok h.2.2]
  | [], _ :: _, h | _ :: _, [], h => by unfold beqK at h; cases h
theorem beqF_ok : ∀ {x y : List (Nm × PV)}, beqF x y = true → x = y
  | [], [], _ => rfl
  | (a, x) :: xs, (b, y) :: ys, h => by unfold beqF at h; rw [Bool.and_eq_true, Bool.and_eq_true] at h; rw [beq_iff_eq.mp h.1, beqV_ok h.2.1, beqF_ok h.2.2]
  | [], _ :: _, h | _ :: _, [], h => by unfold beqF at h; cases h
end

/-- objects that must stand as they stood -/
abbrev Wt := List (Nat × List PV)
def watch : Wt → PH → Bool
  | [], _ => true
  | (n, xs) :: r, h => (match h[n]? with
    | some (.lst ys) => beqVs xs ys
    | _ => false) && watch r h
structure Gives (w : Wo) (M : Addr → Prop) (rho : List Addr) (H : Hp) (xs : List PV) (wt : Wt) (J : It) : Prop where
  to : ∀ {M1 : Addr → Prop} {rho1 : List Addr} {H1 : Hp} {h1 : PH}, Step M rho H M1 rho1 H1 → HR w M1 rho1 H1 h1 → watch wt h1 = true → ∀ i,
    (i < xs.length → J.go i H1) ∧ (i = xs.length → J.stop i H1) ∧ ∀ v H', i < xs.length → J.yld i H1 v H' → (∀ b o, H1 b = some o → H' b = some o) ∧ ∃ x, xs[i]? = some x ∧ VR w M1 rho1 H' x v
abbrev MI := En → PH → R (List PV × Wt)
def KI (w : Wo) (Q : It → Hp → Prop) : KC (List PV × Wt) := fun p _ M rho H => ∀ J, Gives w M rho H p.1 p.2 J → Q J H
def tI (w : Wo) (EX : XC) (m : MI) : TI := fun σ H Q => ∃ M rho env h, ER w M rho H env σ ∧ HR w M rho H h ∧ Out w EX M rho H (m env h) (KI w Q)
theorem PI.imp {X : Cx} {tg e : Expr} {t t' : TI} (p : PI X tg e t) (i : ∀ σ H Q, t' σ H Q → t σ H Q) : PI X tg e t' := ⟨fun pins s σ H Q I h => p.run pins s σ H Q I (i σ H Q h)⟩

section
variable {w : Wo} {M M1 : Addr → Prop} {rho rho1 : List Addr} {H H1 : Hp} {h h1 : PH}
theorem gives_list {xs : List PV} {a : Addr} (hs : ∀ {M1 : Addr → Prop} {rho1 : List Addr} {H1 : Hp} {h1 : PH}, Step M rho H M1 rho1 H1 → HR w M1 rho1 H1 h1 → watch wt h1 = true → ∃ vs, SqL w.K H1 a vs ∧ VRs w M1 rho1 H1 xs vs) : Gives w M rho H xs wt (Itl w.K a) := by
  refine ⟨fun {M1 rho1 H1 h1} st hr hw i => ?_⟩
  obtain ⟨vs, q, rv⟩ := hs st hr hw
  have W := walk_list (K := w.K) (a := a) (xs := vs)
  rw [rv.length] at W
  refine ⟨fun hi => W.goes i H1 hi q, fun hi => by subst hi; exact W.stops H1 q, fun v H' hi y => ?_⟩
  obtain ⟨e, ey⟩ := W.yields i H1 v H' hi q y
  subst e
  obtain ⟨x, hx⟩ : ∃ x, xs[i]? = some x := ⟨_, List.getElem?_eq_getElem hi⟩
  obtain ⟨v', e1, r1⟩ := rv.get hx
  rw [ey] at e1
  cases e1
  exact ⟨fun _ _ e => e, x, hx, r1⟩
theorem gives_tup {xs : List PV} {a : Addr} {vs : List V} (hr0 : HR w M rho H h) (q : SqT w.K H a vs) (rv : VRs w M rho H xs vs) : Gives w M rho H xs [] (Itt w.K a) := by
  refine ⟨fun {M1 rho1 H1 h1} st hr hw i => ?_⟩
  have q := st.sqT hr0 q
  have rv := rv.step st hr0
  have W := walk_tup (K := w.K) (a := a) (xs := vs)
  rw [rv.length] at W
  refine ⟨fun hi => W.goes i H1 hi q, fun hi => by subst hi; exact W.stops H1 q, fun v H' hi y => ?_⟩
  obtain ⟨e, ey⟩ := W.yields i H1 v H' hi q y
  subst e
  obtain ⟨x, hx⟩ : ∃ x, xs[i]? = some x := ⟨_, List.getElem?_eq_getElem hi⟩
  obtain ⟨v', e1, r1⟩ := rv.get hx
  rw [ey] at e1
  cases e1
  exact ⟨fun _ _ e => e, x, hx, r1⟩
def signsOf (s : List Nat) : List PV := s.map fun c => .str [c]
theorem gives_str (s : List Nat) : Gives w M rho H (signsOf s) [] (Its ⟨s.toArray⟩) := by
  refine ⟨fun {M1 rho1 H1 h1} st hr hw i => ?_⟩
  have W := walk_str (z := ⟨s.toArray⟩)
  have e0 : (signsOf s).length = s.length := by unfold signsOf; rw [List.length_map]
  have e1 : (⟨s.toArray⟩ : Str).cps.size = s.length := by simp
  rw [e1] at W
  rw [e0]
  refine ⟨fun hi => W.goes i H1 hi True.intro, fun hi => by subst hi; exact W.stops H1 True.intro, fun v H' hi y => ?_⟩
  obtain ⟨e, c, ey, ev⟩ := W.yields i H1 v H' hi True.intro y
  subst e; subst ev
  have ey : s[i]? = some c := by simpa using ey
  refine ⟨fun _ _ e => e, .str [c], by unfold signsOf; rw [List.getElem?_map, ey]; rfl, .str [c]⟩
def seqI (lo : Int) (n : Nat) : List PV := (List.range n).map fun i => .int (lo + (i : Nat))
theorem gives_rng (lo : Int) (n : Nat) : Gives w M rho H (seqI lo n) [] (Itr lo n) := by
  refine ⟨fun {M1 rho1 H1 h1} st hr hw i => ?_⟩
  have W := walk_range (lo := lo) (n := n)
  have e0 : (seqI lo n).length = n := by unfold seqI; rw [List.length_map, List.length_range]
  rw [e0]
  refine ⟨fun hi => W.goes i H1 hi True.intro, fun hi => by subst hi; exact W.stops H1 True.intro, fun v H' hi y => ?_⟩
  obtain ⟨e, ev⟩ := W.yields i H1 v H' hi True.intro y
  subst e; subst ev
  exact ⟨fun _ _ e => e, _, by unfold seqI; rw [List.getElem?_map, List.getElem?_range hi]; rfl, .int _⟩
theorem KRs.at {ks : List (PV × PV)} {gs : List (Key × V)} (r : KRs w M rho H ks gs) : ks.length = gs.length ∧ ∀ {i : Nat} {k : Key} {v : V}, gs[i]? = some (k, v) → ∃ p x, ks[i]? = some (p, x) ∧ VR w M rho H p (kV k) ∧ VR w M rho H x v := by
  match r with
  | .nil => exact ⟨rfl, fun e => by simp at e⟩
  | .cons (k := kp) (j := j) hk hx hr =>
    obtain ⟨h1, h2⟩ := KRs.at hr
    refine ⟨by rw [List.length_cons, List.length_cons, h1], fun {i k v} e => ?_⟩
    cases i with
    | zero =>
      simp at e
      obtain ⟨rfl, rfl⟩ := e
      refine ⟨_, _, rfl, ?_, hx⟩
      cases kp <;> (unfold keyP at hk; cases hk)
      · exact .int _
      · exact .str _
    | succ i => simpa using h2 (i := i) (by simpa using e)
theorem gives_keys {a : Addr} {o : Obj} {ks : List (PV × PV)} {gs : List (Key × V)} (hr0 : HR w M rho H h) (q : H a = some (.frz o (.dK gs))) (rv : KRs w M rho H ks gs) : Gives w M rho H (ks.map (·.1)) [] (Itk a o gs) := by
  refine ⟨fun {M1 rho1 H1 h1} st hr hw i => ?_⟩
  have q := st.frz _ _ _ q
  have rv := rv.step st hr0
  obtain ⟨hl, hg⟩ := rv.at
  have W := walk_keys (d := a) (o := o) (kvs := gs)
  rw [List.length_map, hl]
  refine ⟨fun hi => W.goes i H1 hi q, fun hi => by subst hi; exact W.stops H1 q, fun v H' hi y => ?_⟩
  obtain ⟨e, k, u, ey, ev⟩ := W.yields i H1 v H' hi q y
  subst e; subst ev
  obtain ⟨p, x, e1, e2, _⟩ := hg ey
  exact ⟨fun _ _ e => e, p, by rw [List.getElem?_map, e1]; rfl, e2⟩
theorem watch_one {n : Nat} {xs : List PV} (h : watch [(n, xs)] h1 = true) : h1[n]? = some (.lst xs) := by
  unfold watch at h
  rw [Bool.and_eq_true] at h
  have h := h.1
  split at h
  · rename_i ys e
    rw [e, beqVs_ok h]
  · cases h
end

/-- the items of a value -/
def srcV (h : PH) : PV → Option (List PV × Wt)
  | .tup xs => some (xs, [])
  | .scr xs => some (xs, [])
  | .str s => some (signsOf s, [])
  | .rdic ks => some (ks.map (·.1), [])
  | .ref n => match h[n]? with
    | some (.lst xs) => some (xs, [(n, xs)])
    | _ => none
  | _ => none
/-- the keys of a dict: it is locked, for good -/
def srcD (h : PH) : PV → R (List PV × Wt)
  | .ref n => match h[n]? with
    | some (.dic false kvs) => .ok (kvs.map (·.1), []) (h.set n (.dic true kvs))
    | some (.dic true kvs) => .ok (kvs.map (·.1), []) h
    | _ => .stuck
  | _ => .stuck
def miV (m : ME) : MI := fun env h => (m env h).bind fun x h1 => match srcV h1 x with
  | some p => .ok p h1
  | none => srcD h1 x
section
variable {w : Wo} {EX : XC} {X : Cx} {k : Nat} {tg e : Expr} {m : ME} {p pos : Pos} {ma : MA}
theorem iter_val (C : Cxt w k X) {pins : List (Addr × Obj)} {σ : L2.St} {H : Hp} {s : Shared} {R : It → Hp → Prop} {E : Value → Shared → Prop} {M : Addr → Prop} {rho : List Addr} {h : PH} {x : PV} {v : V} {u : Value} {xs : List PV} {wt : Wt}
    (I : Inv X pins σ H s) (ru : RelV v u) (hr : HR w M rho H h) (rv : VR w M rho H x v) (es : srcV h x = some (xs, wt)) (q : ∀ J, Gives w M rho H xs wt J → R J H) : wpAny (model X.prog X.w) X.A (pyIter u) (PIE X pins σ tg R) E s := by
  have lst : ∀ {a : Addr} {vs : List V}, SqL w.K H a vs → R (Itl w.K a) H → wpAny (model X.prog X.w) X.A (pyIter (.ref a)) (PIE X pins σ tg R) E s := fun {a vs} hq hR => by
    rw [← C.hK] at hq hR
    obtain ⟨its, rv, p, hz⟩ := I.list hq
    exact wpAny_pyIter_list p.isList (pi_one (tk := s.toks) I _ (turn_list a _) ⟨_, Heap.get?_push_size _ rfl, rfl, rfl⟩ hR)
  cases rv with
  | tup sq rs =>
    obtain rfl : u = _ := ru
    cases es
    have hq := sq
    rw [← C.hK] at hq
    obtain ⟨its, rv, p, hz⟩ := I.tuple hq
    refine wpAny_pyIter_tuple (show s.heap.IsTuple _ its.toArray from p) (pi_one (tk := s.toks) I _ (turn_tuple _ _) ⟨_, Heap.get?_push_size _ rfl, rfl, rfl⟩ ?_)
    have := q _ (gives_tup hr sq rs)
    rw [C.hK]; exact this
  | scr sq rs =>
    obtain rfl : u = _ := ru
    cases es
    exact lst sq.sq (q _ (gives_list fun st hr1 _ => ⟨_, (st.scr hr sq).sq, rs.step st hr⟩))
  | str z =>
    obtain ⟨t, rfl⟩ := (show ∃ t, u = Value.str ⟨z.toArray⟩ t from ru)
    cases es
    have hR := q _ (gives_str z)
    cases ha : (⟨z.toArray⟩ : Str).cps.all (· < 128)
    · exact wpAny_pyIter_wide ha (pi_one (tk := s.toks) I _ (turn_str _ ⟨z.toArray⟩ t "str_iterator" (.inr rfl)) ⟨_, Heap.get?_push_size _ rfl, rfl, rfl⟩ hR)
    · exact wpAny_pyIter_ascii ha (pi_one (tk := s.toks) I _ (turn_str _ ⟨z.toArray⟩ t "str_ascii_iterator" (.inl rfl)) ⟨_, Heap.get?_push_size _ rfl, rfl, rfl⟩ hR)
  | @rdic kvs ks a o ha hn rk =>
    obtain rfl : u = Value.ref a := ru
    cases es
    obtain ⟨hs, hgd, hx, es, ep, vs, hdt, hsz, kv, hm⟩ := I.frzK ha
    refine iter_keys hs hgd hx hdt (pi_one (tk := s.toks) I _ (turn_keys _ hdt) ⟨_, Heap.get?_push_size _ rfl, rfl, ?_⟩ (q _ (gives_keys hr ha rk)))
    rw [hsz] <;> rfl
  | @ref n a ha =>
    obtain rfl : u = Value.ref a := ru
    simp only [srcV] at es
    split at es
    · rename_i ys e0
      cases es
      obtain ⟨a', ha', vs, q1, q2⟩ := hr.ob _ _ e0
      rw [ha] at ha'
      cases ha'
      refine lst (.inl (.inl q1)) (q _ (gives_list fun st hr1 hw => ?_))
      obtain ⟨a2, ha2, vs2, z1, z2⟩ := hr1.ob _ _ (watch_one hw)
      rw [st.ext _ _ ha] at ha2
      cases ha2
      exact ⟨vs2, .inl (.inl z1), z2⟩
    · cases es
  | _ => cases es
/-- a dict of the heap is locked -/
theorem lock_dic {pins : List (Addr × Obj)} {σ : L2.St} {H : Hp} {s : Shared} {M : Addr → Prop} {rho : List Addr} {h : PH} {n : Nat} {v : V} {kvs : List (PV × PV)} (I : Inv X pins σ H s) (hr : HR w M rho H h) (rv : VR w M rho H (.ref n) v) (e : h[n]? = some (.dic false kvs)) :
    ∃ a od ks, v = .ref a ∧ Inv X pins σ (upd H a (.frz od (.dK ks))) s ∧ Step M rho H M rho (upd H a (.frz od (.dK ks))) ∧ HR w M rho (upd H a (.frz od (.dK ks))) (h.set n (.dic true kvs)) ∧ KRs w M rho (upd H a (.frz od (.dK ks))) kvs ks := by
  cases rv with
  | @ref n a ha =>
    obtain ⟨a', ha', ks, q1, q2⟩ := hr.ob _ _ e
    rw [ha] at ha'
    cases ha'
    have q1' : H a = some (.dK ks) := q1
    obtain ⟨od, I'⟩ := I.lock q1' True.intro
    have nf : ∀ p u, H a ≠ some (.frz p u) := fun p u z => by rw [q1'] at z; cases z
    have st := Step.write hr (o := .frz od (.dK ks)) ha nf
    have r2 := q2.step st hr
    exact ⟨a, od, ks, rfl, I', st, hr.write ha nf ⟨ks, ⟨od, upd_same⟩, r2⟩, r2⟩
theorem iter_dic {pins : List (Addr × Obj)} {σ : L2.St} {H : Hp} {s : Shared} {R : It → Hp → Prop} {E : Value → Shared → Prop} {M : Addr → Prop} {rho : List Addr} {h : PH} {x : PV} {v : V} {u : Value}
    (I : Inv X pins σ H s) (ru : RelV v u) (hr : HR w M rho H h) (rv : VR w M rho H x v) (o : Out w EX M rho H (srcD h x) (KI w R)) : wpAny (model X.prog X.w) X.A (pyIter u) (PIE X pins σ tg R) E s := by
  cases x <;> try exact (show False from o).elim
  rename_i n
  simp only [srcD] at o
  have go : ∀ {H : Hp} {h : PH} {a : Addr} {od : Obj} {ks : List (Key × V)} {kvs : List (PV × PV)}, Inv X pins σ H s → HR w M rho H h → H a = some (.frz od (.dK ks)) → KRs w M rho H kvs ks → KI w R (kvs.map (·.1), []) h M rho H → wpAny (model X.prog X.w) X.A (pyIter (.ref a)) (PIE X pins σ tg R) E s := by
    intro H h a od ks kvs I hr ha rk q
    obtain ⟨hs, hgd, hx, es, ep, vs, hdt, hsz, kv, hm⟩ := I.frzK ha
    refine iter_keys hs hgd hx hdt (pi_one (tk := s.toks) I _ (turn_keys _ hdt) ⟨_, Heap.get?_push_size _ rfl, rfl, ?_⟩ (q _ (gives_keys hr ha rk)))
    rw [hsz] <;> rfl
  split at o
  · rename_i kvs e0
    obtain ⟨a, od, ks, rfl, I', st, hr', rk⟩ := lock_dic I hr rv e0
    obtain rfl : u = Value.ref a := ru
    exact go I' hr' upd_same rk (o _ _ _ st hr')
  · rename_i kvs e0
    cases rv with
    | @ref n a ha =>
      obtain rfl : u = Value.ref a := ru
      obtain ⟨a', ha', ks, ⟨od, q1⟩, q2⟩ := hr.ob _ _ e0
      rw [ha] at ha'
      cases ha'
      exact go I hr q1 q2 (o.now hr)
  · exact (show False from o).elim
/-- over a value -/
theorem mi_val (C : Cxt w k X) (he : PE X e (tM w EX m)) : PI X tg e (tI w EX (miV m)) := by
  refine ⟨fun pins s σ H R I h => ?_⟩
  obtain ⟨M, rho, env, hh, er, hr, o⟩ := h
  refine thn (he.run pins s σ H (fun v H1 => ∃ M1 rho1 h1 x, HR w M1 rho1 H1 h1 ∧ VR w M1 rho1 H1 x v ∧ Out w EX M1 rho1 H1 (match srcV h1 x with
    | some p => .ok p h1
    | none => srcD h1 x) (KI w R)) I (tM.of er hr (Out.bind o) fun x h1 M1 rho1 H1 v st1 er1 hr1 o1 rv => ⟨M1, rho1, h1, x, hr1, rv, o1⟩)) fun u s1 ⟨v, H1, I1, ru, M1, rho1, h1, x, hr1, rv, o1⟩ => ?_
  split at o1
  · rename_i p ep
    exact iter_val (xs := p.1) (wt := p.2) C I1 ru hr1 rv ep (o1.now hr1)
  · exact iter_dic I1 ru hr1 rv o1
def L62 : Int := 4611686018427387904
theorem l62 : L62 = 2 ^ 62 := by decide
def inR (i : Int) : Bool := decide (-L62 ≤ i) && decide (i < L62)
def miRng1 (ma : MA) : MI := fun env h => (ma env h).bind fun xs h1 => match xs with
  | [.int j] => bif inR j then .ok (seqI 0 j.toNat, []) h1 else .stuck
  | _ => .stuck
def miRng2 (ma : MA) : MI := fun env h => (ma env h).bind fun xs h1 => match xs with
  | [.int i, .int j] => bif inR i && inR j then .ok (seqI i (j - i).toNat, []) h1 else .stuck
  | _ => .stuck
theorem inR_ok {i : Int} (h : inR i = true) : -(2 ^ 62) ≤ i ∧ i < 2 ^ 62 := by
  unfold inR at h
  rw [Bool.and_eq_true, decide_eq_true_eq, decide_eq_true_eq, l62] at h
  exact h
theorem mi_rng1 {a : Expr} (hg : Gl X "range") (hm : X.mg "range" = none) (ha : PA X [a] (tA w EX ma)) (hs : starEach [a] X.env = [(false, eval a X.env)] := by rfl) : PI X tg (.Call (.Name "range" p) [a] [] pos) (tI w EX (miRng1 ma)) := by
  refine PI.imp (pi_range1 hg hm ha hs) fun σ H R hh => ?_
  obtain ⟨M, rho, env, h, er, hr, o⟩ := hh
  refine tA.of er hr (Out.bind o) fun xs h1 M1 rho1 H1 vs st1 er1 hr1 o1 rs => ?_
  split at o1
  · rename_i j
    obtain ⟨hj, o2⟩ := Out.bif o1
    cases rs with
    | cons a b =>
      cases a
      cases b
      obtain ⟨p1, p2⟩ := inR_ok hj
      exact ⟨j, rfl, p1, p2, o2.now hr1 _ (gives_rng 0 _)⟩
  · exact (show False from o1).elim
theorem mi_rng2 {a b : Expr} (hg : Gl X "range") (hm : X.mg "range" = none) (ha : PA X [a, b] (tA w EX ma)) (hs : starEach [a, b] X.env = [(false, eval a X.env), (false, eval b X.env)] := by rfl) (hs2 : starEach [b] X.env = [(false, eval b X.env)] := by rfl) :
    PI X tg (.Call (.Name "range" p) [a, b] [] pos) (tI w EX (miRng2 ma)) := by
  refine PI.imp (pi_range2 hg hm ha hs hs2) fun σ H R hh => ?_
  obtain ⟨M, rho, env, h, er, hr, o⟩ := hh
  refine tA.of er hr (Out.bind o) fun xs h1 M1 rho1 H1 vs st1 er1 hr1 o1 rs => ?_
  split at o1
  · rename_i i j
    obtain ⟨hj, o2⟩ := Out.bif o1
    rw [Bool.and_eq_true] at hj
    cases rs with
    | cons a b =>
      cases b with
      | cons b c =>
        cases a
        cases b
        cases c
        obtain ⟨p1, p2⟩ := inR_ok hj.1
        obtain ⟨p3, p4⟩ := inR_ok hj.2
        exact ⟨i, j, rfl, ⟨p1, p2, p3, p4⟩, o2.now hr1 _ (gives_rng i _)⟩
  · exact (show False from o1).elim
end
end MC

end
section
set_option maxRecDepth 100000
set_option maxHeartbeats 4000000
namespace MC
open PySem PySem.Spec PyProof.Rows L2

theorem Cxt.blk {w : Wo} {k : Nat} {X : Cx} (C : Cxt w k X) (s : Shared) (H : Hp) (scope : Scope) (e : Env) (fp : List Addr) : Cxt w k (X.blk s H scope e fp) := ⟨C.hK, C.hW, C.calm, C.room, C.grd, PassesOwn.never⟩
theorem Out.back {w : Wo} {EX : XC} {M : Addr → Prop} {rho : List Addr} {H : Hp} {α β : Type} {r : R α} {f : α → PH → R β} {k : KC β} (o : Out w EX M rho H (r.bind f) k) : Out w EX M rho H r fun a h _ _ _ => Out w EX M rho H (f a h) k := by
  cases r with
  | ok a h => exact fun M' rho' H' s _ => o
  | exc c fs h => exact o
  | stuck => exact o

def forL (g : MG) (b : MS) (wt : Wt) : List PV → En → PH → R Fl
  | [], env, h => bif watch wt h then .ok (.nx env) h else .stuck
  | x :: xs, env, h => bif watch wt h then (g x env h).bind fun e h1 => (b e h1).bind fun f h2 => match f with
    | .nx e2 => forL g b wt xs e2 h2
    | .ct e2 => forL g b wt xs e2 h2
    | .bk e2 => .ok (.nx e2) h2
    | .rt v => .ok (.rt v) h2 else .stuck
def mFor (mi : MI) (g : MG) (b : MS) : MS := fun env h => (mi env h).bind fun p h1 => forL g b p.2 p.1 env h1
section
variable {w : Wo} {EX : XC} {X : Cx} {k : Nat} {tg iter : Expr} {body : List Stmt} {pos : Pos} {mi : MI} {g : MG} {b : MS}
theorem ms_for (C : Cxt w k X) (hi : PI X tg iter (tI w EX mi)) (hg : PG X tg (tG w EX g)) (hb : PSs X body (tS w EX b)) (hs : ∀ x, foldedSetIterable iter X.env x = pure x := by intro _; rfl) : PS X (.For tg iter body [] pos) (tS w EX (mFor mi g b)) := by
  refine PS_imp (ps_for C.own C.calm hi hg hb hs) fun D s H hh => ?_
  obtain ⟨M, rho, env, h, er, hr, o⟩ := hh
  refine ⟨M, rho, env, h, er, hr, (Out.bind o).imp fun p h1 M1 rho1 H1 st1 hr1 o1 J gv => ?_⟩
  obtain ⟨xs, wt⟩ := p
  -- from here on the world grows from (M1, rho1, H1)
  refine ⟨fun i m σ H' => m = xs.length - i ∧ i ≤ xs.length ∧ ∃ M2 rho2 env2 h2, Step M1 rho1 H1 M2 rho2 H' ∧ ER w M2 rho2 H' env2 σ ∧ HR w M2 rho2 H' h2 ∧ Out w EX M2 rho2 H' (forL g b wt (xs.drop i) env2 h2) (KS w D),
    ⟨xs.length, by simp, Nat.zero_le _, M1, rho1, env, h1, Step.refl, er.step st1 hr, hr1, o1⟩, ?_⟩
  rintro i m σ H' ⟨rfl, hi, M2, rho2, env2, h2, st2, er2, hr2, o2⟩
  by_cases hlt : i < xs.length
  · rw [List.drop_eq_getElem_cons hlt] at o2
    obtain ⟨hw, o3⟩ := Out.bif (show Out w EX M2 rho2 H' (bif watch wt h2 then (g xs[i] env2 h2).bind fun e h1 => (b e h1).bind fun f h2 => match f with
      | .nx e2 => forL g b wt (xs.drop (i + 1)) e2 h2
      | .ct e2 => forL g b wt (xs.drop (i + 1)) e2 h2
      | .bk e2 => .ok (.nx e2) h2
      | .rt v => .ok (.rt v) h2 else .stuck) (KS w D) from o2)
    obtain ⟨g1, _, g3⟩ := gv.to st2 hr2 hw i
    refine .inr ⟨g1 hlt, fun σ' H' => ∃ M2 rho2 env2 h2, Step M1 rho1 H1 M2 rho2 H' ∧ ER w M2 rho2 H' env2 σ' ∧ HR w M2 rho2 H' h2 ∧ Out w EX M2 rho2 H' (forL g b wt (xs.drop (i + 1)) env2 h2) (KS w D), fun σ' H'' q => ⟨xs.length - (i + 1), by omega, rfl, hlt, q⟩, fun x H3 y => ?_⟩
    obtain ⟨k1, z, ez, rz⟩ := g3 x H3 hlt y
    rw [List.getElem?_eq_getElem hlt] at ez
    cases ez
    have stg : Step M2 rho2 H' M2 rho2 H3 := Step.grow k1
    have hr3 := hr2.grow k1
    refine ⟨M2, rho2, env2, h2, xs[i], er2.step stg hr2, hr3, rz, ((Out.bind o3).step stg).imp fun e h4 M4 rho4 H4 st4 hr4 o4 s4 er4 => ?_⟩
    have st5 := st2.trans (stg.trans st4)
    refine ⟨M4, rho4, e, h4, er4, hr4, (Out.bind o4).imp fun f h5 M5 rho5 H5 st6 hr5 o5 => ?_⟩
    have st7 := st5.trans st6
    cases f with
    | nx e2 => exact fun s5 er5 => ⟨M5, rho5, e2, h5, st7, er5, hr5, o5⟩
    | ct e2 => exact fun s5 er5 => ⟨M5, rho5, e2, h5, st7, er5, hr5, o5⟩
    | bk e2 => exact (show Out w EX M5 rho5 H5 (.ok (.nx e2) h5) (KS w D) from o5).now hr5
    | rt v => exact (show Out w EX M5 rho5 H5 (.ok (.rt v) h5) (KS w D) from o5).now hr5
  · have e : i = xs.length := by omega
    subst e
    rw [List.drop_length] at o2
    obtain ⟨hw, o3⟩ := Out.bif (show Out w EX M2 rho2 H' (bif watch wt h2 then .ok (.nx env2) h2 else .stuck) (KS w D) from o2)
    obtain ⟨_, g2, _⟩ := gv.to st2 hr2 hw xs.length
    exact .inl ⟨g2 rfl, o3.now hr2 _ er2⟩
end

section
variable {w : Wo} {EX : XC} {X : Cx} {k : Nat} {c : Expr} {body : List Stmt} {pos : Pos} {t : MT} {b : MS}
end

mutual
inductive Tg where
  | nm (i : Nat)
  | tp (ts : Tgs)
inductive Tgs where
  | nil
  | cons (t : Tg) (ts : Tgs)
end
mutual
def tgM : Tg → PV → En → Option En
  | .nm i, x, env => some (env.set i (some x))
  | .tp ts, x, env => match x with
    | .tup xs => tgMs ts xs env
    | _ => none
def tgMs : Tgs → List PV → En → Option En
  | .nil, [], env => some env
  | .cons t ts, x :: xs, env => match tgM t x env with
    | some e => tgMs ts xs e
    | none => none
  | _, _, _ => none
end
def tgN : Tgs → Nat
  | .nil => 0
  | .cons _ ts => tgN ts + 1
mutual
def tgG (K : PySem.W.Frag) : Tg → TG
  | .nm i => gName i
  | .tp ts => gTup K (tgN ts) (tgGs K ts)
def tgGs (K : PySem.W.Frag) : Tgs → TGs
  | .nil => gNil
  | .cons t ts => gCons (tgG K t) (tgGs K ts)
end
mutual
def tgI : Tg → List Nat
  | .nm i => [i]
  | .tp ts => tgIs ts
def tgIs : Tgs → List Nat
  | .nil => []
  | .cons t ts => tgI t ++ tgIs ts
end
theorem wipe_set {v : V} {i : Nat} : ∀ {vs : List Nat} (σ : L2.St), i ∈ vs → wipe (σ.set i (some v)) vs = wipe σ vs := by
  have out : ∀ {vs : List Nat} (σ : L2.St) (o : Option V), i ∉ vs → wipe (σ.set i o) vs = (wipe σ vs).set i o := by
    intro vs
    induction vs with
    | nil => intro σ o _; rfl
    | cons u vs ih =>
      intro σ o hn
      have h1 : i ≠ u := fun e => hn (by rw [e]; exact List.mem_cons_self)
      show (wipe (σ.set i o) vs).set u none = ((wipe σ vs).set u none).set i o
      rw [ih σ o fun z => hn (List.mem_cons_of_mem _ z), List.set_comm _ _ h1]
  intro vs
  induction vs with
  | nil => intro σ h; cases h
  | cons u vs ih =>
    intro σ h
    show (wipe (σ.set i (some v)) vs).set u none = (wipe σ vs).set u none
    by_cases h1 : i ∈ vs
    · rw [ih σ h1]
    · have h2 : i = u := (List.mem_cons.mp h).resolve_right h1
      subst h2
      rw [out σ _ h1, List.set_set]
section
variable {w : Wo} {M : Addr → Prop} {rho : List Addr} {H : Hp} {vs : List Nat}
mutual
theorem tg_ok : ∀ (t : Tg) {x : PV} {v : V} {env e : En} {σ : L2.St} {Q : L2.St → Hp → Prop}, tgM t x env = some e → VR w M rho H x v → ER w M rho H env σ → (∀ i ∈ tgI t, i ∈ vs) →
    (∀ σ', ER w M rho H e σ' → wipe σ' vs = wipe σ vs → Q σ' H) → tgG w.K t v σ H Q
  | .nm i, x, v, env, e, σ, Q, h, rv, er, hi, q => by
    unfold tgM at h
    cases h
    exact q _ (er.set rv i) (wipe_set σ (hi i (by unfold tgI; simp)))
  | .tp ts, x, v, env, e, σ, Q, h, rv, er, hi, q => by
    unfold tgM at h
    cases rv <;> dsimp only at h <;> try cases h
    rename_i xs us a sq rs
    unfold tgG
    obtain ⟨hl, hq⟩ := tgs_ok ts h rs er (fun i hi' => hi i (by unfold tgI; exact hi')) q
    exact ⟨a, us, rfl, sq, hl, hq⟩
theorem tgs_ok : ∀ (ts : Tgs) {xs : List PV} {us : List V} {env e : En} {σ : L2.St} {Q : L2.St → Hp → Prop}, tgMs ts xs env = some e → VRs w M rho H xs us → ER w M rho H env σ → (∀ i ∈ tgIs ts, i ∈ vs) →
    (∀ σ', ER w M rho H e σ' → wipe σ' vs = wipe σ vs → Q σ' H) → us.length = tgN ts ∧ tgGs w.K ts us σ H Q
  | .nil, xs, us, env, e, σ, Q, h, rv, er, hi, q => by
    cases rv with
    | nil =>
      unfold tgMs at h
      cases h
      exact ⟨rfl, rfl, q σ er rfl⟩
    | cons _ _ => unfold tgMs at h; cases h
  | .cons t ts, xs, us, env, e, σ, Q, h, rv, er, hi, q => by
    cases rv with
    | nil => unfold tgMs at h; cases h
    | @cons x v xs us r1 r2 =>
      unfold tgMs at h
      split at h
      · rename_i e1 h1
        have hi1 : ∀ i ∈ tgI t, i ∈ vs := fun i z => hi i (by unfold tgIs; exact List.mem_append_left _ z)
        have hi2 : ∀ i ∈ tgIs ts, i ∈ vs := fun i z => hi i (by unfold tgIs; exact List.mem_append_right _ z)
        -- the length first
        have hl : ∀ {σ' : L2.St}, ER w M rho H e1 σ' → us.length = tgN ts := fun {σ'} er' => (tgs_ok (Q := fun _ _ => True) ts h r2 er' hi2 fun _ _ _ => trivial).1
        have key : tgG w.K t v σ H fun σ' H' => us.length = tgN ts ∧ tgGs w.K ts us σ' H' Q := tg_ok t h1 r1 er hi1 fun σ' er' ew => by
          obtain ⟨a, b⟩ := tgs_ok (Q := Q) ts h r2 er' hi2 fun σ2 er2 ew2 => q σ2 er2 (ew2.trans ew)
          exact ⟨a, b⟩
        refine ⟨?_, v, us, rfl, ?_⟩
        · obtain ⟨σ', er'⟩ := (show ∃ σ', ER w M rho H e1 σ' from er_after t h1 r1 er)
          show us.length + 1 = tgN ts + 1
          rw [hl er']
        · exact tg_ok t h1 r1 er hi1 fun σ' er' ew => (tgs_ok (Q := Q) ts h r2 er' hi2 fun σ2 er2 ew2 => q σ2 er2 (ew2.trans ew)).2
      · cases h
theorem er_after : ∀ (t : Tg) {x : PV} {v : V} {env e : En} {σ : L2.St}, tgM t x env = some e → VR w M rho H x v → ER w M rho H env σ → ∃ σ', ER w M rho H e σ'
  | .nm i, x, v, env, e, σ, h, rv, er => by
    unfold tgM at h
    cases h
    exact ⟨_, er.set rv i⟩
  | .tp ts, x, v, env, e, σ, h, rv, er => by
    unfold tgM at h
    cases rv <;> dsimp only at h <;> try cases h
    rename_i xs us a sq rs
    exact ers_after ts h rs er
theorem ers_after : ∀ (ts : Tgs) {xs : List PV} {us : List V} {env e : En} {σ : L2.St}, tgMs ts xs env = some e → VRs w M rho H xs us → ER w M rho H env σ → ∃ σ', ER w M rho H e σ'
  | .nil, xs, us, env, e, σ, h, rv, er => by
    cases rv with
    | nil => unfold tgMs at h; cases h; exact ⟨_, er⟩
    | cons _ _ => unfold tgMs at h; cases h
  | .cons t ts, xs, us, env, e, σ, h, rv, er => by
    cases rv with
    | nil => unfold tgMs at h; cases h
    | cons r1 r2 =>
      unfold tgMs at h
      split at h
      · rename_i e1 h1
        obtain ⟨σ', er'⟩ := er_after t h1 r1 er
        exact ers_after ts h r2 er'
      · cases h
end
end
end MC

end
section
set_option maxRecDepth 100000
set_option maxHeartbeats 4000000
namespace MC
open PySem PySem.Spec PyProof.Rows L2

def noX {α : Type} (r : R α) : R α := match r with
  | .ok a h => .ok a h
  | _ => .stuck
theorem Out.noX {w : Wo} {EX EX2 : XC} {M : Addr → Prop} {rho : List Addr} {H : Hp} {α : Type} {r : R α} {k : KC α} (o : Out w EX M rho H (MC.noX r) k) : Out w EX2 M rho H r k := by
  cases r with
  | ok a h => exact o
  | exc c fs h => exact (show False from o).elim
  | stuck => exact o
def wipeE : En → List Nat → En
  | e, [] => e
  | e, v :: vs => (wipeE e vs).set v none
theorem wipe_wipe (σ : L2.St) : ∀ vs : List Nat, wipe (wipe σ vs) vs = wipe σ vs := by
  have out : ∀ (vs : List Nat) (σ : L2.St) (i : Nat), (wipe (σ.set i none) vs).set i none = (wipe σ vs).set i none := by
    intro vs
    induction vs with
    | nil => intro σ i; show (σ.set i none).set i none = σ.set i none; rw [List.set_set]
    | cons u vs ih =>
      intro σ i
      show ((wipe (σ.set i none) vs).set u none).set i none = ((wipe σ vs).set u none).set i none
      by_cases h : u = i
      · subst h
        rw [ih σ u]
      · rw [List.set_comm _ _ h, ih σ i, List.set_comm _ _ (Ne.symm h)]
  intro vs
  induction vs generalizing σ with
  | nil => rfl
  | cons u vs ih =>
    show (wipe ((wipe σ vs).set u none) vs).set u none = (wipe σ vs).set u none
    rw [out, ih]
section
variable {w : Wo} {M M1 M2 : Addr → Prop} {rho rho1 rho2 : List Addr} {H H1 H2 H' : Hp} {h : PH} {D : Addr}
theorem ER.wipe {e : En} {σ : L2.St} (r : ER w M rho H e σ) : ∀ vs : List Nat, ER w M rho H (wipeE e vs) (wipe σ vs)
  | [] => r
  | v :: vs => (ER.wipe r vs).drop v none
/-- all but lists stands; what is M's stands -/
structure Off (M : Addr → Prop) (H H' : Hp) : Prop where
  pos : ∀ a u, H a = some u → (∀ l, u ≠ .lst l) → H' a = some u
  own : ∀ a, M a → H' a = H a
theorem Off.sqT (f : Off M H H') {K : PySem.W.Frag} {a : Addr} {vs : List V} (q : SqT K H a vs) : SqT K H' a vs := by
  rcases q with (q | ⟨o, q⟩) | q
  · exact .inl (.inl (f.pos a _ q fun _ e => nomatch e))
  · exact .inl (.inr ⟨o, f.pos a _ q fun _ e => nomatch e⟩)
  · exact .inr q
theorem Off.scr (f : Off M H H') {a : Addr} {vs : List V} (q : ScrL w M H a vs) : ScrL w M H' a vs := by
  rcases q with q | ⟨o, q, n⟩
  · exact .inl q
  · exact .inr ⟨o, f.pos a _ q (fun _ e => nomatch e), n⟩
mutual
theorem VR.off (f : Off M H H') : ∀ {x : PV} {v : V}, VR w M rho H x v → VR w M rho H' x v
  | _, _, .non => .non
  | _, _, .bl b => .bl b
  | _, _, .int i => .int i
  | _, _, .str s => .str s
  | _, _, .tup q s => .tup (f.sqT q) (VRs.off f s)
  | _, _, .scr q s => .scr (f.scr q) (VRs.off f s)
  | _, _, .rdic e n s => .rdic (f.pos _ _ e fun _ z => nomatch z) n (KRs.off f s)
  | _, _, .ins c e n s => .ins c (f.pos _ _ e fun _ z => nomatch z) n (FRs.off f s)
  | _, _, .ref e => .ref e
  | _, _, .gl e => .gl e
theorem VRs.off (f : Off M H H') : ∀ {xs : List PV} {vs : List V}, VRs w M rho H xs vs → VRs w M rho H' xs vs
  | _, _, .nil => .nil
  | _, _, .cons a b => .cons (VR.off f a) (VRs.off f b)
theorem FRs.off (f : Off M H H') : ∀ {fs : List (Nm × PV)} {gs : List (Str × V)}, FRs w M rho H fs gs → FRs w M rho H' fs gs
  | _, _, .nil => .nil
  | _, _, .cons a b => .cons (VR.off f a) (FRs.off f b)
theorem KRs.off (f : Off M H H') : ∀ {fs : List (PV × PV)} {gs : List (Key × V)}, KRs w M rho H fs gs → KRs w M rho H' fs gs
  | _, _, .nil => .nil
  | _, _, .cons k a b => .cons k (VR.off f a) (KRs.off f b)
end
theorem TRs.off (f : Off M H H') : ∀ {fs : List (PV × PV)} {gs : List (NestedKey × Addr × Value)}, TRs w M rho H fs gs → TRs w M rho H' fs gs
  | _, _, .nil => .nil
  | _, _, .cons k d a b c q => .cons k d (a.off f) (b.off f) c (TRs.off f q)
theorem OR.off (f : Off M H H') {a : Addr} (m : M a) {o : PO} (q : OR w M rho H a o) : OR w M rho H' a o := by
  have e := f.own a m
  cases o with
  | lst xs => obtain ⟨vs, p, s⟩ := q; exact ⟨vs, e.trans p, s.off f⟩
  | ins c fs => obtain ⟨C, dx, gs, p1, p, s⟩ := q; exact ⟨C, dx, gs, p1, e.trans p, s.off f⟩
  | dic lk kvs =>
    obtain ⟨ks, p, s⟩ := q
    refine ⟨ks, ?_, s.off f⟩
    cases lk with
    | false => exact e.trans p
    | true => obtain ⟨o, p⟩ := p; exact ⟨o, e.trans p⟩
  | dit lk kvs =>
    obtain ⟨ks, p, z1, z2, z3, s⟩ := q
    refine ⟨ks, ?_, z1, z2, z3, s.off f⟩
    cases lk with
    | false => exact e.trans p
    | true => obtain ⟨o, p⟩ := p; exact ⟨o, e.trans p⟩
theorem HR.off (f : Off M H H') (r : HR w M rho H h) : HR w M rho H' h where
  len := r.len
  nd := r.nd
  mem := r.mem
  live := fun b m => by rw [f.own b m]; exact r.live b m
  ob := fun n o q => by
    obtain ⟨a, ha, s⟩ := r.ob n o q
    exact ⟨a, ha, s.off f (r.mem a (List.mem_of_getElem? ha))⟩
theorem Off.upd {l : List V} {o : HO} (hD : H D = some (.lst l)) (n : ¬ M D) : Off M H (upd H D o) :=
  ⟨fun a u e z => by rw [upd_ne]; exact e; rintro rfl; rw [hD] at e; cases e; exact z l rfl, fun a m => upd_ne fun e => n (e ▸ m)⟩
theorem Off.hide {l : List V} (hD : H D = some (.lst l)) (n : ¬ M D) : Off M H (fun b => if b = D then none else H b) :=
  ⟨fun a u e z => by
    have : a ≠ D := by rintro rfl; rw [hD] at e; cases e; exact z l rfl
    show (if a = D then none else H a) = some u
    rw [if_neg this]; exact e, fun a m => if_neg fun (z : a = D) => n (by rw [← z]; exact m)⟩
theorem Step.late (st : Step M1 rho1 H1 M rho H) (n : H1 D = none) {o : HO} : Step M1 rho1 H1 M rho (upd H D o) where
  ext := st.ext
  mono := st.mono
  fresh := st.fresh
  new := st.new
  frame := fun b u hb e => by
    rw [upd_ne (ne_of_none e n)]
    exact st.frame b u hb e
  there := fun b e => by
    by_cases h : b = D
    · subst h; exact absurd n e
    · rw [upd_ne h]; exact st.there b e
  frz := fun b o u e => by
    rw [upd_ne (ne_of_none e n)]
    exact st.frz b o u e
/-- a list that stood apart comes to the heap's end -/
theorem take_lst {xs : List PV} {vs : List V} (st : Step M1 rho1 H1 M rho H) (n : H1 D = none) (hr : HR w M rho H h) (hD : H D = some (.lst vs)) (nD : ¬ M D) (r : VRs w M rho H xs vs) :
    Step M1 rho1 H1 (fun b => M b ∨ b = D) (rho ++ [D]) H ∧ HR w (fun b => M b ∨ b = D) (rho ++ [D]) H (h ++ [.lst xs]) ∧ VR w (fun b => M b ∨ b = D) (rho ++ [D]) H (.ref h.length) (.ref D) := by
  have f := Off.hide hD nD
  have e0 : upd (fun b => if b = D then none else H b) D (.lst vs) = H := by
    funext b
    unfold L2.upd
    by_cases h : b = D
    · rw [if_pos h, h, hD]
    · rw [if_neg h]; exact if_neg h
  have n0 : (fun b => if b = D then none else H b) D = none := if_pos rfl
  have hr0 := hr.off f
  have r0 := (r.off f).step (Step.alloc (o := .lst vs) n0) hr0
  have hr1 := hr0.alloc (o := .lst vs) n0 (po := .lst xs) ⟨vs, upd_same, r0⟩
  rw [e0] at hr1
  refine ⟨⟨fun i a e => ?_, fun b e => .inl (st.mono b e), fun b e => e.elim (st.fresh b) fun z => .inr (by rw [z]; exact n), fun b e => ?_, st.frame, st.there, st.frz⟩, hr1, .ref ?_⟩
  · have q := st.ext i a e
    rw [List.getElem?_append_left (List.getElem?_eq_some_iff.mp q).1]; exact q
  · rcases List.mem_append.mp e with z | z
    · exact st.new b z
    · rw [List.mem_singleton.mp z]; exact .inr n
  · rw [List.getElem?_append_right (by rw [hr.len]; exact Nat.le_refl _), hr.len, Nat.sub_self]
    rfl
end

def lcL (g : Tg) (t : MT) (m : ME) (wt : Wt) (e0 : En) : List PV → List PV → PH → R PV
  | [], acc, h => bif watch wt h then .ok (.ref h.length) (h ++ [.lst acc]) else .stuck
  | x :: xs, acc, h => bif watch wt h then (match tgM g x e0 with
    | some e => (noX (t e h)).bind fun b h1 => bif b then (noX (m e h1)).bind fun y h2 => bif decide (acc.length < LIM) then lcL g t m wt e0 xs (acc ++ [y]) h2 else .stuck else lcL g t m wt e0 xs acc h1
    | none => .stuck) else .stuck
def mLc (mi : MI) (g : Tg) (t : MT) (m : ME) (vs : List Nat) : ME := fun env h => (mi env h).bind fun p h1 => lcL g t m p.2 (wipeE env vs) p.1 [] h1
def mYes : MT := fun _ h => .ok true h
section
variable {w : Wo} {EX EX2 : XC} {X : Cx} {k : Nat} {tg iter elt : Expr} {ifs : List Expr} {scope : Scope} {own : List (Str × Nat)} {pos : Pos} {mi : MI} {g : Tg} {t : MT} {m : ME}
theorem mts_nil : PTs X [] (tT w EX mYes) := ⟨fun pins s σ H Q I h => by
  refine pts_nil.run pins s σ H Q I ?_
  obtain ⟨M, rho, env, h, er, hr, o⟩ := h
  exact o.now hr⟩
theorem lc_reads {vs : List Nat} {σ : L2.St} {H : Hp} {Q : VK} (hvs : (tgI g).all (vs.contains ·) = true) (hh : tM w EX (mLc mi g t m vs) σ H Q) : tLc (tI w EX mi) (tgG w.K g) (tT w EX2 t) (tM w EX2 m) vs σ H Q := by
  have hv : ∀ i ∈ tgI g, i ∈ vs := fun i hi => List.contains_iff_mem.mp (List.all_eq_true.mp hvs i hi)
  obtain ⟨M, rho, env, h, er, hr, o⟩ := hh
  refine ⟨M, rho, env, h, er, hr, (Out.bind o).imp fun p h1 M1 rho1 H1 st1 hr1 o1 J gv => ?_⟩
  obtain ⟨xs, wt⟩ := p
  intro D hD
  have erB : ER w M1 rho1 H1 (wipeE env vs) (wipe σ vs) := (er.step st1 hr).wipe vs
  have nD : ¬ M1 D := fun z => hr1.live D z hD
  refine ⟨fun i m' H' => m' = xs.length - i ∧ i ≤ xs.length ∧ ∃ M2 rho2 acc accV h2, Step M1 rho1 H1 M2 rho2 H' ∧ HR w M2 rho2 H' h2 ∧ H' D = some (.lst accV) ∧ ¬ M2 D ∧ VRs w M2 rho2 H' acc accV ∧ Out w EX M1 rho1 H1 (lcL g t m wt (wipeE env vs) (xs.drop i) acc h2) (KV w Q),
    ⟨xs.length, by simp, Nat.zero_le _, M1, rho1, [], [], h1, Step.grow (same_upd hD), hr1.grow (same_upd hD), upd_same, nD, .nil, o1⟩, ?_⟩
  rintro i m' H' ⟨rfl, hi, M2, rho2, acc, accV, h2, st2, hr2, hD2, nD2, ra, o2⟩
  by_cases hlt : i < xs.length
  · rw [List.drop_eq_getElem_cons hlt] at o2
    obtain ⟨hw, o3⟩ := Out.bif (show Out w EX M1 rho1 H1 (bif watch wt h2 then (match tgM g xs[i] (wipeE env vs) with
      | some e => (noX (t e h2)).bind fun b h1 => bif b then (noX (m e h1)).bind fun y h2 => bif decide (acc.length < LIM) then lcL g t m wt (wipeE env vs) (xs.drop (i + 1)) (acc ++ [y]) h2 else .stuck else lcL g t m wt (wipeE env vs) (xs.drop (i + 1)) acc h1
      | none => .stuck) else .stuck) (KV w Q) from o2)
    obtain ⟨g1, _, g3⟩ := gv.to st2 hr2 hw i
    refine .inr ⟨g1 hlt, fun H' => ∃ M2 rho2 acc accV h2, Step M1 rho1 H1 M2 rho2 H' ∧ HR w M2 rho2 H' h2 ∧ H' D = some (.lst accV) ∧ ¬ M2 D ∧ VRs w M2 rho2 H' acc accV ∧ Out w EX M1 rho1 H1 (lcL g t m wt (wipeE env vs) (xs.drop (i + 1)) acc h2) (KV w Q), fun H'' q => ⟨xs.length - (i + 1), by omega, rfl, hlt, q⟩, fun x H3 y => ?_⟩
    obtain ⟨k1, z, ez, rz⟩ := g3 x H3 hlt y
    rw [List.getElem?_eq_getElem hlt] at ez
    cases ez
    have stg : Step M2 rho2 H' M2 rho2 H3 := Step.grow k1
    have hr3 := hr2.grow k1
    have st3 := st2.trans stg
    split at o3
    · rename_i e he
      refine tg_ok g he rz (erB.step st3 hr1) hv fun σ2 er2 ew => ⟨by rw [ew, wipe_wipe], ?_⟩
      refine tT.of er2 hr3 (Out.noX ((Out.back o3).step st3)) fun b h4 M4 rho4 H4 st4 er4 hr4 o4 => ?_
      have stB := st3.trans st4
      have dr : ∀ {b}, b ∈ rho2 → M2 b := fun {b} hb => hr2.mem b hb
      have hD4 : H4 D = some (.lst accV) := st4.frame D _ (fun z => nD2 (dr z)) (k1 _ _ hD2)
      have nD4 : ¬ M4 D := st4.no (k1 _ _ hD2) nD2
      have ra4 := (ra.step stg hr2).step st4 hr3
      cases b with
      | false => exact iteF ⟨M4, rho4, acc, accV, h4, stB, hr4, hD4, nD4, ra4, o4⟩
      | true =>
        refine iteT (tM.of er4 hr4 (Out.noX ((Out.back (show Out w EX M1 rho1 H1 ((noX (m e h4)).bind fun y h2 => bif decide (acc.length < LIM) then lcL g t m wt (wipeE env vs) (xs.drop (i + 1)) (acc ++ [y]) h2 else .stuck) (KV w Q) from o4)).step stB)) fun y h5 M5 rho5 H5 u st5 er5 hr5 o5 ry => ?_)
        obtain ⟨hl, o6⟩ := Out.bif o5
        have stC := stB.trans st5
        have hD5 : H5 D = some (.lst accV) := st5.frame D _ (fun z => nD4 (hr4.mem D z)) hD4
        have nD5 : ¬ M5 D := st5.no hD4 nD4
        have ra5 := ra4.step st5 hr4
        have f := Off.upd (o := .lst (accV ++ [u])) hD5 nD5
        exact ⟨accV, hD5, by rw [ra5.length, lim_eq]; exact of_decide_eq_true hl, M5, rho5, acc ++ [y], accV ++ [u], h5, stC.late hD, hr5.off f, upd_same, nD5, (ra5.append (.cons ry .nil)).off f, o6⟩
    · exact (show False from o3).elim
  · have e : i = xs.length := by omega
    subst e
    rw [List.drop_length] at o2
    obtain ⟨hw, o3⟩ := Out.bif (show Out w EX M1 rho1 H1 (bif watch wt h2 then .ok (.ref h2.length) (h2 ++ [.lst acc]) else .stuck) (KV w Q) from o2)
    obtain ⟨_, g2, _⟩ := gv.to st2 hr2 hw xs.length
    obtain ⟨z1, z2, z3⟩ := take_lst st2 hD hr2 hD2 nD2 ra
    exact .inl ⟨g2 rfl, o3 _ _ _ z1 z2 _ z3⟩
theorem me_lc (C : Cxt w k X) (hN : X.N.Nodup) {vs : List Nat} (hi : PI X tg iter (tI w EX mi)) (ok : blkC X.N X.env.scope scope own = true)
    (hg : ∀ (s : Shared) (H : Hp) (A : Addr) (cl : List (Str × Addr)) (fp : List Addr), PG (X.blk s H scope (compEnvC scope cl A X.env) fp) tg (tgG w.K g)) (ht : ∀ (s : Shared) (H : Hp) (A : Addr) (cl : List (Str × Addr)) (fp : List Addr), Cxt w k (X.blk s H scope (compEnvC scope cl A X.env) fp) → PTs (X.blk s H scope (compEnvC scope cl A X.env) fp) ifs (tT w EX2 t))
    (he : ∀ (s : Shared) (H : Hp) (A : Addr) (cl : List (Str × Addr)) (fp : List Addr), Cxt w k (X.blk s H scope (compEnvC scope cl A X.env) fp) → PE (X.blk s H scope (compEnvC scope cl A X.env) fp) elt (tM w EX2 m)) (ev : own.map (·.2) = vs := by rfl) (hvs : (tgI g).all (vs.contains ·) = true := by rfl) (hs : ∀ x, foldedSetIterable iter X.env x = pure x := by intro _; rfl) :
    PE X (.ListComp elt [⟨tg, iter, ifs, 0⟩] scope pos) (tM w EX (mLc mi g t m vs)) := by
  subst ev
  exact PE.imp (pe_lc C.calm hN hi (blkOk_by ok) hg (fun s H A cl fp => ht s H A cl fp (C.blk ..)) (fun s H A cl fp => he s H A cl fp (C.blk ..)) hs) fun σ H Q h => lc_reads hvs h
/-- name = [..] on one line -/
theorem ms_setLc (C : Cxt w k X) (hN : X.N.Nodup) (i : Nat) {y : Str} {py : Pos} {spos : Pos} {vs : List Nat} (hy : X.N[i]? = some y) (hyl : X.env.scope.names.lookup y = some .local) (hsw : swapsWith (.ListComp elt [⟨tg, iter, ifs, 0⟩] scope pos) (some (.Name y py)) spos.line X.env = pure true)
    (hi : PI X tg iter (tI w EX mi)) (ok : blkC X.N X.env.scope scope own = true)
    (hg : ∀ (s : Shared) (H : Hp) (A : Addr) (cl : List (Str × Addr)) (fp : List Addr), PG (X.blk s H scope (compEnvC scope cl A X.env) fp) tg (tgG w.K g)) (ht : ∀ (s : Shared) (H : Hp) (A : Addr) (cl : List (Str × Addr)) (fp : List Addr), Cxt w k (X.blk s H scope (compEnvC scope cl A X.env) fp) → PTs (X.blk s H scope (compEnvC scope cl A X.env) fp) ifs (tT w EX2 t))
    (he : ∀ (s : Shared) (H : Hp) (A : Addr) (cl : List (Str × Addr)) (fp : List Addr), Cxt w k (X.blk s H scope (compEnvC scope cl A X.env) fp) → PE (X.blk s H scope (compEnvC scope cl A X.env) fp) elt (tM w EX2 m)) (ev : own.map (·.2) = vs := by rfl) (hvs : (tgI g).all (vs.contains ·) = true := by rfl) (hs : ∀ x, foldedSetIterable iter X.env x = pure x := by intro _; rfl) :
    PS X (.Assign [.Name y py] (.ListComp elt [⟨tg, iter, ifs, 0⟩] scope pos) spos) (tS w EX (mSet i (mLc mi g t m vs))) := by
  subst ev
  refine PS_imp (ps_setLc C.calm hN hy hyl hsw hi (blkOk_by ok) hg (fun s H A cl fp => ht s H A cl fp (C.blk ..)) (fun s H A cl fp => he s H A cl fp (C.blk ..)) hs) fun D s H hh => ?_
  obtain ⟨M, rho, env, h, er, hr, o⟩ := hh
  refine lc_reads (Q := fun x H1 => gName i x s H1 D.nx) hvs (tM.of er hr (Out.bind o) fun y h1 M1 rho1 H1 v st1 er1 hr1 o1 rv => ?_)
  exact o1.now hr1 _ (er1.set rv i)
end
end MC

end
section
set_option maxRecDepth 100000
set_option maxHeartbeats 4000000
namespace MC
open PySem PySem.Spec PyProof.Rows L2

section
variable {w : Wo} {EX : XC} {X : Cx} {k : Nat} {f : Value} {M : Addr → Prop} {rho : List Addr} {H : Hp} {h : PH}
theorem CallR.imp {r r' : List V → Hp → VK → Prop} (c : CallR X f r) (i : ∀ xs H Q, r' xs H Q → r xs H Q) : CallR X f r' := fun pins s σ H xs us Q I rv h => c pins s σ H xs us Q I rv (i xs H Q h)
theorem CallR.orI {r1 r2 r' : List V → Hp → VK → Prop} (c1 : CallR X f r1) (c2 : CallR X f r2) (i : ∀ xs H Q, r' xs H Q → r1 xs H Q ∨ r2 xs H Q) : CallR X f r' := CallR.imp (CallR.or c1 c2) i
/-- the items of a list, a tuple -/
def seqP (h : PH) : PV → Option (List PV)
  | .tup xs => some xs
  | .scr xs => some xs
  | .ref n => match h[n]? with
    | some (.lst xs) => some xs
    | _ => none
  | _ => none
theorem seq_ok (hr : HR w M rho H h) {x : PV} {v : V} {xs : List PV} (r : VR w M rho H x v) (e : seqP h x = some xs) : ∃ a vs, v = .ref a ∧ VRs w M rho H xs vs ∧ (SqL w.K H a vs ∨ (SqT w.K H a vs ∧ x = .tup xs)) := by
  cases r with
  | tup q s => cases e; exact ⟨_, _, rfl, s, .inr ⟨q, rfl⟩⟩
  | scr q s => cases e; exact ⟨_, _, rfl, s, .inl q.sq⟩
  | @ref n a ha =>
    simp only [seqP] at e
    split at e
    · rename_i ys e0
      cases e
      obtain ⟨a', ha', vs, q1, q2⟩ := hr.ob _ _ e0
      rw [ha] at ha'
      cases ha'
      exact ⟨a, vs, rfl, q2, .inl (.inl (.inl q1))⟩
    · cases e
  | _ => cases e
/-- an argument's reading -/
theorem rA1 {op : OC} {xs : List V} {Q : VK} {P : Prop} (hh : rA w EX op xs H Q) (i : ∀ M rho h (ps : List PV), HR w M rho H h → VRs w M rho H ps xs → Out w EX M rho H (op h ps) (MC.KV w Q) → P) : P := by
  obtain ⟨M, rho, h, ps, hr, rs, o⟩ := hh
  exact i M rho h ps hr rs o

def bLen : OC := fun h xs => match xs with
  | [x] => match x with
    | .str s => bif decide (s.length ≤ LIM) then .ok (.int s.length) h else .stuck
    | .rdic ks => .ok (.int ks.length) h
    | x => match seqP h x with
      | some ys => .ok (.int ys.length) h
      | none => match x with
        | .ref n => match h[n]? with
          | some (.dic false ks) => .ok (.int ks.length) h
          | _ => .stuck
        | _ => .stuck
  | _ => .stuck
theorem KRs.len {ks : List (PV × PV)} {gs : List (Key × V)} (r : KRs w M rho H ks gs) : gs.length = ks.length := (KRs.at r).1.symm
def bInt : OC := fun h xs => match xs with
    | [.int i] => .ok (.int i) h
    | [.bl b] => .ok (.int (bif b then 1 else 0)) h
    | _ => .stuck
theorem b_int (C : Cxt w k X) : CallR X (.type "int") (rA w EX bInt) := by
  refine CallR.imp call_int1 fun xs H Q hh => rA1 hh fun M rho h ps hr rs o => ?_
  unfold bInt at o
  split at o
  · cases rs with
    | cons a b => cases a; cases b; exact .inl ⟨_, rfl, o.now hr _ (.int _)⟩
  · rename_i b
    cases rs with
    | cons a c => cases a; cases c; refine .inr ⟨_, rfl, o.now hr _ ?_⟩; cases b <;> exact .int _
  · exact (show False from o).elim
def bAbs : OC := fun h xs => match xs with
    | [.int i] => .ok (.int (if i < 0 then -i else i)) h
    | _ => .stuck
theorem b_abs : CallR X (.builtin "abs") (rA w EX bAbs) := by
  refine CallR.imp call_abs fun xs H Q hh => rA1 hh fun M rho h ps hr rs o => ?_
  unfold bAbs at o
  split at o
  · cases rs with
    | cons a b => cases a; cases b; exact ⟨_, rfl, o.now hr _ (.int _)⟩
  · exact (show False from o).elim
def B30 : Int := 1073741824
def bDivmod : OC := fun h xs => match xs with
    | [.int i, .int j] => bif decide (0 < j) && decide (j < B30) then .ok (.tup [.int (i / j), .int (i % j)]) h else .stuck
    | _ => .stuck
theorem b_divmod : CallR X (.builtin "divmod") (rA w EX bDivmod) := by
  refine CallR.imp call_divmod fun xs H Q hh => rA1 hh fun M rho h ps hr rs o => ?_
  unfold bDivmod at o
  split at o
  · obtain ⟨hj, o⟩ := Out.bif o
    rw [Bool.and_eq_true, decide_eq_true_eq, decide_eq_true_eq] at hj
    cases rs with
    | cons a b => cases b with
      | cons b c => cases a; cases b; cases c; exact ⟨_, _, rfl, hj, KV.tup hr o (.cons (.int _) (.cons (.int _) .nil))⟩
  · exact (show False from o).elim
def bMax2 : OC := fun h xs => match xs with
    | [.int i, .int j] => .ok (.int (if j > i then j else i)) h
    | _ => .stuck
theorem b_max2 (C : Cxt w k X) : CallR X (.builtin "max") (rA w EX bMax2) := by
  refine CallR.imp (call_max2 C.calm) fun xs H Q hh => rA1 hh fun M rho h ps hr rs o => ?_
  unfold bMax2 at o
  split at o
  · cases rs with
    | cons a b => cases b with
      | cons b c => cases a; cases b; cases c; exact ⟨_, _, rfl, o.now hr _ (.int _)⟩
  · exact (show False from o).elim
def bMin2 : OC := fun h xs => match xs with
    | [.int i, .int j] => .ok (.int (if j < i then j else i)) h
    | _ => .stuck
theorem b_min2 (C : Cxt w k X) : CallR X (.builtin "min") (rA w EX bMin2) := by
  refine CallR.imp (call_min2 C.calm) fun xs H Q hh => rA1 hh fun M rho h ps hr rs o => ?_
  unfold bMin2 at o
  split at o
  · cases rs with
    | cons a b => cases b with
      | cons b c => cases a; cases b; cases c; exact ⟨_, _, rfl, o.now hr _ (.int _)⟩
  · exact (show False from o).elim
theorem call_lenR : CallR X (.builtin "len") (fun xs H Q => ∃ a kvs, xs = [V.ref a] ∧ Rd H a (.dK kvs) ∧ Q (.int kvs.length) H) := by
  intro pins s σ H xs us Q I r h
  obtain ⟨a, kvs, rfl, ha, q⟩ := h
  obtain ⟨u, rfl, ru⟩ := vals1 r
  cases ru
  exact d_len I ha fun t s' I' => ⟨.int kvs.length, H, I', ⟨t, rfl⟩, q⟩
theorem vrs1 {x : PV} {xs : List V} (r : VRs w M rho H [x] xs) : ∃ v, xs = [v] ∧ VR w M rho H x v := by
  cases r with
  | cons a b => cases b; exact ⟨_, rfl, a⟩
theorem OR.dic {lk : Bool} {ks : List (PV × PV)} {a : Addr} (q : OR w M rho H a (.dic lk ks)) : ∃ gs, Rd H a (.dK gs) ∧ KRs w M rho H ks gs := by
  obtain ⟨gs, q1, q2⟩ := q
  refine ⟨gs, ?_, q2⟩
  cases lk with
  | false => exact .inl q1
  | true => obtain ⟨o, q1⟩ := q1; exact .inr ⟨o, q1⟩
theorem b_len (C : Cxt w k X) : CallR X (.builtin "len") (rA w EX bLen) := by
  refine CallR.orI call_len call_lenR fun xs H Q hh => rA1 hh fun M rho h ps hr rs o => ?_
  have seqc : ∀ {x : PV} {v : V} {ys : List PV}, VR w M rho H x v → seqP h x = some ys → Out w EX M rho H (.ok (.int ys.length) h) (MC.KV w Q) → ∃ x n, [v] = [x] ∧ LenV X.K x H n ∧ Q (.int n) H := fun {x v ys} rv e o => by
    obtain ⟨a, vs, rfl, rs, q⟩ := seq_ok hr rv e
    refine ⟨_, vs.length, rfl, ?_, by rw [rs.length]; exact o.now hr _ (.int _)⟩
    rw [C.hK]
    rcases q with q | ⟨q, _⟩
    · exact .inl ⟨vs, q, rfl⟩
    · exact .inr ⟨vs, q, rfl⟩
  unfold bLen at o
  split at o
  · rename_i x
    obtain ⟨v, rfl, rv⟩ := vrs1 rs
    split at o
    · rename_i s
      obtain ⟨hl, o⟩ := Out.bif o
      cases rv
      refine .inl ⟨_, s.length, rfl, ⟨?_, ?_⟩, o.now hr _ (.int _)⟩
      · show (S s).length ≤ _; rw [S_len, lim_eq]; exact of_decide_eq_true hl
      · show _ = (S s).length; rw [S_len]
    · rename_i ks
      cases rv with
      | rdic e n rk => exact .inr ⟨_, _, rfl, .inr ⟨_, e⟩, by rw [rk.len]; exact o.now hr _ (.int _)⟩
    · split at o
      · rename_i ys e
        exact .inl (seqc rv e o)
      · split at o
        · rename_i n _
          split at o
          · rename_i ks e0
            cases rv with
            | ref ha =>
              obtain ⟨a', ha', q⟩ := hr.ob _ _ e0
              rw [ha] at ha'
              cases ha'
              obtain ⟨gs, q1, q2⟩ := q.dic
              exact .inr ⟨_, gs, rfl, q1, by rw [q2.len]; exact o.now hr _ (.int _)⟩
          · exact (show False from o).elim
        · exact (show False from o).elim
  · exact (show False from o).elim
def bTuple : OC := fun h xs => match xs with
  | [x] => match seqP h x with
    | some ys => .ok (.tup ys) h
    | none => .stuck
  | _ => .stuck
theorem b_tuple (C : Cxt w k X) : CallR X (.type "tuple") (rA w EX bTuple) := by
  refine CallR.imp call_tuple_of fun xs H Q hh => rA1 hh fun M rho h ps hr rs o => ?_
  unfold bTuple at o
  split at o
  · rename_i x
    obtain ⟨v, rfl, rv⟩ := vrs1 rs
    split at o
    · rename_i ys e
      obtain ⟨a, vs, rfl, rs, q⟩ := seq_ok hr rv e
      rw [C.hK]
      rcases q with q | ⟨q, ex⟩
      · exact ⟨a, vs, rfl, .inl ⟨q, KV.tup hr o rs⟩⟩
      · subst ex
        exact ⟨a, vs, rfl, .inr ⟨q, o.now hr _ rv⟩⟩
    · exact (show False from o).elim
  · exact (show False from o).elim
/-- all bools, all ints, all texts -/
def blsP : List PV → Option (List Bool)
  | [] => some []
  | .bl b :: r => match blsP r with
    | some bs => some (b :: bs)
    | none => none
  | _ => none
def intsP : List PV → Option (List Int)
  | [] => some []
  | .int b :: r => match intsP r with
    | some bs => some (b :: bs)
    | none => none
  | _ => none
theorem bls_ok : ∀ {xs : List PV} {vs : List V} {bs : List Bool}, VRs w M rho H xs vs → blsP xs = some bs → vs = bs.map V.bl
  | _, _, _, .nil, e => by cases e; rfl
  | _, _, _, .cons a b, e => by
    cases a <;> simp only [blsP, reduceCtorEq] at e
    split at e
    · rename_i bs e2
      cases e
      rw [bls_ok b e2]; rfl
    · cases e
theorem ints_ok : ∀ {xs : List PV} {vs : List V} {bs : List Int}, VRs w M rho H xs vs → intsP xs = some bs → vs = bs.map V.int
  | _, _, _, .nil, e => by cases e; rfl
  | _, _, _, .cons a b, e => by
    cases a <;> simp only [intsP, reduceCtorEq] at e
    split at e
    · rename_i bs e2
      cases e
      rw [ints_ok b e2]; rfl
    · cases e
/-- a list (no tuple) of bools, of ints -/
def lstP (h : PH) : PV → Option (List PV)
  | .scr xs => some xs
  | .ref n => match h[n]? with
    | some (.lst xs) => some xs
    | _ => none
  | _ => none
theorem lst_ok (hr : HR w M rho H h) {x : PV} {v : V} {xs : List PV} (r : VR w M rho H x v) (e : lstP h x = some xs) : ∃ a vs, v = .ref a ∧ VRs w M rho H xs vs ∧ SqL w.K H a vs := by
  cases r with
  | scr q s => cases e; exact ⟨_, _, rfl, s, q.sq⟩
  | @ref n a ha =>
    simp only [lstP] at e
    split at e
    · rename_i ys e0
      cases e
      obtain ⟨a', ha', vs, q1, q2⟩ := hr.ob _ _ e0
      rw [ha] at ha'
      cases ha'
      exact ⟨a, vs, rfl, q2, .inl (.inl q1)⟩
    · cases e
  | _ => cases e
def bAll : OC := fun h xs => match xs with
  | [x] => match lstP h x with
    | some ys => match blsP ys with
      | some bs => .ok (.bl (bs.all id)) h
      | none => .stuck
    | none => .stuck
  | _ => .stuck
def bAny : OC := fun h xs => match xs with
  | [x] => match lstP h x with
    | some ys => match blsP ys with
      | some bs => .ok (.bl (bs.any id)) h
      | none => .stuck
    | none => .stuck
  | _ => .stuck
def bSum : OC := fun h xs => match xs with
  | [x] => match lstP h x with
    | some ys => match intsP ys with
      | some bs => .ok (.int bs.sum) h
      | none => .stuck
    | none => .stuck
  | _ => .stuck
theorem b_all (C : Cxt w k X) : CallR X (.builtin "all") (rA w EX bAll) := by
  refine CallR.imp (cr_all C.calm) fun xs H Q hh => rA1 hh fun M rho h ps hr rs o => ?_
  unfold bAll at o
  split at o
  · rename_i x
    obtain ⟨v, rfl, rv⟩ := vrs1 rs
    split at o
    · rename_i ys e
      obtain ⟨a, vs, rfl, rs, q⟩ := lst_ok hr rv e
      split at o
      · rename_i bs e2
        exact ⟨a, bs, rfl, by rw [C.hK, ← bls_ok rs e2]; exact q, o.now hr _ (.bl _)⟩
      · exact (show False from o).elim
    · exact (show False from o).elim
  · exact (show False from o).elim
theorem b_any (C : Cxt w k X) : CallR X (.builtin "any") (rA w EX bAny) := by
  refine CallR.imp (cr_any C.calm) fun xs H Q hh => rA1 hh fun M rho h ps hr rs o => ?_
  unfold bAny at o
  split at o
  · rename_i x
    obtain ⟨v, rfl, rv⟩ := vrs1 rs
    split at o
    · rename_i ys e
      obtain ⟨a, vs, rfl, rs, q⟩ := lst_ok hr rv e
      split at o
      · rename_i bs e2
        exact ⟨a, bs, rfl, by rw [C.hK, ← bls_ok rs e2]; exact q, o.now hr _ (.bl _)⟩
      · exact (show False from o).elim
    · exact (show False from o).elim
  · exact (show False from o).elim
theorem b_sum (C : Cxt w k X) : CallR X (.builtin "sum") (rA w EX bSum) := by
  refine CallR.imp (cr_sum C.calm) fun xs H Q hh => rA1 hh fun M rho h ps hr rs o => ?_
  unfold bSum at o
  split at o
  · rename_i x
    obtain ⟨v, rfl, rv⟩ := vrs1 rs
    split at o
    · rename_i ys e
      obtain ⟨a, vs, rfl, rs, q⟩ := lst_ok hr rv e
      split at o
      · rename_i bs e2
        exact ⟨a, bs, rfl, by rw [C.hK, ← ints_ok rs e2]; exact q, o.now hr _ (.int _)⟩
      · exact (show False from o).elim
    · exact (show False from o).elim
  · exact (show False from o).elim
end

/-- the kinds of values: 0 None, 1 bool, 2 int, 3 str, 4 tuple, 5 list, 6 dict -/
def kindN : Nat → String
  | 0 => "NoneType"
  | 1 => "bool"
  | 2 => "int"
  | 3 => "str"
  | 4 => "tuple"
  | 5 => "list"
  | _ => "dict"
def kindP (h : PH) : PV → Option (Nat ⊕ Nat)
  | .non => some (.inl 0)
  | .bl _ => some (.inl 1)
  | .int _ => some (.inl 2)
  | .str _ => some (.inl 3)
  | .tup _ => some (.inl 4)
  | .scr _ => some (.inl 5)
  | .rdic _ => some (.inl 6)
  | .ins c _ => some (.inr c)
  | .ref n => match h[n]? with
    | some (.lst _) => some (.inl 5)
    | some (.dic _ _) => some (.inl 6)
    | some (.ins c _) => some (.inr c)
    | some (.dit _ _) => none
    | none => none
  | .gl _ => none
/-- what isinstance says of a kind, by the tables tb (kinds) and cs (classes) -/
def isiT (tb cs : List (Nat × Bool)) : Nat ⊕ Nat → Option Bool
  | .inl n => tb.lookup n
  | .inr n => cs.lookup n
def mIsi (tb cs : List (Nat × Bool)) (m : ME) : ME := fun env h => (m env h).bind fun x h1 => match kindP h1 x with
  | some k => match isiT tb cs k with
    | some b => .ok (.bl b) h1
    | none => .stuck
  | none => .stuck
/-- what is known of a class for isinstance -/
structure ClsI (K : PySem.W.Frag) (C : Addr) : Prop where
  cl : Cls K C
  ha : PySem.W.findIn K (.ref C) "__class__" = some (some (.builtin "object.__class__"))
  hn : PySem.W.specialIn K (.builtin "object.__class__") "__get__" = some (some (.builtin "getset_descriptor.__get__"))
  htk : PySem.W.takesIn K (.builtin "object.__class__") = some true
  hm : PySem.W.mroIn K C (.type "object") = some true
/-- the tables are right -/
structure IsiOk (w : Wo) (u : Value) (tb cs : List (Nat × Bool)) : Prop where
  ty : ∀ p ∈ tb, PySem.W.kitOne w.K (.type (kindN p.1)) u = some p.2
  own : ∀ p ∈ cs, ∀ C, w.cl p.1 = some C → ClsI w.K C ∧ PySem.W.kitOne w.K (.ref C) u = some p.2
theorem lookup_mem {α : Type} {n : Nat} {b : α} : ∀ {l : List (Nat × α)}, l.lookup n = some b → (n, b) ∈ l
  | [], e => by cases e
  | (m, c) :: r, e => by
    rw [List.lookup_cons] at e
    cases q : n == m with
    | true => rw [q] at e; cases e; rw [beq_iff_eq.mp q]; exact List.mem_cons_self
    | false => rw [q] at e; exact List.mem_cons_of_mem _ (lookup_mem e)
section
variable {w : Wo} {EX : XC} {X : Cx} {k : Nat} {e c : Expr} {m : ME} {p pos : Pos} {M : Addr → Prop} {rho : List Addr} {H : Hp} {h : PH}
theorem kind_ok (hr : HR w M rho H h) {x : PV} {v : V} (r : VR w M rho H x v) {q : Nat ⊕ Nat} (ek : kindP h x = some q) : (∃ n, q = .inl n ∧ TyX w.K H v (.type (kindN n))) ∨ ∃ n C, q = .inr n ∧ w.cl n = some C ∧ (ClsI w.K C → TyX w.K H v (.ref C)) := by
  cases r with
  | non => cases ek; exact .inl ⟨0, rfl, .base .non⟩
  | bl b => cases ek; exact .inl ⟨1, rfl, .base (.bl b)⟩
  | int i => cases ek; exact .inl ⟨2, rfl, .base (.int i)⟩
  | str s => cases ek; exact .inl ⟨3, rfl, .base (.str _)⟩
  | tup s _ =>
    cases ek
    refine .inl ⟨4, rfl, ?_⟩
    rcases s with (s | ⟨o, s⟩) | ⟨o, its, n, s, c, _⟩
    · exact .base (.tup s)
    · exact .fTuple s
    · exact .kTuple s c
  | scr s _ =>
    cases ek
    refine .inl ⟨5, rfl, ?_⟩
    rcases s with ⟨o, its, n, s, c, _⟩ | ⟨o, s, _⟩
    · exact .kList s c
    · exact .base (.frz s)
  | rdic e n _ => cases ek; exact .inl ⟨6, rfl, .fDict e⟩
  | ins c e n _ =>
    cases ek
    exact .inr ⟨_, _, rfl, c, fun ci => .base (.ins e ci.cl ci.ha ci.hn ci.htk ci.hm)⟩
  | ref ha =>
    simp only [kindP] at ek
    split at ek
    · rename_i e0
      cases ek
      obtain ⟨a', ha', vs, q1, q2⟩ := hr.ob _ _ e0
      rw [ha] at ha'; cases ha'
      exact .inl ⟨5, rfl, .base (.lst q1)⟩
    · rename_i e0
      cases ek
      obtain ⟨a', ha', q⟩ := hr.ob _ _ e0
      rw [ha] at ha'; cases ha'
      obtain ⟨gs, q1, _⟩ := q.dic
      rcases q1 with q1 | ⟨o, q1⟩
      · exact .inl ⟨6, rfl, .base (.dK q1)⟩
      · exact .inl ⟨6, rfl, .fDict q1⟩
    · rename_i e0
      cases ek
      obtain ⟨a', ha', C, dx, gs, c, q1, q2⟩ := hr.ob _ _ e0
      rw [ha] at ha'; cases ha'
      exact .inr ⟨_, _, rfl, c, fun ci => .base (.ins q1 ci.cl ci.ha ci.hn ci.htk ci.hm)⟩
    · cases ek
    · cases ek
  | gl _ => cases ek
theorem isi_reads {u : Value} {cv : V} {tb cs : List (Nat × Bool)} (C : Cxt w k X) (B : IsiOk w u tb cs) (kc : ClsV cv u) {σ : L2.St} {Q : VK} (hh : tM w EX (mIsi tb cs m) σ H Q) : tCB (rIsi X.K) (tCons (tM w EX m) (tCons (tC cv) tNil)) σ H Q := by
  obtain ⟨M, rho, env, h, er, hr, o⟩ := hh
  refine tM.of er hr (Out.bind o) fun x h1 M1 rho1 H1 v st1 er1 hr1 o1 rv => ?_
  split at o1
  · rename_i kd ek
    split at o1
    · rename_i b eb
      have q := o1.now hr1 _ (.bl b)
      rcases kind_ok hr1 rv ek with ⟨n, rfl, ty⟩ | ⟨n, A, rfl, hA, ty⟩
      · have z := B.ty _ (lookup_mem (show tb.lookup n = some b from eb))
        exact ⟨v, cv, _, u, b, rfl, kc, by rw [C.hK]; exact ty, by rw [C.hK]; exact z, q⟩
      · obtain ⟨ci, z⟩ := B.own _ (lookup_mem (show cs.lookup n = some b from eb)) A hA
        exact ⟨v, cv, _, u, b, rfl, kc, by rw [C.hK]; exact ty ci, by rw [C.hK]; exact z, q⟩
    · exact (show False from o1).elim
  · exact (show False from o1).elim
/-- isinstance(e, T), T a builtin type -/
theorem me_isiT {x : Str} {T : String} {p1 p2 : Pos} {tb cs : List (Nat × Bool)} (C : Cxt w k X) (B : IsiOk w (.type T) tb cs) (he : PE X e (tM w EX m)) (hg : Gl X "isinstance") (hm : X.mg "isinstance" = none) (hg2 : Gl X x) (hm2 : X.mg x = none) (hv2 : bootBuiltins x = some (.type T)) (hn2 : x ≠ "__name__" := by decide) (hd2 : (x == ("__debug__" : Str)) = false := by decide)
    (hs : starEach [e, .Name x p2] X.env = (false, eval e X.env) :: starEach [.Name x p2] X.env := by rfl) (hs2 : starEach [.Name x p2] X.env = (false, eval (.Name x p2) X.env) :: starEach [] X.env := by rfl) (hpl : (backTo pos (starEach [.Name x p2] X.env)).any (·.1) = false := by rfl) :
    PE X (.Call (.Name "isinstance" p1) [e, .Name x p2] [] pos) (tM w EX (mIsi tb cs m)) :=
  PE.imp (pe_callB call_isi hg hm (by decide +kernel) (pa_cons he (pa_cons (pe_bltn (v := .ty T) hg2 hm2 hv2 rfl hn2 hd2) pa_nil hs2) hs) (by decide) (by decide) hs hpl) fun σ H Q h => isi_reads C B (.ty T) h
/-- isinstance(e, C), C an own class -/
theorem me_isiC {x : Str} {A : Addr} {p1 p2 : Pos} {tb cs : List (Nat × Bool)} (C : Cxt w k X) (B : IsiOk w (.ref A) tb cs) (he : PE X e (tM w EX m)) (hg : Gl X "isinstance") (hm : X.mg "isinstance" = none) (hg2 : Gl X x) (hm2 : X.mg x = some (.ref A)) (hd2 : (x == ("__debug__" : Str)) = false := by decide)
    (hs : starEach [e, .Name x p2] X.env = (false, eval e X.env) :: starEach [.Name x p2] X.env := by rfl) (hs2 : starEach [.Name x p2] X.env = (false, eval (.Name x p2) X.env) :: starEach [] X.env := by rfl) (hpl : (backTo pos (starEach [.Name x p2] X.env)).any (·.1) = false := by rfl) :
    PE X (.Call (.Name "isinstance" p1) [e, .Name x p2] [] pos) (tM w EX (mIsi tb cs m)) :=
  PE.imp (pe_callB call_isi hg hm (by decide +kernel) (pa_cons he (pa_cons (pe_glob (v := .ref A) hg2 hm2 rfl hd2) pa_nil hs2) hs) (by decide) (by decide) hs hpl) fun σ H Q h => isi_reads C B (.own A) h
end
end MC

end
section
set_option maxRecDepth 100000
set_option maxHeartbeats 4000000
namespace MC
open PySem PySem.Spec PyProof.Rows L2

/-- the receiver's kind: 0 text, 1 list -/
def isTy (h : PH) : Nat → PV → Bool
  | 0, .str _ => true
  | 1, x => (lstP h x).isSome
  | _, _ => false
def tyNm : Nat → String
  | 0 => "str"
  | _ => "list"
def mBM (ty : Nat) (op : OC) (mo : ME) (ma : MA) : ME := fun env h => (mo env h).bind fun x h1 => bif isTy h1 ty x then (ma env h1).bind fun xs h2 => op h2 (x :: xs) else .stuck
def rM (w : Wo) (EX : XC) (op : OC) : V → List V → Hp → VK → Prop := fun x xs H Q => ∃ M rho h px ps, HR w M rho H h ∧ VR w M rho H px x ∧ VRs w M rho H ps xs ∧ Out w EX M rho H (op h (px :: ps)) (MC.KV w Q)
section
variable {w : Wo} {EX : XC} {X : Cx} {k : Nat} {M : Addr → Prop} {rho : List Addr} {H : Hp} {h : PH}
theorem isTy_ok {K : PySem.W.Frag} (hK : K = w.K) (hr : HR w M rho H h) {ty : Nat} {x : PV} {v : V} (r : VR w M rho H x v) (e : isTy h ty x = true) : tyV K (tyNm ty) v H := by
  subst hK
  match ty with
  | 0 =>
    cases r <;> first
      | exact (show "str" = "str" from rfl)
      | (exact absurd e (by simp [isTy]))
  | 1 =>
    obtain ⟨xs, ex⟩ := Option.isSome_iff_exists.mp (show (lstP h x).isSome = true by cases x <;> exact e)
    obtain ⟨a, vs, rfl, rs, q⟩ := lst_ok hr r ex
    exact .inl ⟨rfl, vs, q⟩
  | n + 2 => exact absurd e (by simp [isTy])
variable {o e : Expr} {es : List Expr} {mo : ME} {ma : MA} {name : Str} {apos cpos : Pos} {id : String} {op : OC}
theorem me_bm (C : Cxt w k X) (ty : Nat) (pa : PlainAttrs (tyNm ty)) (slot : Slot (tyNm ty) name id) (hty : typeOf (.builtin id) = pure (.type "method_descriptor")) (hm : MtR X id (rM w EX op)) (ho : PE X o (tM w EX mo)) (ha : PA X (e :: es) (tA w EX ma))
    (hbase : attributeBase o name X.env (eval o X.env) = eval o X.env := by rfl)
    (hfew : ((backTo cpos (starEach (e :: es) X.env)).all (fun x => !x.1) && (backToKw cpos (keywordEach [] X.env)).all (fun x => x.1.isSome)
      && decide ((e :: es).length + ([] : List Keyword).length + (if ([] : List Keyword).isEmpty then 0 else 1) < 30)) = true := by rfl)
    (hline : (apos.endLine == cpos.line) = true := by rfl) (hs : starEach (e :: es) X.env = (false, eval e X.env) :: starEach es X.env := by rfl) (hplain : (backTo cpos (starEach es X.env)).any (·.1) = false := by rfl) :
    PE X (.Call (.Attribute o name apos) (e :: es) [] cpos) (tM w EX (mBM ty op mo ma)) := by
  refine PE.imp (pe_bm pa slot hty hm ho ha hbase hfew hline hs hplain) fun σ H Q hh => ?_
  obtain ⟨M, rho, env, h, er, hr, oo⟩ := hh
  refine tM.of er hr (Out.bind oo) fun x h1 M1 rho1 H1 v st1 er1 hr1 o1 rv => ?_
  obtain ⟨ht, o1⟩ := Out.bif o1
  refine ⟨isTy_ok C.hK hr1 rv ht, tA.of er1 hr1 (Out.bind o1) fun xs h2 M2 rho2 H2 vs st2 er2 hr2 o2 rs => ?_⟩
  exact ⟨M2, rho2, h2, x, xs, hr2, rv.step st2 hr1, rs, o2⟩
theorem MtR.imp {r r' : V → List V → Hp → VK → Prop} (c : MtR X id r) (i : ∀ x xs H Q, r' x xs H Q → r x xs H Q) : MtR X id r' := fun pins s σ H x xs v us Q I rx rs h => c pins s σ H x xs v us Q I rx rs (i x xs H Q h)
/-- the n-th object, a list, written -/
theorem KV.put {x : PV} {v : V} {n : Nat} {a : Addr} {xs : List PV} {vs : List V} {Q : VK} (hr : HR w M rho H h) (ha : rho[n]? = some a) {os : List PV} (h0 : h[n]? = some (.lst os)) (o : Out w EX M rho H (.ok x (h.set n (.lst xs))) (MC.KV w Q)) (rv : VR w M rho H x v) (r : VRs w M rho H xs vs) : Q v (upd H a (.lst vs)) := by
  have nf : ∀ p u, H a ≠ some (.frz p u) := fun p u z => by
    obtain ⟨a', ha', us, q1, _⟩ := hr.ob _ _ h0
    rw [ha] at ha'
    cases ha'
    rw [z] at q1
    cases q1
  have st := Step.write hr (o := .lst vs) ha nf
  exact o _ _ _ st (hr.write ha nf ⟨vs, upd_same, r.step st hr⟩) _ (rv.step st hr)
def oAppend : OC := fun h xs => match xs with
  | [.ref n, y] => match h[n]? with
    | some (.lst ys) => bif decide (ys.length < LIM) then .ok .non (h.set n (.lst (ys ++ [y]))) else .stuck
    | _ => .stuck
  | _ => .stuck
theorem ref_lst (hr : HR w M rho H h) {n : Nat} {v : V} {ys : List PV} (r : VR w M rho H (.ref n) v) (e : h[n]? = some (.lst ys)) : ∃ a vs, v = .ref a ∧ rho[n]? = some a ∧ H a = some (.lst vs) ∧ VRs w M rho H ys vs := by
  cases r with
  | ref ha =>
    obtain ⟨a', ha', vs, q1, q2⟩ := hr.ob _ _ e
    rw [ha] at ha'
    cases ha'
    exact ⟨_, vs, rfl, ha, q1, q2⟩
theorem o_append : MtR X "list.append" (rM w EX oAppend) := by
  refine MtR.imp mt_append fun x xs H Q hh => ?_
  obtain ⟨M, rho, h, px, ps, hr, rx, rs, o⟩ := hh
  unfold oAppend at o
  split at o
  · rename_i n y e
    cases e
    obtain ⟨u, rfl, ru⟩ := vrs1 rs
    split at o
    · rename_i ys e0
      obtain ⟨hl, o⟩ := Out.bif o
      obtain ⟨a, vs, rfl, ha, q1, q2⟩ := ref_lst hr rx e0
      exact ⟨a, vs, u, rfl, rfl, q1, by rw [q2.length, lim_eq]; exact of_decide_eq_true hl, KV.put hr ha e0 o .non (q2.append (.cons ru .nil))⟩
    · exact (show False from o).elim
  · exact (show False from o).elim
theorem VRs.dropLast {xs : List PV} {vs : List V} (r : VRs w M rho H xs vs) : VRs w M rho H xs.dropLast vs.dropLast := by
  rw [List.dropLast_eq_take, List.dropLast_eq_take, r.length]
  exact r.take _
/-- the text begins with -/
def isPre : List Nat → List Nat → Bool
  | [], _ => true
  | x :: xs, y :: ys => x == y && isPre xs ys
  | _ :: _, [] => false
end
end MC

end
section
set_option maxRecDepth 100000
set_option maxHeartbeats 4000000
namespace MC
open PySem PySem.Spec PyProof.Rows L2

section
variable {w : Wo} {EX : XC} {X : Cx} {k : Nat} {M : Addr → Prop} {rho : List Addr} {H : Hp} {h : PH}
/-- o[i] = v, by values -/
abbrev O3 := PH → PV → PV → PV → R Unit
def oSetIx : O3 := fun h o i v => match o, i with
  | .ref n, .int j => match h[n]? with
    | some (.lst xs) => match ixN xs.length j with
      | some k => .ok () (h.set n (.lst (xs.set k v)))
      | none => .stuck
    | _ => .stuck
  | _, _ => .stuck
def gSubM (op : O3) (mo mi : ME) : MG := fun x env h => (mo env h).bind fun o h1 => (mi env h1).bind fun i h2 => (op h2 o i x).bind fun _ h3 => .ok env h3
def r3 (w : Wo) (EX : XC) (op : O3) : TSet := fun o i v H Q => ∃ M rho h po pi pv, HR w M rho H h ∧ VR w M rho H po o ∧ VR w M rho H pi i ∧ VR w M rho H pv v ∧ Out w EX M rho H (op h po pi pv) fun _ _ _ _ H' => Q H'
theorem PSet.imp {t t' : TSet} (p : PSet X t) (i : ∀ o j v H Q, t' o j v H Q → t o j v H Q) : PSet X t' := fun pins s σ H o j v ov iv u Q I ro ri rv h => p pins s σ H o j v ov iv u Q I ro ri rv (i o j v H Q h)
theorem p_setIx : PSet X (r3 w EX oSetIx) := by
  refine PSet.imp set_list fun o j v H Q hh => ?_
  obtain ⟨M, rho, h, po, pi, pv, hr, ro, ri, rv, oo⟩ := hh
  unfold oSetIx at oo
  split at oo
  · rename_i n i
    split at oo
    · rename_i xs e0
      obtain ⟨a, vs, rfl, ha, q1, q2⟩ := ref_lst hr ro e0
      cases ri
      split at oo
      · rename_i k ek
        refine ⟨a, vs, i, k, rfl, rfl, q1, by rw [q2.length]; exact ek, ?_⟩
        have r' := q2.set rv k
        have nf : ∀ p u, H a ≠ some (.frz p u) := fun p u z => by rw [q1] at z; cases z
        have st := Step.write hr (o := .lst (vs.set k v)) ha nf
        exact oo _ _ _ st (hr.write ha nf ⟨_, upd_same, r'.step st hr⟩)
      · exact (show False from oo).elim
    · exact (show False from oo).elim
  · exact (show False from oo).elim
theorem mg_sub {o i : Expr} {mo mi : ME} {op : O3} {pos : Pos} (hs : PSet X (r3 w EX op)) (ho : PE X o (tM w EX mo)) (hi : PE X i (tM w EX mi))
    (ha : ∀ v, assign (.Subscript o i pos) X.env v = (do
      let ov ← holding [v] (eval o X.env)
      let iv ← holding [v, ov] (eval i X.env)
      standAt pos
      holding [v, ov, iv] (setItem ov iv v)
      release [v, ov, iv] []) := by intro _; rfl) : PG X (.Subscript o i pos) (tG w EX (gSubM op mo mi)) := by
  refine PG_imp (pg_sub ho hi hs ha) fun v s H Q hh => ?_
  obtain ⟨M, rho, env, h, x, er, hr, rv, oo⟩ := hh
  refine tM.of er hr (Out.bind oo) fun y h1 M1 rho1 H1 u st1 er1 hr1 o1 ry => ?_
  refine tM.of er1 hr1 (Out.bind o1) fun z h2 M2 rho2 H2 u2 st2 er2 hr2 o2 rz => ?_
  refine ⟨M2, rho2, h2, y, z, x, hr2, ry.step st2 hr1, rz, (rv.step st1 hr).step st2 hr1, (Out.bind o2).imp fun _ h3 M3 rho3 H3 st3 hr3 o3 => ?_⟩
  exact o3.now hr3 _ (er2.step st3 hr2)

def putP (f : Nm) (v : PV) : List (Nm × PV) → List (Nm × PV)
  | [] => [(f, v)]
  | (g, x) :: r => bif g == f then (g, v) :: r else (g, x) :: putP f v r
theorem FRs.put {f : Nm} {x : PV} {v : V} (r : VR w M rho H x v) : ∀ {fs : List (Nm × PV)} {gs : List (Str × V)}, FRs w M rho H fs gs → FRs w M rho H (putP f x fs) (putF (nmS f) v gs)
  | _, _, .nil => .cons r .nil
  | _, _, .cons (k := g) a b => by
    unfold putP putF
    cases q : g == f with
    | true =>
      rw [cond_true, if_pos (by rw [beq_iff_eq.mp q])]
      exact .cons r b
    | false =>
      rw [cond_false, if_neg (fun e => beq_eq_false_iff_ne.mp q (nmS_inj e))]
      exact .cons a (FRs.put r b)
theorem FRs.len : ∀ {fs : List (Nm × PV)} {gs : List (Str × V)}, FRs w M rho H fs gs → gs.length = fs.length
  | _, _, .nil => rfl
  | _, _, .cons a b => by rw [List.length_cons, List.length_cons, b.len]
/-- o.f = e -/
def mSetF (cs : List Nat) (f : Nm) (mo me : ME) : MS := fun env h => (me env h).bind fun v h1 => (mo env h1).bind fun o h2 => match o with
  | .ref n => match h2[n]? with
    | some (.ins c fs) => bif cs.contains c && decide (fs.length < 1000) then .ok (.nx env) (h2.set n (.ins c (putP f v fs))) else .stuck
    | _ => .stuck
  | _ => .stuck
theorem ms_fld {cs : List Nat} {o e : Expr} {z : Str} {mo me : ME} {pos pos' : Pos} (C : Cxt w k X) (f : Nm) (hf : z = nmS f) (hA : Fld w cs f) (ho : PE X o (tM w EX mo)) (he : PE X e (tM w EX me)) (hs : swapsWith e (some (.Attribute o z pos')) pos.line X.env = pure false := by rfl) :
    PS X (.Assign [.Attribute o z pos'] e pos) (tS w EX (mSetF cs f mo me)) := by
  subst hf
  refine PS_imp (ps_fld ho he hs) fun D s H hh => ?_
  obtain ⟨M, rho, env, h, er, hr, oo⟩ := hh
  refine tM.of er hr (Out.bind oo) fun x h1 M1 rho1 H1 v st1 er1 hr1 o1 rv => ?_
  refine tM.of er1 hr1 (Out.bind o1) fun y h2 M2 rho2 H2 u st2 er2 hr2 o2 ry => ?_
  split at o2
  · rename_i n
    split at o2
    · rename_i c fs e0
      obtain ⟨hc, o2⟩ := Out.bif o2
      rw [Bool.and_eq_true] at hc
      cases ry with
      | ref ha =>
        obtain ⟨a', ha', A, dx, gs, q1, q2, q3⟩ := hr2.ob _ _ e0
        rw [ha] at ha'
        cases ha'
        obtain ⟨f1, f2⟩ := hA c A (List.contains_iff_mem.mp hc.1) q1
        refine ⟨_, A, dx, gs, rfl, q2, by rw [C.hK]; exact f1, by rw [C.hK]; exact f2, by rw [q3.len]; exact of_decide_eq_true hc.2, ?_⟩
        have r' := q3.put (f := f) (rv.step st2 hr1)
        have nf : ∀ p u, H2 _ ≠ some (.frz p u) := fun p u z => by rw [q2] at z; cases z
        have st := Step.write hr2 (o := .ins A dx (putF (nmS f) v gs)) ha nf
        exact o2 _ _ _ st (hr2.write ha nf ⟨A, dx, _, q1, upd_same, r'.step st hr2⟩) _ (er2.step st hr2)
    · exact (show False from o2).elim
  · exact (show False from o2).elim

def mAug (i : Nat) (op : O2) (me : ME) : MS := fun env h => match env[i]? with
  | some (some x) => (me env h).bind fun y h1 => (op h1 x y).bind fun z h2 => .ok (.nx (env.set i (some z))) h2
  | _ => .stuck
theorem ms_aug (i : Nat) {x : Str} {e : Expr} {op : Operator} {f : O2} {me : ME} {pos pos' : Pos} (hN : X.N.Nodup) (ho : OpR X (inplaceOp op) (r2 w EX f)) (he : PE X e (tM w EX me)) (hi : X.N[i]? = some x := by rfl) (hx : Loc X.env.scope x := by first | exact Or.inl rfl | exact Or.inr rfl)
    (hf : X.fn x = true ∨ X.env.scope.names.lookup x = some .local := by first | exact .inl rfl | exact .inr rfl | assumption) : PS X (.AugAssign (.Name x pos') op e pos) (tS w EX (mAug i f me)) := by
  refine PS_imp (ps_aug (ti := r2 w EX f) hN hi hx he ho hf) fun D s H hh => ?_
  obtain ⟨M, rho, env, h, er, hr, oo⟩ := hh
  unfold mAug at oo
  split at oo
  · rename_i x0 e0
    obtain ⟨v, e1, r1⟩ := er.get e0
    refine ⟨v, e1, tM.of er hr (Out.bind oo) fun y h1 M1 rho1 H1 u st1 er1 hr1 o1 ry => ?_⟩
    refine ⟨M1, rho1, h1, x0, y, hr1, r1.step st1 hr, ry, (Out.bind o1).imp fun z h2 M2 rho2 H2 st2 hr2 o2 V rV => ?_⟩
    exact o2.now hr2 _ ((er1.step st2 hr1).set rV i)
  · exact (show False from oo).elim
/-- +=: ints, texts, a list by a list -/
def opIadd : O2 := fun h x y => match x, y with
  | .int i, .int j => .ok (.int (i + j)) h
  | .str a, .str b => bif decide (a.length + b.length ≤ LIM) then .ok (.str (a ++ b)) h else .stuck
  | .ref n, .ref m => match h[n]?, h[m]? with
    | some (.lst xs), some (.lst ys) => bif decide (xs.length + ys.length ≤ LIM) then .ok (.ref n) (h.set n (.lst (xs ++ ys))) else .stuck
    | _, _ => .stuck
  | _, _ => .stuck
theorem o_iadd : OpR X (inplaceOp .Add) (r2 w EX opIadd) := by
  intro pins s σ H x y v u Q I rx ry ⟨M, rho, h, px, py, hr, vx, vy, o⟩
  unfold opIadd at o
  split at o
  · cases vx; cases vy
    exact iop_add pins s σ H _ _ v u Q I rx ry ⟨_, _, rfl, rfl, o.now hr _ (.int _)⟩
  · rename_i a b
    obtain ⟨hl, o⟩ := Out.bif o
    cases vx; cases vy
    refine iop_add_str pins s σ H _ _ v u Q I rx ry ⟨S a, S b, rfl, rfl, by rw [S_len, S_len, lim_eq]; exact of_decide_eq_true hl, ?_⟩
    rw [S_app]
    exact o.now hr _ (.str _)
  · rename_i n m
    split at o
    · rename_i xs ys e0 e1
      obtain ⟨hl, o⟩ := Out.bif o
      obtain ⟨a, vs, rfl, ha, q1, q2⟩ := ref_lst hr vx e0
      obtain ⟨b, us, rfl, hb, p1, p2⟩ := ref_lst hr vy e1
      exact iop_ext pins s σ H _ _ v u Q I rx ry ⟨a, b, vs, us, rfl, rfl, q1, p1, by rw [q2.length, p2.length, lim_eq]; exact of_decide_eq_true hl, KV.put hr ha e0 o vx (q2.append p2)⟩
    · exact (show False from o).elim
  · exact (show False from o).elim
/-- a, b, c = x, y, z: plain local names -/
def mPar3 (i j l : Nat) (ma mb mc : ME) : MS := fun env h => (ma env h).bind fun x h1 => (mb env h1).bind fun y h2 => (mc env h2).bind fun z h3 => .ok (.nx (((env.set i (some x)).set j (some y)).set l (some z))) h3
end
end MC

end
section
set_option maxRecDepth 100000
set_option maxHeartbeats 4000000
namespace MC
open PySem PySem.Spec PyProof.Rows L2

def reprD (h : PH) (x : PV) : Option (List Nat) := match toD h DEP x with
  | some d => bif PyData.showable d && (!d.hasDict && (decide (d.depth ≤ 60) && decide (d.shown.length ≤ LIM))) then some d.shown.cps.toList else none
  | none => none
def isRefV : PV → Bool
  | .tup _ => true
  | .scr _ => true
  | .ref _ => true
  | _ => false
def bRepr : OC := fun h xs => match xs with
  | [x] => bif isRefV x then (match reprD h x with
    | some s => .ok (.str s) h
    | none => .stuck) else .stuck
  | _ => .stuck
section
variable {w : Wo} {EX : XC} {X : Cx} {k : Nat} {M : Addr → Prop} {rho : List Addr} {H : Hp} {h : PH}
theorem b_repr (C : Cxt w k X) : CallR X (.builtin "repr") (rA w EX bRepr) := by
  intro pins s σ H xs us Q I r hh
  obtain ⟨M, rho, h, ps, hr, rs, o⟩ := hh
  unfold bRepr at o
  split at o
  · rename_i x
    obtain ⟨v, rfl, rv⟩ := vrs1 rs
    obtain ⟨u, rfl, ru⟩ := vals1 r
    obtain ⟨hx, o⟩ := Out.bif o
    obtain ⟨a, rfl⟩ : ∃ a, v = .ref a := by
      cases rv <;> first | exact ⟨_, rfl⟩ | exact absurd hx (by simp [isRefV])
    obtain rfl : u = Value.ref a := ru
    unfold reprD at o
    split at o
    · rename_i z ez
      split at ez
      · rename_i d ed
        cases hc : (PyData.showable d && (!d.hasDict && (decide (d.depth ≤ 60) && decide (d.shown.length ≤ LIM)))) with
        | false => rw [hc] at ez; cases ez
        | true =>
          rw [hc] at ez
          cases ez
          simp only [Bool.and_eq_true, decide_eq_true_eq, Bool.not_eq_true'] at hc
          obtain ⟨c1, c2, c3, c4⟩ := hc
          have dp := toD_dp hr _ _ _ _ ed rv
          rw [← C.hK] at dp
          obtain ⟨as, rd⟩ := Dp.reads I d _ _ dp (show RelV (V.ref a) (Value.ref a) from rfl)
          have hu := C.units
          refine repr_of_reads' rd c1 (PyData.noDict_hsm c2) C.grd (by omega) (fun _ _ e => e) (fun h' u tk hk => ?_) (by rw [lim_eq]; exact c4)
          exact ⟨.str d.shown, H, I.kept (t' := tk) hk, ⟨u, rfl⟩, by
            have := o.now hr _ (.str _)
            rw [show (⟨d.shown.cps.toList.toArray⟩ : Str) = d.shown from S_of _] at this
            exact this⟩
      · cases ez
    · exact (show False from o).elim
  · exact (show False from o).elim

def mRev (m : ME) : ME := fun env h => (m env h).bind fun x h1 => match x with
  | .str s => bif decide (s.length ≤ LIM) then .ok (.str s.reverse) h1 else .stuck
  | x => match lstP h1 x with
    | some ys => .ok (.ref h1.length) (h1 ++ [.lst ys.reverse])
    | none => .stuck
theorem VRs.reverse {xs : List PV} {vs : List V} (r : VRs w M rho H xs vs) : VRs w M rho H xs.reverse vs.reverse := by
  induction xs generalizing vs with
  | nil => cases r; exact .nil
  | cons x xs ih =>
    cases r with
    | cons a b =>
      rw [List.reverse_cons, List.reverse_cons]
      exact (ih b).append (.cons a .nil)
end
end MC

end
section
set_option maxRecDepth 100000
set_option maxHeartbeats 4000000
namespace MC
open PySem PySem.Spec PyProof.Rows L2

set_option maxHeartbeats 8000000 in
theorem newEnum {v : Value} {o : Obj} {H : Heap → Prop} (B : Begins v o H) :
    Meets (Builtin.«enumerate.__new__» ⟨[.type "enumerate", v], []⟩) (fun _ R s => H s.heap ∧
      R (.ok (.ret (.ref (s.heap.push o).objs.size))) { s with heap := (s.heap.push o).push { cls := .type "enumerate", data := .fields #[.none, .bool false, .ref s.heap.objs.size, rawInt 0, .none, .none] } }) :=
  .of_wp fun prog w A R s h => by
    obtain ⟨hp, g, d, tk, os⟩ := s; obtain ⟨h1, h⟩ := h
    have hsub := sub_enumerate
    have begun : ∀ {A' : Around} {E : Value → Shared → Prop} {Q : Value → Shared → Prop}, Q (.ref hp.objs.size) ⟨hp.push o, g, d, tk, os⟩ → wpAny (model prog w) A' (pyIter v) Q E ⟨hp, g, d, tk, os⟩ :=
      fun q => B.iter prog w _ _ ⟨hp, g, d, tk, os⟩ _ h1 q
    wp_walk using begun
    refine wpAny_stack_any fun st => wpAny_pure ?_
    split
    · rename_i c _ _ _ _ _
      cases (c == Value.type "enumerate") <;> (wp_walk using begun; exact ⟨_, rfl, h⟩)
    · wp_walk using begun
      exact ⟨_, rfl, h⟩
section
variable {prog : Program} {w : World} {A : Around} {E : Value → Shared → Prop} {s : Shared}
theorem callEnum {v : Value} {o : Obj} {H : Heap → Prop} {Q : Value → Shared → Prop} (B : Begins v o H) (h1 : H s.heap)
    (h : ∀ h', IsEnum h' (s.heap.objs.size + 1) s.heap.objs.size 0 .none → h'.get? s.heap.objs.size = some o → h'.objs.size = s.heap.objs.size + 2 →
      (∀ b o, s.heap.get? b = some o → h'.get? b = some o) → Q (.ref (s.heap.objs.size + 1)) { s with heap := h' }) :
    wpAny (model prog w) A (call (.type "enumerate") [v]) Q E s := by
  refine callType_new F.called_enumerate (by decide) (F.typeCall_enumerate_1 _) (F.newCall_enumerate_1 _) (fun obj => F.args_object_init_2 obj _) F.entry_enumerate_new (newEnum B) ⟨h1, ?_⟩
  have sz : (s.heap.push o).objs.size = s.heap.objs.size + 1 := Heap.size_push ..
  show _ ∧ _
  rw [sz]
  have en : IsEnum ((s.heap.push o).push { cls := .type "enumerate", data := .fields #[.none, .bool false, .ref s.heap.objs.size, rawInt 0, .none, .none] }) (s.heap.objs.size + 1) s.heap.objs.size 0 .none := by
    have z := Heap.get?_push_size (s.heap.push o) (o := { cls := .type "enumerate", data := .fields #[.none, .bool false, .ref s.heap.objs.size, rawInt 0, .none, .none] }) rfl
    rw [sz] at z; exact z
  refine ⟨⟨_, en, rfl⟩, h _ en (Heap.get?_push_of_some _ (Heap.get?_push_size _ B.free)) (by rw [Heap.size_push, sz]) fun b o x => Heap.get?_push_of_some _ (Heap.get?_push_of_some _ x)⟩
end

/-- the tuple at a, each item with its number in a new pair -/
def ItE (K : PySem.W.Frag) (a : Addr) : It :=
  ⟨fun i H => ∃ (xs : List V) (x : V), SqT K H a xs ∧ xs[i]? = some x, fun i H v H' => ∃ T x, v = .ref T ∧ H T = none ∧ H' = upd H T (.tup [.int (i : Nat), x]) ∧ ∀ xs, SqT K H a xs → xs[i]? = some x, fun i H => ∃ xs : List V, SqT K H a xs ∧ xs.length ≤ i⟩
theorem turnE {P : Program} {w : World} {K : PySem.W.Frag} {elts : List Expr} {kk : Nat} {tpos : Pos} (a e it : Addr) :
    Turn P w K (.Tuple elts kk tpos) (ItE K a) [e, it] e (fun i h => (∃ old, IsEnum h e it ((i : Nat) : Int) old) ∧ h.IsTupleIter it a i ∧ e ≠ it ∧ a ≠ it ∧ a ≠ e) where
  mem := by simp
  obj := fun i h st b hb => by
    obtain ⟨⟨old, he⟩, ⟨o, ho, hc, hd⟩, _⟩ := st
    have e' : b = e ∨ b = it := by simpa using hb
    rcases e' with rfl | rfl
    · exact ⟨_, he, fun v q => nomatch q⟩
    · exact ⟨o, ho, fun v q => by rw [hd] at q; cases q⟩
  keep := fun i h h' st k => by
    obtain ⟨⟨old, he⟩, hi, hne⟩ := st
    exact ⟨⟨old, k e (by simp) _ he⟩, hi.at fun o q => k it (by simp) o q, hne⟩
  item := by
    intro X hP hw hK hc i pins s σ H E I hf st hg
    subst hP hw hK
    obtain ⟨⟨old, he⟩, hit, hne, ha1, ha2⟩ := st
    obtain ⟨xs, x, hq, hx⟩ := hg
    obtain ⟨its, rv, p, hz⟩ := I.tuple hq
    obtain ⟨u, hu, ru⟩ := rv.get hx
    have hel : e < s.heap.objs.size := Heap.lt_size he
    have hil : it < s.heap.objs.size := by obtain ⟨_, q, _⟩ := hit; exact Heap.lt_size q
    have D := Draws.tuple (prog := X.prog) (w := X.w) (A := X.A.in1) (by exact (I.ok.hd hc : X.A.handled = none)) it a ha1 its.toArray
    have hlt : i < its.toArray.size := by
      rw [List.size_toArray]
      exact (List.getElem?_eq_some_iff.mp hu).1
    refine wpAny_pyNext_enum_itemD D he ⟨hit, p⟩ hlt hne (by simp [hne, Ne.symm ha2]) fun z h' tk hPz ho hst hT hsz hk => ?_
    have ez : z = u := by
      have z1 : its.toArray[i]? = some u := by simpa using hu
      rw [show its.toArray[i]? = some z from hPz] at z1
      exact Option.some.inj z1
    subst ez
    refine ⟨_, rfl, wpAny_letOwnedTupleGo_enum (s := { s with heap := h', toks := tk + 1 }) ho fun h'' he' sb => ?_⟩
    have hT2 : h''.get? s.heap.objs.size = some { cls := .type "tuple", data := .seq #[.int i tk, z] } := (sb.2 _ (Nat.ne_of_gt hel)).trans hT
    have new : ObjOk X.prog X.w (upd H s.heap.objs.size (.tup [.int (i : Nat), x])) h'' s.heap.objs.size (.tup [.int (i : Nat), x]) :=
      ⟨by show 2 ≤ sizeLine; decide, [.int i tk, z], .cons ⟨_, rfl⟩ (.cons ru .nil), ⟨_, hT2, rfl, _, rfl⟩⟩
    have I1 : Inv X pins σ (upd H s.heap.objs.size (.tup [.int (i : Nat), x])) { s with heap := h'', toks := tk + 1 } :=
      I.turnedNew (ch := [e, it]) (fun b ob hb q => (sb.2 b (fun z => hb (by simp [z]))).trans (hk b ob (fun z => hb (by simp [z])) (fun z => hb (by simp [z])) q)) hf (Nat.le_refl _) new
    refine ⟨.ref s.heap.objs.size, _, I1, rfl, ⟨_, x, rfl, I.hok.fresh (Nat.le_refl _), rfl, fun ys hy => by rw [I.tuple_inj hy hq]; exact hx⟩, ⟨⟨z, ?_⟩, hst.1.at fun o q => (sb.2 it (Ne.symm hne)).trans q, hne, ha1, ha2⟩, fun b hb => ?_⟩
    · have e1 : ((i + 1 : Nat) : Int) = (i : Int) + 1 := by omega
      rw [e1]; exact he'
    · have hb' : b < s.heap.objs.size := by
        have e' : b = e ∨ b = it := by simpa using hb
        rcases e' with rfl | rfl
        · exact hel
        · exact hil
      rw [upd_ne (Nat.ne_of_lt hb')]
      exact (hf b hb).1
  done := by
    intro X hP hw hK hc i pins s σ H E I hf st hg
    subst hP hw hK
    obtain ⟨⟨old, he⟩, hit, hne, ha1, ha2⟩ := st
    obtain ⟨xs, hq, hx⟩ := hg
    obtain ⟨its, rv, p, hz⟩ := I.tuple hq
    obtain ⟨f0, f1, f2, f3, f4, f5⟩ := hf it (by simp)
    have hl := rv.length
    have hL : its.toArray.size ≤ i := by rw [List.size_toArray]; omega
    unfold pyNext
    refine wpAny_bind (wpAny_attempt (wpAny_callSpecial?_slot (name := Str.ofString "__next__") (T := "enumerate") ⟨_, he, rfl⟩ F.slot_enumerate_next
      (wpAny_call_entry F.slot_enumerate_next (show s.TypeIs (.ref e) "enumerate" from ⟨_, he, rfl⟩) F.entry_enumerate_next ?_ (F.args_enumerate_next_1 _))))
    show wpAny _ _ (field (.ref e) 2 >>= _) _ _ _
    refine wpAny_bind (wpAny_field he rfl (x := .ref it) rfl ?_)
    refine wpAny_bind (wpAny_nextOf_tuple_end (by exact (I.ok.hd hc : X.A.handled = none)) hit p (by simp; omega) fun h' x eb hx' => ?_)
    obtain ⟨o, ho, hcl⟩ := hx'
    refine wpAny_bind (wpAny_isInstance (T := "StopIteration") (b := true) ⟨o, ho, hcl⟩ isSubtype_stop ?_)
    exact wpAny_pure ⟨rfl, I.turned (t' := s.toks) (fun b o hb q => eb b o hb q) f0 f1 f3 f4 f5⟩
  self := fun A i s Q E st h => let ⟨⟨_, he⟩, _⟩ := st; wpAny_pyIter_enum he h

/-- the pairs of numbers and items -/
def numbered : Nat → List PV → List PV
  | _, [] => []
  | i, x :: r => .tup [.int i, x] :: numbered (i + 1) r
theorem numbered_get : ∀ (xs : List PV) (j i : Nat), (numbered j xs)[i]? = match xs[i]? with
    | some x => some (.tup [.int ((j + i : Nat) : Int), x])
    | none => none
  | [], j, i => by simp [numbered]
  | x :: r, j, 0 => by simp [numbered]
  | x :: r, j, i + 1 => by
    have := numbered_get r (j + 1) i
    simp only [numbered, List.getElem?_cons_succ]
    rw [this]
    have e : j + 1 + i = j + (i + 1) := by omega
    rw [e]
theorem numbered_len : ∀ (xs : List PV) (j : Nat), (numbered j xs).length = xs.length
  | [], _ => rfl
  | x :: r, j => by simp [numbered, numbered_len r (j + 1)]
/-- what must stay of a source -/
def wtOf (ys : List PV) : PV → Wt
  | .ref n => [(n, ys)]
  | _ => []
def miEnum (ma : MA) : MI := fun env h => (ma env h).bind fun xs h1 => match xs with
  | [x] => match seqP h1 x with
    | some ys => .ok (numbered 0 ys, wtOf ys x) h1
    | none => .stuck
  | _ => .stuck
section
variable {w : Wo} {EX : XC} {X : Cx} {k : Nat} {M : Addr → Prop} {rho : List Addr} {H : Hp} {h : PH}
theorem pair_new {H1 : Hp} {T : Addr} {x y : PV} {u v : V} {M1 : Addr → Prop} {rho1 : List Addr} {h1 : PH} (hr : HR w M1 rho1 H1 h1) (n : H1 T = none) (rx : VR w M1 rho1 H1 x u) (ry : VR w M1 rho1 H1 y v) :
    (∀ b o, H1 b = some o → upd H1 T (.tup [u, v]) b = some o) ∧ VR w M1 rho1 (upd H1 T (.tup [u, v])) (.tup [x, y]) (.ref T) := by
  have st : Step M1 rho1 H1 M1 rho1 (upd H1 T (.tup [u, v])) := Step.grow (same_upd n)
  exact ⟨same_upd n, .tup (SqT.of upd_same) (.cons (rx.step st hr) (.cons (ry.step st hr) .nil))⟩
theorem gives_enumL {ys : List PV} {wt : Wt} {a : Addr} (hs : ∀ {M1 : Addr → Prop} {rho1 : List Addr} {H1 : Hp} {h1 : PH}, Step M rho H M1 rho1 H1 → HR w M1 rho1 H1 h1 → watch wt h1 = true → ∃ vs, SqL w.K H1 a vs ∧ VRs w M1 rho1 H1 ys vs) : Gives w M rho H (numbered 0 ys) wt (Ite w.K a) := by
  refine ⟨fun {M1 rho1 H1 h1} st hr hw i => ?_⟩
  obtain ⟨vs, q, rv⟩ := hs st hr hw
  have W := walk_enum (K := w.K) (a := a) (xs := vs)
  rw [rv.length] at W
  rw [numbered_len]
  refine ⟨fun hi => W.goes i H1 hi q, fun hi => by subst hi; exact W.stops H1 q, fun v H' hi y => ?_⟩
  obtain ⟨T, x, u, e1, e2, e3, e4, e5⟩ := W.yields i H1 v H' hi q y
  subst e1; subst e3
  cases e4
  obtain ⟨z, hz⟩ : ∃ z, ys[i]? = some z := ⟨_, List.getElem?_eq_getElem hi⟩
  obtain ⟨v', f1, f2⟩ := rv.get hz
  have e5 : vs[i]? = some u := e5
  rw [e5] at f1
  cases f1
  obtain ⟨g1, g2⟩ := pair_new hr e2 (.int ((i : Nat) : Int)) f2
  exact ⟨g1, _, by rw [numbered_get, hz, Nat.zero_add], g2⟩
theorem gives_enumT {ys : List PV} {a : Addr} {vs : List V} (hr0 : HR w M rho H h) (q : SqT w.K H a vs) (rv : VRs w M rho H ys vs) : Gives w M rho H (numbered 0 ys) [] (ItE w.K a) := by
  refine ⟨fun {M1 rho1 H1 h1} st hr hw i => ?_⟩
  have q := st.sqT hr0 q
  have rv := rv.step st hr0
  rw [numbered_len]
  refine ⟨fun hi => ?_, fun hi => ?_, fun v H' hi y => ?_⟩
  · obtain ⟨z, hz⟩ : ∃ z, ys[i]? = some z := ⟨_, List.getElem?_eq_getElem hi⟩
    obtain ⟨v', f1, _⟩ := rv.get hz
    exact ⟨vs, v', q, f1⟩
  · subst hi
    exact ⟨vs, q, by rw [rv.length]; exact Nat.le_refl _⟩
  · obtain ⟨T, x, e1, e2, e3, e4⟩ := y
    subst e1; subst e3
    obtain ⟨z, hz⟩ : ∃ z, ys[i]? = some z := ⟨_, List.getElem?_eq_getElem hi⟩
    obtain ⟨v', f1, f2⟩ := rv.get hz
    rw [e4 vs q] at f1
    cases f1
    obtain ⟨g1, g2⟩ := pair_new hr e2 (.int ((i : Nat) : Int)) f2
    exact ⟨g1, _, by rw [numbered_get, hz, Nat.zero_add], g2⟩
/-- a list's items stay while it is watched -/
theorem lst_stays (hr : HR w M rho H h) {x : PV} {v : V} {ys : List PV} (r : VR w M rho H x v) (e : lstP h x = some ys) : ∃ a, v = .ref a ∧ (∃ vs, SqL w.K H a vs) ∧ ∀ {M1 : Addr → Prop} {rho1 : List Addr} {H1 : Hp} {h1 : PH}, Step M rho H M1 rho1 H1 → HR w M1 rho1 H1 h1 →
    watch (wtOf ys x) h1 = true → ∃ vs, SqL w.K H1 a vs ∧ VRs w M1 rho1 H1 ys vs := by
  cases r with
  | scr q s => cases e; exact ⟨_, rfl, ⟨_, q.sq⟩, fun st hr1 _ => ⟨_, (st.scr hr q).sq, s.step st hr⟩⟩
  | @ref n a ha =>
    simp only [lstP] at e
    split at e
    · rename_i zs e0
      cases e
      obtain ⟨a', ha', vs, q1, q2⟩ := hr.ob _ _ e0
      rw [ha] at ha'
      cases ha'
      refine ⟨a, rfl, ⟨vs, .inl (.inl q1)⟩, fun st hr1 hw => ?_⟩
      obtain ⟨a2, ha2, vs2, z1, z2⟩ := hr1.ob _ _ (watch_one hw)
      rw [st.ext _ _ ha] at ha2
      cases ha2
      exact ⟨vs2, .inl (.inl z1), z2⟩
    · cases e
  | _ => cases e
theorem seq_cases {x : PV} {ys : List PV} (e : seqP h x = some ys) : x = .tup ys ∨ lstP h x = some ys := by
  cases x <;> first
    | exact .inr e
    | (cases e; exact .inl rfl)
    | (cases e; done)
theorem mi_enum {e : Expr} {ma : MA} {p pos tpos : Pos} {elts : List Expr} {kk : Nat} (C : Cxt w k X) (hg : Gl X "enumerate") (hm : X.mg "enumerate" = none) (ha : PA X [e] (tA w EX ma)) (hs : starEach [e] X.env = [(false, eval e X.env)] := by rfl) :
    PI X (.Tuple elts kk tpos) (.Call (.Name "enumerate" p) [e] [] pos) (tI w EX (miEnum ma)) := by
  refine ⟨fun pins s σ H R I hh => ?_⟩
  obtain ⟨M, rho, env, h, er, hr, oo⟩ := hh
  refine Call_ (ld_blt I hg hm boot_enumerate (PyProof.Rows.callWith_type1 (thn (ha.run pos pins s σ H _ I (tA.of er hr (Out.bind oo) fun xs h1 M1 rho1 H1 vs st1 er1 hr1 o1 rs =>
    (⟨M1, rho1, h1, xs, hr1, rs, o1⟩ : ∃ M1 rho1 h1 xs, HR w M1 rho1 H1 h1 ∧ VRs w M1 rho1 H1 xs vs ∧ Out w EX M1 rho1 H1 (match xs with
      | [x] => match seqP h1 x with
        | some ys => .ok (numbered 0 ys, wtOf ys x) h1
        | none => .stuck
      | _ => .stuck) (KI w R)))) fun us s1 ⟨vs, H1, I1, r1, M1, rho1, h1, xs, hr1, rs, o1⟩ => ?_) hs rfl))
  split at o1
  · rename_i x
    obtain ⟨v, rfl, rv⟩ := vrs1 rs
    obtain ⟨u, rfl, ru⟩ := vals1 r1
    split at o1
    · rename_i ys es
      have q := o1.now hr1
      rcases seq_cases es with rfl | el
      · cases rv with
        | @tup _ us' a sq rs' =>
          obtain rfl : u = Value.ref a := ru
          have hR := q _ (gives_enumT hr1 sq rs')
          rw [← C.hK] at hR sq
          obtain ⟨its, rv, p', hz⟩ := I1.tuple sq
          have hal : a < s1.heap.objs.size := by obtain ⟨_, q, _⟩ := (show s1.heap.IsTuple a its.toArray from p'); exact Heap.lt_size q
          refine callEnum (begins_tuple a its.toArray) p' fun h' he hit hsz hk => wpAny_pyIter_enum he ?_
          have I2 : Inv X pins σ H1 { s1 with heap := h' } := I1.kept (t' := s1.toks) hk
          refine ⟨s1.heap.objs.size + 1, [s1.heap.objs.size + 1, s1.heap.objs.size], _, _, H1, rfl, I2, turnE a (s1.heap.objs.size + 1) s1.heap.objs.size, ⟨⟨.none, he⟩, ⟨_, hit, rfl, rfl⟩, Nat.succ_ne_self _, Nat.ne_of_lt hal, Nat.ne_of_lt (Nat.lt_succ_of_lt hal)⟩, fun b hb => ?_, hR⟩
          have e' : b = s1.heap.objs.size + 1 ∨ b = s1.heap.objs.size := by simpa using hb
          have hle : s1.heap.objs.size ≤ b := by rcases e' with rfl | rfl <;> omega
          exact I1.fpOk hle (I1.hok.fresh hle)
      · obtain ⟨a, rfl, ⟨vs, hq⟩, hst⟩ := lst_stays hr1 rv el
        obtain rfl : u = Value.ref a := ru
        have hR := q _ (gives_enumL hst)
        rw [← C.hK] at hR hq
        obtain ⟨its, rv, p', hz⟩ := I1.list hq
        refine call_enumerate_list p'.isList fun h' he hit hsz hk => wpAny_pyIter_enum he ?_
        have I2 : Inv X pins σ H1 { s1 with heap := h' } := I1.kept (t' := s1.toks) hk
        refine ⟨s1.heap.objs.size + 1, [s1.heap.objs.size + 1, s1.heap.objs.size], _, _, H1, rfl, I2, turn_enum a (s1.heap.objs.size + 1) s1.heap.objs.size, ⟨⟨.none, he⟩, hit, Nat.succ_ne_self _⟩, fun b hb => ?_, hR⟩
        have e' : b = s1.heap.objs.size + 1 ∨ b = s1.heap.objs.size := by simpa using hb
        have hle : s1.heap.objs.size ≤ b := by rcases e' with rfl | rfl <;> omega
        exact I1.fpOk hle (I1.hok.fresh hle)
    · exact (show False from o1).elim
  · exact (show False from o1).elim
end
end MC

end
section
set_option maxRecDepth 100000
set_option maxHeartbeats 4000000
namespace MC
open PySem PySem.Spec PyProof.Rows L2

def pairs : List PV → List PV → List PV
  | x :: xs, y :: ys => .tup [x, y] :: pairs xs ys
  | _, _ => []
def miZip (ma : MA) : MI := fun env h => (ma env h).bind fun xs h1 => match xs with
  | [x, y] => match x, y with
    | .tup xs, .tup ys => .ok (pairs xs ys, []) h1
    | x, y => match lstP h1 x, lstP h1 y with
      | some xs, some ys => .ok (pairs xs ys, wtOf xs x ++ wtOf ys y) h1
      | _, _ => .stuck
  | _ => .stuck
section
variable {w : Wo} {EX : XC} {X : Cx} {k : Nat} {M : Addr → Prop} {rho : List Addr} {H : Hp} {h : PH}
end
end MC

end
section
set_option maxRecDepth 100000
set_option maxHeartbeats 4000000
namespace MC
open PySem PySem.Spec PyProof.Rows L2

theorem kit_tc {K : PySem.W.Frag} {C : Addr} {cd : ClassData} {a : String} {b : Bool} (h1 : PySem.W.clsIn K C = some cd) (h2 : PySem.W.typeIn K (.ref C) = some (.type "type")) (h3 : PySem.W.subIn K (.type a) (.ref C) = some b) : PySem.W.kitOne K (.type a) (.ref C) = some b := by
  unfold PySem.W.kitOne PySem.W.kitCls
  have e : (Value.type a == Value.ref C) = false := rfl
  simp only [e, h1, h2, h3]
  rfl
theorem kit_ct {K : PySem.W.Frag} {C : Addr} {T : String} {b : Bool} (h1 : PySem.W.kitMeta T = true) (h3 : PySem.W.subIn K (.ref C) (.type T) = some b) : PySem.W.kitOne K (.ref C) (.type T) = some b := by
  unfold PySem.W.kitOne PySem.W.kitCls
  have e : (Value.ref C == Value.type T) = false := rfl
  simp only [e, h1, h3]
  rfl
theorem kit_cc {K : PySem.W.Frag} {C : Addr} : PySem.W.kitOne K (.ref C) (.ref C) = some true := if_pos (beq_self_eq_true _)
abbrev EXF : XC := fun _ _ _ _ _ _ => False
abbrev exF : XK → XC := fun _ => EXF
/-- a call of a def; a class made and taken over as a value -/
@[reducible] def opF (m : MF) (ix : List Nat) (dp : List PV) : OC := fun h xs => callG takeBack m (gI ix (xs ++ dp)) h
@[reducible] def opC (c : Nat) (m : MF) (ix : List Nat) (dp : List PV) : OC := fun h xs => callG takeFrz (initM c m ix dp) xs h
/-- the law's reading: the script is an unchanging list of ints -/
theorem law_reads {w : Wo} {EX : XC} {m : MF} {H : Hp} {a : Addr} {ns : List Int} (hO : Only H) (hS : SqL w.K H a (ns.map V.int)) (hm : ∃ h, m [.scr (ns.map PV.int)] [] = .ok (.bl true) h) :
    spM w EX m [.ref a] H fun v _ => v = .bl true := by
  obtain ⟨h, hm⟩ := hm
  have rs : ∀ ns : List Int, VRs w (fun _ => False) [] H (ns.map PV.int) (ns.map V.int) := fun ns => by
    induction ns with
    | nil => exact .nil
    | cons n r ih => exact .cons (.int n) ih
  have hL : ScrL w (fun _ => False) H a (ns.map V.int) := by
    rcases hS with (q | ⟨o, q⟩) | q
    · rcases hO a with z | ⟨o, xs, z⟩ <;> (rw [q] at z; cases z)
    · exact .inr ⟨o, q, fun z => z⟩
    · exact .inl q
  refine ⟨fun _ => False, [], [.scr (ns.map PV.int)], [], .cons (.scr hL (rs ns)) .nil, ⟨rfl, List.nodup_nil, (fun _ z => nomatch z), (fun _ z => z.elim), fun n o z => by simp at z⟩, ?_⟩
  rw [hm]
  intro M' rho' H' st hr v rv
  cases rv
  rfl

theorem law_run {P : Program} {W : World} {K : PySem.W.Frag} {mg mb : Str → Option Value} {k : Nat} {fa a : Addr} {fd : FuncData} {x : Str} {m : MF} {s : Shared} {vs : List Value} {ns : List Int}
    (kin : K.In s.heap) (nsG : s.heap.Ns mainGlobals mg) (nsB : s.heap.Ns builtinsNs mb) (isB : ∀ y : Str, y ≠ "__name__" → mb y = bootBuiltins y) (noL : s.heap.NoLimit) (gen0 : s.gens = #[])
    (at0 : s.heap.get? a = some { cls := .type "list", data := .seq vs.toArray }) (areI : IntsAre vs ns) (le : ns.length ≤ sizeLine) (room : Room k callerA)
    (F : ∀ base : Heap, K.In base → base.Ns mainGlobals mg → ∃ w : Wo, w.K = K ∧ FnM P W w mg base CX0 exF k fa fd [x] m) (bind : ∀ (s : Shared) (u : Value), BindsTo s fd ⟨[u], []⟩ [(x, u)])
    (hm : ∃ h, m [.scr (ns.map PV.int)] [] = .ok (.bl true) h) :
    codeAny (model P W) callerA (.call (.ref fa) ⟨[.ref a], []⟩) (fun r s' => r = .ok (.ret (.bool true)) ∧ OldK s.heap s'.heap ∧ s'.os = s.os ∧ AllBare s'.gens) s := by
  have vals := vals_ints areI
  have sz := areI.length
  have main : ∀ H : Hp, Only H → SqL K H a (ns.map V.int) → HOk P W H s.heap → (∀ b, H b ≠ none → b = a) → (H a ≠ none → K.lookup a = none) →
      codeAny (model P W) callerA (.call (.ref fa) ⟨[.ref a], []⟩) (fun r s' => r = .ok (.ret (.bool true)) ∧ OldK s.heap s'.heap ∧ s'.os = s.os ∧ AllBare s'.gens) s := by
    intro H only sq ok onlyA noK
    have none_of : ∀ {b : Addr} {ob : Obj}, s.heap.get? b = some ob → (b = a → False) → H b = none := fun {b ob} e z => by
      cases q : H b with
      | none => rfl
      | some u => exact (z (onlyA b (by rw [q]; exact Option.some_ne_none _))).elim
    have kept : ∀ {b : Addr} {mm : Str → Option Value}, s.heap.Ns b mm → (hidT s.heap H).Ns b mm := fun {b mm} ⟨ob, es, ep, e, d, r⟩ =>
      ⟨ob, es, ep, hidT_get e (none_of e fun z => by subst z; rw [at0] at e; cases e; exact Data.noConfusion (show Data.seq vs.toArray _ = Data.dict es ep from d)), d, r⟩
    have inK : K.In (hidT s.heap H) := fun b ob e => hidT_get (kin b ob e) (by
      cases q : H b with
      | none => rfl
      | some u =>
        have z := onlyA b (by rw [q]; exact Option.some_ne_none _)
        subst z
        rw [noK (by rw [q]; exact Option.some_ne_none _)] at e
        cases e)
    obtain ⟨w, hw, FM⟩ := F _ inK (kept nsG)
    have md : Mod K mg (hidT s.heap H) := ⟨inK, kept nsG, ⟨mb, kept nsB, isB⟩, by obtain ⟨mc, z1, z2⟩ := noL; exact ⟨mc, kept z1, z2⟩⟩
    have env : Env0 P W w.K mg (hidT s.heap H) callerA [] s H := by
      rw [hw]
      exact ⟨rfl, md, fun b ob e => of_hidT e, Nat.le_of_eq (hidT_size _ _), trivial, fun b z => by simp [frs] at z, ok, .of_eq gen0⟩
    refine codeAny_mono (FM.run callerA [] s H ⟨[.ref a], []⟩ [.ref a] [.ref a] (fun v _ => v = .bl true) (fun _ _ _ => False) room rfl env (bind s (.ref a)) (.cons rfl .nil) rfl (law_reads only (by rw [hw]; exact sq) hm)) fun r s' q => ?_
    rcases r with e | fl
    · exact (show False from q).elim
    · cases fl <;> try exact (show False from q).elim
      rename_i u
      obtain ⟨v, H', e1, e2, un, ok2, rv, ev⟩ := q
      cases (show v = V.bl true from ev)
      cases (show u = Value.bool true from rv)
      refine ⟨rfl, OldK.of_keep fun b ob e => ?_, e1, e2⟩
      rcases only b with z | ⟨o2, xs, z⟩
      · exact un.keep b ob e z (fun y => by simp [frs] at y) (by simp)
      · obtain ⟨y1, _⟩ := ok b _ z
        obtain ⟨y2, _⟩ := ok2 b _ (un.frzs b o2 _ z)
        rw [e] at y1
        cases y1
        exact y2
  rcases hk : K.lookup a with _ | o
  · refine main (fun b => if b = a then some (.frz { cls := .type "list", data := .seq vs.toArray } (.lst (ns.map V.int))) else none) (fun b => ?_) (.inl (.inr ⟨_, if_pos rfl⟩)) (fun b u z => ?_) (fun b z => ?_) fun _ => hk
    · by_cases e : b = a
      · exact .inr ⟨_, _, if_pos e⟩
      · exact .inl (if_neg e)
    · by_cases e : b = a
      · cases (if_pos e).symm.trans z
        subst e
        exact ⟨at0, by rw [List.length_map]; exact le, vs, _, vals, at0⟩
      · cases (if_neg e).symm.trans z
    · by_cases e : b = a
      · exact e
      · exact absurd (if_neg e) z
  · have e := kin a o hk
    rw [at0] at e
    cases e
    exact main (fun _ => none) (fun _ => .inl rfl) (.inr ⟨_, vs.toArray, _, hk, rfl, rfl, rfl, by rw [List.size_toArray, sz]; exact le, by simpa using vals⟩) (fun b u z => by cases (show (none : Option HO) = some u from z)) (fun b z => absurd rfl z) fun z => absurd rfl z

/-- the walk: from the law's mirror, true on every script -/
theorem walkM {l : PySem.W.OpenLaw} {n k : Nat} {q : Program} {loose : List Str} {XP : (Str → Option Value) → Heap → Prop} {YP : World → Heap → Prop} {d : DefRec} {K : Params → PySem.W.Frag} {x : Str} {m : MF}
    (hn : l.most = some n) (le : n ≤ sizeLine) (hdf : d.params.defaults = []) (room : Room k callerA) (hY : ∀ (W : World) (h : Heap), YP W h → (K W.params).In h)
    (F : ∀ (W : World) (mg : Str → Option Value) (fa : Addr) (h : Heap), (K W.params).In h → h.Ns mainGlobals mg → mg d.name = some (.ref fa) →
      ∃ fd : FuncData, (∀ (s : Shared) (u : Value), BindsTo s fd ⟨[u], []⟩ [(x, u)]) ∧
        ∀ base : Heap, (K W.params).In base → base.Ns mainGlobals mg → ∃ w : Wo, w.K = K W.params ∧ FnM l.prog W w mg base CX0 exF k fa fd [x] m)
    (hm : ∀ ns : List Int, ns.length ≤ n → ∃ h, m [.scr (ns.map PV.int)] [] = .ok (.bl true) h) : PySem.W.WalkO q loose XP YP l.row.toRowW d [] (fun f vs => PySem.call f vs) := by
  refine Att.attach_call hn hdf fun W s0 s1 mg mb fa o pm cd doc a vs ns G Y ho hd hcd hmg hobj areI hlen gen0 => ?_
  obtain ⟨fd, hb, hF⟩ := F W mg fa _ (hY W _ Y) G.T.g hmg
  exact law_run (hY W _ Y) G.T.g G.T.b G.T.builtins G.T.nolimit gen0 hobj areI (Nat.le_trans hlen le) room hF hb (hm ns hlen)
end MC

end
section
set_option maxRecDepth 100000
set_option maxHeartbeats 4000000
namespace MC
open PySem PySem.Spec PyProof.Rows L2

def putKP (k x : PV) (kvs : List (PV × PV)) : List (PV × PV) := bif (lookP k kvs).isSome then kvs.map (fun p => bif keyQ p.1 k then (p.1, x) else p) else kvs ++ [(k, x)]
section
variable {w : Wo} {EX : XC} {X : Cx} {k : Nat} {M : Addr → Prop} {rho : List Addr} {H : Hp} {h : PH}
theorem KRs.append : ∀ {as bs : List (PV × PV)} {cs ds : List (Key × V)}, KRs w M rho H as cs → KRs w M rho H bs ds → KRs w M rho H (as ++ bs) (cs ++ ds)
  | _, _, _, _, .nil, s => s
  | _, _, _, _, .cons k r t, s => .cons k r (KRs.append t s)
theorem KRs.put {q x : PV} {j : Key} {v : V} {v0 : V} {kvs : List (PV × PV)} {ks : List (Key × V)} (hx : isKey q = true) (rq : VR w M rho H q v0) (hq : keyP q = some j) (rx : VR w M rho H x v) (r : KRs w M rho H kvs ks) : KRs w M rho H (putKP q x kvs) (putK ks j v) := by
  have rep : ∀ {kvs : List (PV × PV)} {ks : List (Key × V)}, KRs w M rho H kvs ks → KRs w M rho H (kvs.map fun p => bif keyQ p.1 q then (p.1, x) else p) (ks.map fun kv => if kv.1 = j then (kv.1, v) else kv) := by
    intro kvs
    induction kvs with
    | nil => intro ks r; cases r; exact .nil
    | cons p kvs ih =>
      intro ks r
      cases r with
      | @cons k y i u _ gs hk hv ht =>
        obtain ⟨i', h1', _, e⟩ := keyQ_iff hk hx rq
        rw [hq] at h1'
        cases h1'
        rw [List.map_cons, List.map_cons]
        by_cases q : i = j
        · simp only [e, q, decide_true, cond_true, if_true]
          exact .cons (by rw [← q]; exact hk) rx (ih ht)
        · simp only [e, q, decide_false, cond_false, if_false]
          exact .cons hk hv (ih ht)
  obtain ⟨i, h1, _, h3⟩ := lookP_ok hx rq
  rw [hq] at h1
  cases h1
  unfold putKP putK
  rcases h3 r with ⟨z1, z2⟩ | ⟨y, u, z1, z2, _⟩
  · rw [valV_any, z1, z2]
    exact r.append (.cons hq rx .nil)
  · rw [valV_any, z1, z2]
    exact rep r

/-- the pairs, read one behind the other -/
structure PPm (X : Cx) (w : Wo) (EX : XC) (pos : Pos) (keys : List (Option Expr)) (values : List Expr) (m : MA) : Prop where
  run : ∃ trs : List (TE × TE), PPs X pos keys values trs ∧ ∀ (σ : L2.St) (H : Hp) (Q : List (V × V) → Hp → Prop), tA w EX m σ H (fun vs H1 => ∀ ps : List (V × V), vs = ps.flatMap (fun p => [p.1, p.2]) → Q ps H1) → tPairs trs σ H Q
end
end MC

end
section
set_option maxRecDepth 100000
set_option maxHeartbeats 4000000
namespace MC
open PySem PySem.Spec PyProof.Rows L2

section
variable {w : Wo} {EX : XC} {X : Cx} {k n c : Nat} {M : Addr → Prop} {rho : List Addr} {H : Hp} {h : PH}
variable {f A : Addr} {ks : List Str} {op : OC} {m : Nm} {pos apos : Pos} {e o : Expr} {es : List Expr} {kws : List Keyword} {ma mk : MA} {mo : ME} {pl : Sem Bool}
end
end MC

end
section
set_option maxRecDepth 100000
set_option maxHeartbeats 4000000
namespace MC
open PySem PySem.Spec PyProof.Rows L2

section
variable {w : Wo} {X : Cx} {k n : Nat} {f : Addr} {fd : FuncData} {ps : List Str} {m : MF} {ix : List Nat} {M : Addr → Prop} {rho : List Addr} {h : PH} {pins : List (Addr × Obj)} {σ : L2.St} {H : Hp} {s : Shared}
end
end MC

end
section
set_option maxRecDepth 100000
set_option maxHeartbeats 4000000
namespace MC
open PySem PySem.Spec PyProof.Rows L2

section
variable {w : Wo} {EX : XC} {X : Cx} {k : Nat} {M : Addr → Prop} {rho : List Addr} {H : Hp} {h : PH}
end
end MC

end
section
set_option maxRecDepth 100000
set_option maxHeartbeats 4000000
namespace MC
open PySem PySem.Spec PyProof.Rows L2

/-- a class's own special method -/
structure SpM (P : Program) (W : World) (w : Wo) (mg : Str → Option Value) (base : Heap) (c : Nat) (nm : Str) (k n : Nat) (m : MF) (ix : List Nat) : Prop where
  ex : ∃ A f fd ps, w.cl c = some A ∧ PySem.W.findIn w.K (.ref A) nm = some (some (.ref f)) ∧ PySem.W.isFn w.K (.ref f) = true ∧ FnM P W w mg base CX0 exF k f fd ps m ∧ Bd w.K fd ps [] n [] ix
section
variable {w : Wo} {EX : XC} {X : Cx} {k c : Nat} {m : MF} {ix : List Nat} {M : Addr → Prop} {rho : List Addr} {H : Hp} {h : PH}
variable {n : Nat} {f A : Addr} {op : OC} {m : Nm} {pos apos : Pos} {e o : Expr} {es : List Expr} {ks : List Str} {kws : List Keyword} {ma mk : MA} {mo : ME} {pl : Sem Bool}
end
end MC

end
section
set_option maxRecDepth 100000
set_option maxHeartbeats 4000000
namespace MC
open PySem PySem.Spec PyProof.Rows L2

def findT (s : List Nat) : List (List Nat × PV) → Option PV
  | [] => none
  | (k, v) :: r => bif k == s then some v else findT s r
/-- the i-th global is a written dict with these rows -/
structure KTab (w : Wo) (W : World) (i : Nat) (rows : List (List Nat × PV)) : Prop where
  ex : ∃ d es n, w.gv i = some (.ref d) ∧ KDict w.K W d es n ∧ ∀ s : List Nat, (findT s rows = none ∧ PySem.W.nsIn w.K d ⟨s.toArray⟩ = some none) ∨
    ∃ y u v, findT s rows = some y ∧ PySem.W.nsIn w.K d ⟨s.toArray⟩ = some (some u) ∧ RelV v u ∧ ∀ M rho H, VR w M rho H y v
section
variable {w : Wo} {EX : XC} {X : Cx} {k : Nat} {rows : List (List Nat × PV)} {i : Nat}
end
/-- the globals by number -/
def gvOf (l : List (Nat × Addr)) : Nat → Option V := fun i => (l.lookup i).map V.ref
theorem gvn_of {l : List (Nat × Addr)} : ∀ i v, gvOf l i = some v → v ≠ .non := fun i v e => by
  unfold gvOf at e
  obtain ⟨a, _, rfl⟩ := Option.map_eq_some_iff.mp e
  exact fun z => nomatch z
inductive RowsOk (w : Wo) : List (Int × Str × Tok × Value) → List (List Nat × PV) → Prop
  | nil : RowsOk w [] []
  | cons {h : Int} {z : Str} {t : Tok} {u : Value} {k : List Nat} {y : PV} {v : V} {r r'} : z = ⟨k.toArray⟩ → RelV v u → (∀ M rho H, VR w M rho H y v) → RowsOk w r r' → RowsOk w ((h, z, t, u) :: r) ((k, y) :: r')
end MC

end
section
set_option maxRecDepth 100000
set_option maxHeartbeats 4000000
namespace MC
open PySem PySem.Spec PyProof.Rows L2

def strI (i : Int) : List Nat := (Str.ofString (toString i)).cps.toList
def bigI : Nat := 1920
def fitI (i : Int) : Bool := decide (i.natAbs.log2 < bigI)
section
variable {w : Wo} {EX : XC} {X : Cx} {k : Nat} {M : Addr → Prop} {rho : List Addr} {H : Hp} {h : PH}
end
end MC

end
section
set_option maxRecDepth 100000
set_option maxHeartbeats 4000000
namespace MC
open PySem PySem.Spec PyProof.Rows L2 SkE
def trueT : List Nat := [84, 114, 117, 101]
def falseT : List Nat := [70, 97, 108, 115, 101]
def noneT : List Nat := [78, 111, 110, 101]
def reprS (s : List Nat) : List Nat := (reprText (S s)).cps.toList
def bReprA : OC := fun h xs => match xs with
  | [.non] => .ok (.str noneT) h
  | [.bl b] => .ok (.str (bif b then trueT else falseT)) h
  | [.int i] => bif fitI i then .ok (.str (strI i)) h else .stuck
  | [.str s] => bif decide ((reprText (S s)).length ≤ LIM) then .ok (.str (reprS s)) h else .stuck
  | _ => bRepr h xs
section
variable {w : Wo} {EX : XC} {X : Cx} {k : Nat} {M : Addr → Prop} {rho : List Addr} {H : Hp} {h : PH}
end
end MC

end
section
set_option maxRecDepth 100000
set_option maxHeartbeats 4000000
namespace MC
open PySem PySem.Spec PyProof.Rows L2
open PySem.W (Looks)
section
variable {w : Wo} {EX : XC} {X : Cx} {k c : Nat} {m : MF} {ix : List Nat} {M : Addr → Prop} {rho : List Addr} {H : Hp} {h : PH} {tb cs : List (Nat × Bool)}
end
end MC

end
section
set_option maxRecDepth 100000
set_option maxHeartbeats 4000000
namespace PySem.W
open PySem PySem.Calls PyProof.Rows Builtin Builtin.ObjectAttr Builtin.Getset_descriptor
section
variable {prog : Program} {w : World} {A : Around} {E : Value → Shared → Prop} {h₀ h : Heap} {g : Array GenState} {d : Drawn} {t : Nat} {os : OsState} {K : Frag} {x C L f : Addr} {m : Str → Option Value} {ox : Obj} {od : Option Obj} {y tb : Value}
end
end PySem.W
namespace MC
open PySem PySem.Spec PyProof.Rows L2
section
variable {w : Wo} {EX : XC} {X : Cx} {k c : Nat} {m : MF} {ix : List Nat}
end
end MC

end
section
set_option maxRecDepth 100000
set_option maxHeartbeats 4000000
namespace PySem.W
open PySem PySem.Calls PyProof.Rows Builtin Builtin.ObjectAttr Builtin.Getset_descriptor
section
variable {prog : Program} {w : World} {A : Around} {E : Value → Shared → Prop} {s : Shared} {K : Frag} {x C L f : Addr} {h₀ : Heap} {m : Str → Option Value} {ox : Obj} {od : Option Obj}
end
end PySem.W
namespace MC
open PySem PySem.Spec PyProof.Rows L2
section
variable {w : Wo} {EX : XC} {X : Cx} {k c : Nat} {m : MF} {ix : List Nat} {M : Addr → Prop} {rho : List Addr} {H : Hp} {h : PH}
end
end MC

end
section
set_option maxRecDepth 100000
set_option maxHeartbeats 4000000
namespace MC
open PySem PySem.Spec PyProof.Rows L2

def eqK (a b : PV) : Bool := match nkP a, nkP b with
  | some x, some y => decide (x = y)
  | _, _ => false
def lookT (x : PV) : List (PV × PV) → Option PV
  | [] => none
  | (k, v) :: r => bif eqK k x then some v else lookT x r
def putT (k x : PV) (kvs : List (PV × PV)) : List (PV × PV) := bif (lookT k kvs).isSome then kvs.map (fun p => bif eqK p.1 k then (p.1, x) else p) else kvs ++ [(k, x)]
section
variable {w : Wo} {EX : XC} {X : Cx} {k : Nat} {M : Addr → Prop} {rho : List Addr} {H : Hp} {h : PH} {pins : List (Addr × Obj)} {σ : L2.St} {s : Shared}
mutual
theorem VR.nested (I : Inv X pins σ H s) (hK : X.K = w.K) : ∀ {x : PV} {v : V} {nk : NestedKey} {u : Value}, VR w M rho H x v → nkP x = some nk → RelV v u → NestedIs s.heap nk u
  | _, _, _, _, .non, e, r => by cases e; cases r; exact .none
  | _, _, _, _, .bl b, e, r => by cases e; cases r; exact .bool rfl
  | _, _, _, _, .int i, e, r => by cases e; obtain ⟨t, rfl⟩ := r; exact .int _ _
  | _, _, _, _, .str i, e, r => by cases e; obtain ⟨t, rfl⟩ := r; exact .text _ _
  | _, _, _, _, .tup (xs := xs) q s, e, r => by
    cases r
    unfold nkP at e
    cases e1 : nkPs xs with
    | none => rw [e1] at e; cases e
    | some ks =>
      rw [e1] at e; cases e
      rw [← hK] at q
      obtain ⟨its, rv, p, hz⟩ := I.tuple q
      obtain ⟨o, h1, h2, n, h3⟩ := p
      exact .tup h1 h2 h3 (by simpa using VRs.nested I hK s e1 rv)
  | _, _, _, _, .scr _ _, e, r => by cases e
  | _, _, _, _, .rdic _ _ _, e, r => by cases e
  | _, _, _, _, .ins _ _ _ _, e, r => by cases e
  | _, _, _, _, .ref _, e, r => by cases e
  | _, _, _, _, .gl _, e, r => by cases e
theorem VRs.nested (I : Inv X pins σ H s) (hK : X.K = w.K) : ∀ {x : List PV} {v : List V} {nk : List NestedKey} {u : List Value}, VRs w M rho H x v → nkPs x = some nk → Vals v u → NestedAll s.heap nk u
  | _, _, _, _, .nil, e, r => by cases e; cases r; exact .nil
  | _, _, _, _, .cons (x := x) (xs := xs) a b, e, r => by
    unfold nkPs at e
    cases e1 : nkP x with
    | none => rw [e1] at e; cases e
    | some y =>
      cases e2 : nkPs xs with
      | none => rw [e1, e2] at e; cases e
      | some ys =>
        rw [e1, e2] at e; cases e
        cases r with
        | cons r1 r2 => exact .cons (VR.nested I hK a e1 r1) (VRs.nested I hK b e2 r2)
end
theorem lookT_ok {x : PV} {nk : NestedKey} (hx : nkP x = some nk) : ∀ {kvs : List (PV × PV)} {xs : List (NestedKey × Addr × Value)}, TRs w M rho H kvs xs →
    (lookT x kvs = none ∧ atKey xs nk = none) ∨ ∃ y p v, lookT x kvs = some y ∧ atKey xs nk = some p ∧ RelV v p.2 ∧ VR w M rho H y v
  | _, _, .nil => .inl ⟨rfl, rfl⟩
  | _, _, .cons (k := kk) (x := y) (nk := nk') (a := a) (u := u) (v := v) (fs := fs) (gs := gs) h1 h2 h3 h4 h5 h6 => by
    have e : eqK kk x = decide (nk' = nk) := by unfold eqK; rw [h1, hx]
    unfold lookT
    by_cases q : nk' = nk
    · rw [e, decide_eq_true q, cond_true]
      exact .inr ⟨y, (a, u), v, rfl, by simp [atKey, q], h5, h4⟩
    · rw [e, decide_eq_false q, cond_false]
      rcases lookT_ok hx h6 with ⟨z1, z2⟩ | ⟨y', p, v', z1, z2, z3⟩
      · exact .inl ⟨z1, by simpa [atKey, q] using z2⟩
      · exact .inr ⟨y', p, v', z1, by simpa [atKey, q] using z2, z3⟩
theorem TRs.app : ∀ {as bs : List (PV × PV)} {cs ds : List (NestedKey × Addr × Value)}, TRs w M rho H as cs → TRs w M rho H bs ds → TRs w M rho H (as ++ bs) (cs ++ ds)
  | _, _, _, _, .nil, s => s
  | _, _, _, _, .cons a b c d e t, s => .cons a b c d e (TRs.app t s)
theorem TRs.put {q x : PV} {nk : NestedKey} {a : Addr} {u : Value} {v : V} {kvs : List (PV × PV)} {xs : List (NestedKey × Addr × Value)} (hq : nkP q = some nk) (hd : nk.depth ≤ 8) (rq : VR w M rho H q (.ref a)) (rx : VR w M rho H x v) (ru : RelV v u) (r : TRs w M rho H kvs xs) :
    TRs w M rho H (putT q x kvs) (storedH xs nk a u) := by
  have rep : ∀ {kvs : List (PV × PV)} {xs : List (NestedKey × Addr × Value)}, TRs w M rho H kvs xs → TRs w M rho H (kvs.map fun p => bif eqK p.1 q then (p.1, x) else p) (xs.map (putAt nk u)) := by
    intro kvs xs r
    induction r with
    | nil => exact .nil
    | @cons kk y nk' a' u' v' fs gs h1 h2 h3 h4 h5 h6 ih =>
      rw [List.map_cons, List.map_cons]
      have e : eqK kk q = decide (nk' = nk) := by unfold eqK; rw [h1, hq]
      unfold putAt
      by_cases z : nk' = nk
      · simp only [e, z, decide_true, cond_true, if_true]
        exact .cons (by rw [← z]; exact h1) hd h3 rx ru ih
      · simp only [e, z, decide_false, cond_false, if_false]
        exact .cons h1 h2 h3 h4 h5 ih
  unfold putT storedH
  rcases lookT_ok hq r with ⟨z1, z2⟩ | ⟨y, p, v', z1, z2, _⟩
  · rw [z1, z2]
    exact r.app (.cons hq hd rq rx ru .nil)
  · rw [z1, z2]
    exact rep r
end

section
variable {w : Wo} {EX : XC} {X : Cx} {k : Nat} {M : Addr → Prop} {rho : List Addr} {H : Hp} {h : PH} {pins : List (Addr × Obj)} {σ : L2.St} {s : Shared}
end
end MC

end
section
set_option maxRecDepth 100000
set_option maxHeartbeats 4000000
namespace MC
open PySem PySem.Spec PyProof.Rows L2

section
variable {w : Wo} {EX : XC} {X : Cx} {k : Nat} {M : Addr → Prop} {rho : List Addr} {H : Hp} {h : PH} {pins : List (Addr × Obj)} {σ : L2.St} {s : Shared}
end

section
variable {P : Program} {w : World} {K : PySem.W.Frag} {tg : Expr} {d : Addr} {o : Obj} {es : Array DictEntry} {ep : Nat} {X : Cx} {pins : List (Addr × Obj)} {σ : L2.St} {H : Hp} {s : Shared}
end
section
variable {w : Wo} {EX : XC} {X : Cx} {k : Nat} {M : Addr → Prop} {rho : List Addr} {H : Hp} {h : PH} {pins : List (Addr × Obj)} {σ : L2.St} {s : Shared}
theorem TRs.at : ∀ {kvs : List (PV × PV)} {xs : List (NestedKey × Addr × Value)}, TRs w M rho H kvs xs → ∀ {i : Nat} {q : NestedKey × Addr × Value}, xs[i]? = some q → ∃ p x, kvs[i]? = some (p, x) ∧ nkP p = some q.1 ∧ q.1.depth ≤ 8 ∧ VR w M rho H p (.ref q.2.1) ∧ ∃ v, RelV v q.2.2 ∧ VR w M rho H x v
  | _, _, .nil, i, q, e => by simp at e
  | _, _, .cons h1 h2 h3 h4 h5 h6, i, q, e => by
    cases i with
    | zero => simp at e; subst e; exact ⟨_, _, rfl, h1, h2, h3, _, h5, h4⟩
    | succ i => simpa using TRs.at h6 (i := i) (q := q) (by simpa using e)
/-- values of the entries -/
theorem TRs.vals : ∀ {kvs : List (PV × PV)} {xs : List (NestedKey × Addr × Value)}, TRs w M rho H kvs xs → ∃ vs : List V, (∀ (i : Nat) q, xs[i]? = some q → ∃ v, vs[i]? = some v ∧ RelV v q.2.2) ∧ VRs w M rho H (kvs.map (·.2)) vs
  | _, _, .nil => ⟨[], (fun i q e => by simp at e), .nil⟩
  | _, _, .cons (v := v) h1 h2 h3 h4 h5 h6 => by
    obtain ⟨vs, g, r⟩ := TRs.vals h6
    refine ⟨v :: vs, fun i q e => ?_, .cons h4 r⟩
    cases i with
    | zero => simp at e; subst e; exact ⟨v, rfl, h5⟩
    | succ i => simpa using g i q (by simpa using e)
end
end MC

end
section
set_option maxRecDepth 100000
set_option maxHeartbeats 4000000
namespace MC
open PySem PySem.Spec PyProof.Rows L2

section
variable {P : Program} {w : World} {A : Around} {E : Value → Shared → Prop} {s : Shared}
end

section
variable {w : Wo} {EX : XC} {X : Cx} {k : Nat}
end
end MC

end
section
set_option maxRecDepth 100000
set_option maxHeartbeats 4000000
namespace MC
open PySem PySem.Spec PyProof.Rows L2

section
variable {w : Wo} {EX : XC} {X : Cx} {k : Nat} {M : Addr → Prop} {rho : List Addr} {H : Hp} {h : PH}
end

section
variable {w : Wo} {EX : XC} {X : Cx} {k : Nat} {M : Addr → Prop} {rho : List Addr} {H : Hp} {h : PH} {pins : List (Addr × Obj)} {σ : L2.St} {s : Shared}
end
end MC

end
section
set_option maxRecDepth 100000
set_option maxHeartbeats 4000000
namespace MC
open PySem PySem.Spec PyProof.Rows L2

section
variable {w : Wo} {EX : XC} {X : Cx} {k : Nat} {M : Addr → Prop} {rho : List Addr} {H : Hp} {h : PH} {pins : List (Addr × Obj)} {σ : L2.St} {s : Shared}
theorem TRs.keys : ∀ {kvs : List (PV × PV)} {xs : List (NestedKey × Addr × Value)}, TRs w M rho H kvs xs → VRs w M rho H (kvs.map (·.1)) (xs.map fun x => V.ref x.2.1)
  | _, _, .nil => .nil
  | _, _, .cons _ _ h3 _ _ h6 => .cons h3 (TRs.keys h6)
end
end MC

end
section
set_option maxRecDepth 100000
set_option maxHeartbeats 4000000
namespace MC
open PySem PySem.Spec PyProof.Rows L2

abbrev IsZipF (h : Heap) (z TI TO : Addr) (f0 : Value) (f : Bool) : Prop :=
  h.get? z = some { cls := .type "zip", dict := none, data := .fields #[f0, .bool f, .bool false, .ref TI, .ref TO], slots := #[] }
def ZF (f0 : Value) : Prop := f0 = .none ∨ ∃ T : Nat, f0 = rawInt T
section
variable {prog : Program} {w : World} {A : Around} {E : Value → Shared → Prop} {s : Shared} {z TI TO i1 i2 : Addr} {fp1 fp2 : List Addr} {n1 n2 i : Nat} {P1 P2 : Nat → Value → Prop} {St1 St2 : Nat → Heap → Prop} {a1 a2 f0 : Value} {f : Bool}
/-- behind a turn -/
structure ZGo (s : Shared) (z TI TO i1 i2 : Addr) (St1 St2 : Nat → Heap → Prop) (i : Nat) (x1 x2 : Value) (h' : Heap) : Prop where
  zz : ∃ f0 f, ZF f0 ∧ IsZipF h' z TI TO f0 f
  to : ∃ b1 b2, IsTupOf2 h' TO b1 b2
  s1 : St1 (i + 1) h'
  s2 : St2 (i + 1) h'
  new : IsTupOf2 h' s.heap.objs.size x1 x2
  kept : ∀ c o, c ≠ z → c ≠ TO → c ≠ i1 → c ≠ i2 → s.heap.get? c = some o → h'.get? c = some o
end
section
variable {P : Program} {w : World} {K : PySem.W.Frag} {z TI TO i1 i2 : Addr} {x y : Str} {t u : Tok} {nm : Str} {tpos : Pos}
end
section
variable {w : Wo} {EX : XC} {X : Cx} {k : Nat} {M : Addr → Prop} {rho : List Addr} {H : Hp} {h : PH}
end
end MC

end
section
set_option maxRecDepth 100000
set_option maxHeartbeats 4000000
namespace MC
open PySem PySem.Spec PyProof.Rows L2
section
variable {prog : Program} {w : World} {A : Around} {E : Value → Shared → Prop} {s : Shared}
end
section
variable {w : Wo} {EX : XC} {X : Cx} {k : Nat} {M : Addr → Prop} {rho : List Addr} {H : Hp} {h : PH} {pins : List (Addr × Obj)} {σ : L2.St} {s : Shared}
end
end MC

end
section
set_option maxRecDepth 100000
set_option maxHeartbeats 4000000
namespace MC
open PySem PySem.Spec PyProof.Rows L2
section
open HT
variable {prog : Program} {w : World} {A : Around} {E : Value → Shared → Prop} {s : Shared}
end
section
variable {w : Wo} {EX : XC} {X : Cx} {k : Nat} {M : Addr → Prop} {rho : List Addr} {H : Hp} {h : PH}
end
end MC

end
section
set_option maxRecDepth 100000
set_option maxHeartbeats 4000000
namespace MC
open PySem PySem.Spec PyProof.Rows L2
def idxOfI (c : Int) : List Int → Option Nat
  | [] => none
  | x :: r => bif x == c then some 0 else match idxOfI c r with
    | some i => some (i + 1)
    | none => none
section
variable {w : Wo} {EX : XC} {X : Cx} {k : Nat}
end
end MC

end
section
set_option maxRecDepth 100000
namespace MM
open PySem L2 MC
def cs_letters : List Nat := [0]
def cs_arrows : List Nat := [0, 6]
def cs_ends : List Nat := [0, 6]
def tb_bool : List (Nat × Bool) := [(0, false), (1, true), (2, false), (3, false), (4, false), (5, false), (6, false)]
def cs_isi_bool : List (Nat × Bool) := [(0, false), (1, false), (2, false), (3, false), (4, false), (5, false), (6, false), (7, false)]
def tb_int : List (Nat × Bool) := [(0, false), (1, true), (2, true), (3, false), (4, false), (5, false), (6, false)]
def cs_isi_int : List (Nat × Bool) := [(0, false), (1, false), (2, false), (3, false), (4, false), (5, false), (6, false), (7, false)]
def tb_tuple : List (Nat × Bool) := [(0, false), (1, false), (2, false), (3, false), (4, true), (5, false), (6, false)]
def cs_isi_tuple : List (Nat × Bool) := [(0, false), (1, false), (2, false), (3, false), (4, false), (5, false), (6, false), (7, false)]
def tb_Machine : List (Nat × Bool) := [(0, false), (1, false), (2, false), (3, false), (4, false), (5, false), (6, false)]
def cs_isi_Machine : List (Nat × Bool) := [(0, true), (1, false), (2, false), (3, false), (4, false), (5, false), (6, false), (7, false)]
def b_is_between : MS := (mSeq (mRet (mAndV (mIsi tb_int cs_isi_int (mVar 0)) (mAndV (mNotV (mIsi tb_bool cs_isi_bool (mVar 0))) (mCh opLe opLe (mVar 1) (mVar 0) (mVar 2))))) mNil)
def m_is_between : MF := mFun 3 b_is_between
def b_is_goal : MS := (mSeq (mRet (mOrV (mOp (opIs false) (mVar 0) (mC .non)) (mCl0 (opF m_is_between [0, 1, 2] []) 3 (maCons (mVar 0) (maCons (mC (.int 0)) (maCons (mOp opSub (mVar 1) (mC (.int 1))) maNil)))))) mNil)
def m_is_goal : MF := mFun 2 b_is_goal
def b_wrong_arrows : MS := (mSeq (mFor (miEnum (maCons (mVar 0) maNil)) (gTup' 2 (gsCons (gName' 2) (gsCons (gName' 3) gsNil))) (mSeq (mIfS (mOr (mNot (mTru (mIsi tb_tuple cs_isi_tuple (mVar 3)))) (mOr (mTB (mOp opNe (mBt bLen (maCons (mVar 3) maNil)) (mVar 1))) (mNot (mTru (mBt bAll (maCons (mLc (miV (mVar 3)) (Tg.nm 4) mYes (mCl0 (opF m_is_goal [0, 1] []) 2 (maCons (mVar 4) (maCons (mBt bLen (maCons (mVar 0) maNil)) maNil))) [4]) maNil)))))) (mSeq (mRet (mVar 2)) mNil) mNil) mNil)) (mSeq (mRet (mC .non)) mNil))
def m_wrong_arrows : MF := mFun 5 b_wrong_arrows
def b_wrong_end : MS := (mSeq (mSet 2 (mUn (unI fun i => -i) (mC (.int 1)))) (mSeq (mFor (miEnum (maCons (mVar 0) maNil)) (gTup' 2 (gsCons (gName' 3) (gsCons (gName' 4) gsNil))) (mSeq (mIfS (mOr (mNot (mTru (mCl0 (opF m_is_between [0, 1, 2] []) 3 (maCons (mVar 4) (maCons (mC (.int 0)) (maCons (mOp opSub (mVar 1) (mC (.int 1))) maNil)))))) (mTB (mOp opLe (mVar 4) (mVar 2)))) (mSeq (mRet (mVar 3)) mNil) mNil) (mSeq (mSet 2 (mVar 4)) mNil))) (mSeq (mRet (mC .non)) mNil)))
def m_wrong_end : MF := mFun 5 b_wrong_end
def b_Machine___init__ : MS := (mSeq (mIfS (mNot (mTru (mCl0 (opF m_is_between [0, 1, 2] []) 3 (maCons (mVar 1) (maCons (mC (.int 1)) (maCons (mC (.int 5)) maNil)))))) mNever mNil) (mSeq (mIfS (mOr (mNot (mTru (mIsi tb_tuple cs_isi_tuple (mVar 2)))) (mNot (mTB (mCh opLe opLe (mC (.int 1)) (mBt bLen (maCons (mVar 2) maNil)) (mC (.int 8)))))) mNever mNil) (mSeq (mSet 4 (mCl0 (opF m_wrong_arrows [0, 1] []) 2 (maCons (mVar 2) (maCons (mVar 1) maNil)))) (mSeq (mIfS (mTB (mOp (opIs true) (mVar 4) (mC .non))) mNever mNil) (mSeq (mIfS (mNot (mTru (mIsi tb_tuple cs_isi_tuple (mVar 3)))) mNever mNil) (mSeq (mSet 4 (mCl0 (opF m_wrong_end [0, 1] []) 2 (maCons (mVar 3) (maCons (mBt bLen (maCons (mVar 2) maNil)) maNil)))) (mSeq (mIfS (mTB (mOp (opIs true) (mVar 4) (mC .non))) mNever mNil) (mSeq (mSetF cs_letters [108, 101, 116, 116, 101, 114, 115] (mVar 0) (mVar 1)) (mSeq (mSetF cs_arrows [97, 114, 114, 111, 119, 115] (mVar 0) (mVar 2)) (mSeq (mSetF cs_ends [101, 110, 100, 115] (mVar 0) (mVar 3)) mNil))))))))))
def m_Machine___init__ : MF := mFun 5 b_Machine___init__
def b_check_machine : MS := (mSeq (mIfS (mNot (mTru (mIsi tb_Machine cs_isi_Machine (mVar 0)))) mNever mNil) mNil)
def m_check_machine : MF := mFun 1 b_check_machine
def b_check_length : MS := (mSeq (mIfS (mNot (mTru (mCl0 (opF m_is_between [0, 1, 2] []) 3 (maCons (mVar 0) (maCons (mC (.int 0)) (maCons (mC (.int 300)) maNil)))))) mNever mNil) mNil)
def m_check_length : MF := mFun 1 b_check_length
def b_end_counts : MS := (mSeq (mRet (mLc (miRng1 (maCons (mBt bLen (maCons (mFld cs_arrows [97, 114, 114, 111, 119, 115] (mVar 0)) maNil)) maNil)) (Tg.nm 1) mYes (mIf (mTB (mOp (opIn false) (mVar 1) (mFld cs_ends [101, 110, 100, 115] (mVar 0)))) (mC (.int 1)) (mC (.int 0))) [1])) mNil)
def m_end_counts : MF := mFun 2 b_end_counts
def b_counts_before : MS := (mSeq (mSet 2 (mLst maNil)) (mSeq (mFor (miV (mFld cs_arrows [97, 114, 114, 111, 119, 115] (mVar 0))) (gName' 3) (mSeq (mDrop (mBM 1 oAppend (mVar 2) (maCons (mBt bSum (maCons (mLc (miV (mVar 3)) (Tg.nm 4) (mTB (mOp (opIs true) (mVar 4) (mC .non))) (mOp opIx (mVar 1) (mVar 4)) [4]) maNil)) maNil))) mNil)) (mSeq (mRet (mVar 2)) mNil)))
def m_counts_before : MF := mFun 5 b_counts_before
def b_all_counts : MS := (mSeq (mSet 2 (mLst (maCons (mCl0 (opF m_end_counts [0] []) 1 (maCons (mVar 0) maNil)) maNil))) (mSeq (mFor (miRng1 (maCons (mVar 1) maNil)) (gName' 3) (mSeq (mDrop (mBM 1 oAppend (mVar 2) (maCons (mCl0 (opF m_counts_before [0, 1] []) 2 (maCons (mVar 0) (maCons (mOp opIx (mVar 2) (mUn (unI fun i => -i) (mC (.int 1)))) maNil))) maNil))) mNil)) (mSeq (mRet (mVar 2)) mNil)))
def m_all_counts : MF := mFun 4 b_all_counts
def b_count_of : MS := (mSeq (mRet (mOp opIx (mOp opIx (mCl0 (opF m_all_counts [0, 1] []) 2 (maCons (mVar 0) (maCons (mVar 1) maNil))) (mVar 1)) (mC (.int 0)))) mNil)
def m_count_of : MF := mFun 2 b_count_of
def b_how_many_texts : MS := (mSeq (mDrop (mCl0 (opF m_check_machine [0] []) 1 (maCons (mVar 0) maNil))) (mSeq (mDrop (mCl0 (opF m_check_length [0] []) 1 (maCons (mVar 1) maNil))) (mSeq (mRet (mCl0 (opF m_count_of [0, 1] []) 2 (maCons (mVar 0) (maCons (mVar 1) maNil)))) mNil)))
def m_how_many_texts : MF := mFun 2 b_how_many_texts
def b_listed : MS := (mSeq (mAsg (mTup (maCons (mCl0 (opF m_all_counts [0, 1] []) 2 (maCons (mVar 0) (maCons (mVar 1) maNil))) (maCons (mLst (maCons (mTup (maCons (mC (.str [])) (maCons (mC (.int 0)) maNil))) maNil)) maNil))) (gTup' 2 (gsCons (gName' 2) (gsCons (gName' 3) gsNil)))) (mSeq (mFor (miRng1 (maCons (mVar 1) maNil)) (gName' 4) (mSeq (mAsg (mTup (maCons (mOp opSub (mOp opSub (mVar 1) (mVar 4)) (mC (.int 1))) (maCons (mLst maNil) maNil))) (gTup' 2 (gsCons (gName' 5) (gsCons (gName' 6) gsNil)))) (mSeq (mFor (miV (mVar 3)) (gTup' 2 (gsCons (gName' 7) (gsCons (gName' 8) gsNil))) (mSeq (mSet 9 (mOp opIx (mFld cs_arrows [97, 114, 114, 111, 119, 115] (mVar 0)) (mVar 8))) (mSeq (mSet 10 (mLc (miEnum (maCons (mVar 9) maNil)) (Tg.tp (Tgs.cons (Tg.nm 11) (Tgs.cons (Tg.nm 12) Tgs.nil))) (mAnd (mTB (mOp (opIs true) (mVar 12) (mC .non))) (mTB (mOp opGt (mOp opIx (mOp opIx (mVar 2) (mVar 5)) (mVar 12)) (mC (.int 0))))) (mVar 11) [11, 12])) (mSeq (mAug 6 opIadd (mLc (miV (mVar 10)) (Tg.nm 11) mYes (mTup (maCons (mOp opAdd (mVar 7) (mOp opIx (mC (.str [97, 98, 99, 100, 101])) (mVar 11))) (maCons (mOp opIx (mVar 9) (mVar 11)) maNil))) [11])) mNil)))) (mSeq (mSet 3 (mVar 6)) mNil)))) (mSeq (mRet (mBt bTuple (maCons (mLc (miV (mVar 3)) (Tg.tp (Tgs.cons (Tg.nm 7) (Tgs.cons (Tg.nm 8) Tgs.nil))) (mTB (mOp (opIn false) (mVar 8) (mFld cs_ends [101, 110, 100, 115] (mVar 0)))) (mVar 7) [7, 8]) maNil))) mNil)))
def m_listed : MF := mFun 13 b_listed
def b_texts_of : MS := (mSeq (mDrop (mCl0 (opF m_check_machine [0] []) 1 (maCons (mVar 0) maNil))) (mSeq (mDrop (mCl0 (opF m_check_length [0] []) 1 (maCons (mVar 1) maNil))) (mSeq (mIfS (mTB (mOp opGt (mCl0 (opF m_count_of [0, 1] []) 2 (maCons (mVar 0) (maCons (mVar 1) maNil))) (mC (.int 1000)))) mNever mNil) (mSeq (mRet (mCl0 (opF m_listed [0, 1] []) 2 (maCons (mVar 0) (maCons (mVar 1) maNil)))) mNil))))
def m_texts_of : MF := mFun 2 b_texts_of
def b_is_endless_of : MS := (mSeq (mSet 1 (mBt bLen (maCons (mFld cs_arrows [97, 114, 114, 111, 119, 115] (mVar 0)) maNil))) (mSeq (mSet 2 (mCl0 (opF m_all_counts [0, 1] []) 2 (maCons (mVar 0) (maCons (mOp opMul (mC (.int 2)) (mVar 1)) maNil)))) (mSeq (mRet (mBt bAny (maCons (mLc (miRng2 (maCons (mVar 1) (maCons (mOp opAdd (mOp opMul (mC (.int 2)) (mVar 1)) (mC (.int 1))) maNil))) (Tg.nm 3) mYes (mOp opGt (mOp opIx (mOp opIx (mVar 2) (mVar 3)) (mC (.int 0))) (mC (.int 0))) [3]) maNil))) mNil)))
def m_is_endless_of : MF := mFun 4 b_is_endless_of
def b_is_endless : MS := (mSeq (mDrop (mCl0 (opF m_check_machine [0] []) 1 (maCons (mVar 0) maNil))) (mSeq (mRet (mCl0 (opF m_is_endless_of [0] []) 1 (maCons (mVar 0) maNil))) mNil))
def m_is_endless : MF := mFun 1 b_is_endless
end MM

end
section
set_option maxRecDepth 100000
namespace MM
open PySem L2 MC
def b__law_pinch : MS := (mSeq (mAsg (mOp opAdd (mOp opIx (mVar 0) (mC (.int 0))) (mC (.int 4))) (gSubM oSetIx (mVar 0) (mC (.int 0)))) (mSeq (mIfS (mTB (mOp opGt (mOp opIx (mVar 0) (mC (.int 1))) (mC (.int 0)))) (mSeq (mAsg (mBt bDivmod (maCons (mBt bInt (maCons (mOp opIx (mVar 0) (mC (.int 1))) maNil)) (maCons (mVar 1) maNil))) (gTup' 2 (gsCons (gSubM oSetIx (mVar 0) (mC (.int 1))) (gsCons (gName' 2) gsNil)))) (mSeq (mRet (mVar 2)) mNil)) mNil) (mSeq (mAsg (mOp opMod (mBt bInt (maCons (mOp opAdd (mOp opAdd (mOp opMul (mOp opIx (mVar 0) (mC (.int 2))) (mC (.int 53047))) (mOp opMul (mOp opIx (mVar 0) (mC (.int 0))) (mC (.int 80021)))) (mOp opMul (mOp opFdiv (mOp opIx (mVar 0) (mC (.int 2))) (mC (.int 14009))) (mC (.int 83)))) maNil)) (mC (.int 1999999417))) (gSubM oSetIx (mVar 0) (mC (.int 2)))) (mSeq (mRet (mOp opMod (mBt bInt (maCons (mOp opFdiv (mOp opIx (mVar 0) (mC (.int 2))) (mC (.int 389))) maNil)) (mVar 1))) mNil))))
def m__law_pinch : MF := mFun 3 b__law_pinch
def b__law_plan : MS := (mSeq (mAsg (mTup (maCons (mOp opAdd (mC (.int 1)) (mCl0 (opF m__law_pinch [0, 1] []) 2 (maCons (mVar 0) (maCons (mVar 1) maNil)))) (maCons (mOp opAdd (mC (.int 1)) (mCl0 (opF m__law_pinch [0, 1] []) 2 (maCons (mVar 0) (maCons (mVar 2) maNil)))) (maCons (mCl0 (opF m__law_pinch [0, 1] []) 2 (maCons (mVar 0) (maCons (mC (.int 4)) maNil))) maNil)))) (gTup' 3 (gsCons (gName' 3) (gsCons (gName' 4) (gsCons (gName' 5) gsNil))))) (mSeq (mSet 6 (mLst maNil)) (mSeq (mFor (miRng1 (maCons (mVar 3) maNil)) (gName' 7) (mSeq (mSet 8 (mLc (miRng1 (maCons (mVar 4) maNil)) (Tg.nm 10) mYes (mCl0 (opF m__law_pinch [0, 1] []) 2 (maCons (mVar 0) (maCons (mOp opAdd (mOp opAdd (mVar 3) (mC (.int 1))) (mVar 5)) maNil))) [10])) (mSeq (mSet 8 (mLc (miV (mVar 8)) (Tg.nm 11) mYes (mIf (mTB (mOp opLt (mVar 11) (mVar 3))) (mVar 11) (mC .non)) [11])) (mSeq (mIfS (mTB (mOp opEq (mVar 5) (mC (.int 3)))) (mSeq (mAsg (mOp opMod (mBt bInt (maCons (mOp opAdd (mVar 7) (mC (.int 1))) maNil)) (mVar 3)) (gSubM oSetIx (mVar 8) (mCl0 (opF m__law_pinch [0, 1] []) 2 (maCons (mVar 0) (maCons (mVar 4) maNil))))) mNil) mNil) (mSeq (mDrop (mBM 1 oAppend (mVar 6) (maCons (mBt bTuple (maCons (mVar 8) maNil)) maNil))) mNil))))) (mSeq (mSet 9 (mLc (miRng1 (maCons (mVar 3) maNil)) (Tg.nm 7) (mTB (mOp opEq (mCl0 (opF m__law_pinch [0, 1] []) 2 (maCons (mVar 0) (maCons (mC (.int 3)) maNil))) (mC (.int 0)))) (mVar 7) [7])) (mSeq (mIfS (mAnd (mTB (mOp opEq (mVar 9) (mLst maNil))) (mTB (mOp opGt (mCl0 (opF m__law_pinch [0, 1] []) 2 (maCons (mVar 0) (maCons (mC (.int 6)) maNil))) (mC (.int 0))))) (mSeq (mSet 9 (mLst (maCons (mCl0 (opF m__law_pinch [0, 1] []) 2 (maCons (mVar 0) (maCons (mVar 3) maNil))) maNil))) mNil) mNil) (mSeq (mRet (mTup (maCons (mVar 4) (maCons (mBt bTuple (maCons (mVar 6) maNil)) (maCons (mBt bTuple (maCons (mVar 9) maNil)) maNil))))) mNil))))))
def m__law_plan : MF := mFun 12 b__law_plan
def b__law_rows : MS := (mSeq (mSet 2 (mLst (maCons (mTup (maCons (mC (.str [])) (maCons (mC (.int 0)) maNil))) maNil))) (mSeq (mFor (miRng1 (maCons (mVar 1) maNil)) (gName' 3) (mSeq (mSet 4 (mLst maNil)) (mSeq (mFor (miV (mVar 2)) (gTup' 2 (gsCons (gName' 5) (gsCons (gName' 6) gsNil))) (mSeq (mFor (miRng1 (maCons (mOp opIx (mVar 0) (mC (.int 0))) maNil)) (gName' 7) (mSeq (mIfS (mTB (mOp (opIs true) (mOp opIx (mOp opIx (mOp opIx (mVar 0) (mC (.int 1))) (mVar 6)) (mVar 7)) (mC .non))) (mSeq (mDrop (mBM 1 oAppend (mVar 4) (maCons (mTup (maCons (mOp opAdd (mVar 5) (mOp opIx (mC (.str [97, 98, 99, 100, 101])) (mVar 7))) (maCons (mOp opIx (mOp opIx (mOp opIx (mVar 0) (mC (.int 1))) (mVar 6)) (mVar 7)) maNil))) maNil))) mNil) mNil) mNil)) mNil)) (mSeq (mSet 2 (mVar 4)) mNil)))) (mSeq (mRet (mVar 2)) mNil)))
def m__law_rows : MF := mFun 8 b__law_rows
def b__law_sack : MS := (mSeq (mSet 2 (mIf (mTB (mOp opLt (mVar 1) (mBt bLen (maCons (mVar 0) maNil)))) (mBt bInt (maCons (mOp opIx (mVar 0) (mVar 1)) maNil)) (mOp opAdd (mOp opMul (mC (.int 73)) (mVar 1)) (mC (.int 59))))) (mSeq (mSet 3 (mOp opAdd (mC (.int 110017)) (mOp opMul (mC (.int 2311)) (mVar 1)))) (mSeq (mFor (miV (mSl (mVar 0) moNone (moSome (mC (.int 14))))) (gName' 4) (mSeq (mSet 3 (mOp opMod (mBt bInt (maCons (mOp opAdd (mOp opMul (mVar 3) (mC (.int 50021))) (mOp opMod (mBt bInt (maCons (mVar 4) maNil)) (mC (.int 1999999417)))) maNil)) (mC (.int 1999999417)))) mNil)) (mSeq (mRet (mLst (maCons (mC (.int 9)) (maCons (mIf (mOr (mTB (mOp opLt (mVar 2) (mC (.int 0)))) (mTB (mOp opGe (mVar 2) (mOp opPow (mC (.int 10)) (mC (.int 14)))))) (mBt bAbs (maCons (mVar 2) maNil)) (mC (.int 0))) (maCons (mOp opMod (mBt bInt (maCons (mOp opAdd (mOp opMul (mVar 3) (mC (.int 61))) (mOp opMod (mVar 2) (mC (.int 1999999417)))) maNil)) (mC (.int 1999999417))) maNil))))) mNil))))
def m__law_sack : MF := mFun 5 b__law_sack
end MM

end
section
set_option maxRecDepth 100000
set_option maxHeartbeats 8000000
namespace K05
open PySem PySem.Spec PyProof.Rows L2 MC MM
def topS (i : Nat) : Stmt := PySem.Challenge.pw_liketongues_k05_whole_texts_counted.main.body.getD i (.Pass ⟨0, 0, 0, 0⟩)

abbrev s__law_pinch : Stmt := topS 34
theorem sc__law_pinch : FnScope ["_law_sack_here", "_law_many", "_law_digit"] ["_law_sack_here", "_law_many"] (defScope s__law_pinch) := ⟨rfl, rfl, rfl, by decide +kernel, rfl, by decide +kernel, by decide +kernel⟩

abbrev s__law_plan : Stmt := topS 35
theorem sc__law_plan : FnScope ["_law_sack_here", "_law_most", "_law_many", "_law_n", "_law_letters_here", "_law_way", "_law_rows_here", "_law_k", "_law_row", "_law_ends_here", "_law_j", "_law_goal"] ["_law_sack_here", "_law_most", "_law_many"] (defScope s__law_plan) := ⟨rfl, rfl, rfl, by decide +kernel, rfl, by decide +kernel, by decide +kernel⟩

abbrev s_is_between : Stmt := topS 13
theorem sc_is_between : FnScope ["value", "low", "high"] ["value", "low", "high"] (defScope s_is_between) := ⟨rfl, rfl, rfl, by decide +kernel, rfl, by decide +kernel, by decide +kernel⟩

abbrev s_is_goal : Stmt := topS 14
theorem sc_is_goal : FnScope ["value", "stands"] ["value", "stands"] (defScope s_is_goal) := ⟨rfl, rfl, rfl, by decide +kernel, rfl, by decide +kernel, by decide +kernel⟩

abbrev s_wrong_arrows : Stmt := topS 15
theorem sc_wrong_arrows : FnScope ["arrows", "letters", "index", "row", "goal"] ["arrows", "letters"] (defScope s_wrong_arrows) := ⟨rfl, rfl, rfl, by decide +kernel, rfl, by decide +kernel, by decide +kernel⟩

abbrev s_wrong_end : Stmt := topS 16
theorem sc_wrong_end : FnScope ["ends", "stands", "last", "index", "stand"] ["ends", "stands"] (defScope s_wrong_end) := ⟨rfl, rfl, rfl, by decide +kernel, rfl, by decide +kernel, by decide +kernel⟩

abbrev s_Machine___init__ : Stmt := inClass (topS 17) 0
theorem sc_Machine___init__ : FnScope ["self", "letters", "arrows", "ends", "index"] ["self", "letters", "arrows", "ends"] (defScope s_Machine___init__) := ⟨rfl, rfl, rfl, by decide +kernel, rfl, by decide +kernel, by decide +kernel⟩

abbrev s__law_rows : Stmt := topS 36
theorem sc__law_rows : FnScope ["_law_plan_here", "_law_length_here", "_law_found", "_law_turn", "_law_fresh", "_law_row", "_law_stand", "_law_k"] ["_law_plan_here", "_law_length_here"] (defScope s__law_rows) := ⟨rfl, rfl, rfl, by decide +kernel, rfl, by decide +kernel, by decide +kernel⟩

abbrev s_check_machine : Stmt := topS 19
theorem sc_check_machine : FnScope ["value"] ["value"] (defScope s_check_machine) := ⟨rfl, rfl, rfl, by decide +kernel, rfl, by decide +kernel, by decide +kernel⟩

abbrev s_check_length : Stmt := topS 22
theorem sc_check_length : FnScope ["value"] ["value"] (defScope s_check_length) := ⟨rfl, rfl, rfl, by decide +kernel, rfl, by decide +kernel, by decide +kernel⟩

abbrev s_end_counts : Stmt := topS 24
theorem sc_end_counts : FnScope ["machine", "stand"] ["machine"] (defScope s_end_counts) := ⟨rfl, rfl, rfl, by decide +kernel, rfl, by decide +kernel, by decide +kernel⟩

abbrev s_counts_before : Stmt := topS 23
theorem sc_counts_before : FnScope ["machine", "counts", "found", "row", "goal"] ["machine", "counts"] (defScope s_counts_before) := ⟨rfl, rfl, rfl, by decide +kernel, rfl, by decide +kernel, by decide +kernel⟩

abbrev s_all_counts : Stmt := topS 25
theorem sc_all_counts : FnScope ["machine", "length", "found", "turn"] ["machine", "length"] (defScope s_all_counts) := ⟨rfl, rfl, rfl, by decide +kernel, rfl, by decide +kernel, by decide +kernel⟩

abbrev s_count_of : Stmt := topS 26
theorem sc_count_of : FnScope ["machine", "length"] ["machine", "length"] (defScope s_count_of) := ⟨rfl, rfl, rfl, by decide +kernel, rfl, by decide +kernel, by decide +kernel⟩

abbrev s_how_many_texts : Stmt := topS 27
theorem sc_how_many_texts : FnScope ["machine", "length"] ["machine", "length"] (defScope s_how_many_texts) := ⟨rfl, rfl, rfl, by decide +kernel, rfl, by decide +kernel, by decide +kernel⟩

abbrev s_listed : Stmt := topS 28
theorem sc_listed : FnScope ["machine", "length", "counts", "found", "turn", "left", "longer", "text", "stand", "row", "goals", "place", "goal"] ["machine", "length"] (defScope s_listed) := ⟨rfl, rfl, rfl, by decide +kernel, rfl, by decide +kernel, by decide +kernel⟩

abbrev s_texts_of : Stmt := topS 29
theorem sc_texts_of : FnScope ["machine", "length"] ["machine", "length"] (defScope s_texts_of) := ⟨rfl, rfl, rfl, by decide +kernel, rfl, by decide +kernel, by decide +kernel⟩

abbrev s_is_endless_of : Stmt := topS 30
theorem sc_is_endless_of : FnScope ["machine", "size", "counts", "length"] ["machine"] (defScope s_is_endless_of) := ⟨rfl, rfl, rfl, by decide +kernel, rfl, by decide +kernel, by decide +kernel⟩

abbrev s_is_endless : Stmt := topS 31
theorem sc_is_endless : FnScope ["machine"] ["machine"] (defScope s_is_endless) := ⟨rfl, rfl, rfl, by decide +kernel, rfl, by decide +kernel, by decide +kernel⟩

abbrev s__law_right : Stmt := topS 37
theorem sc__law_right : FnScope ["_law_sack_here", "_law_again", "_law_plan_here", "_law_made", "_law_n", "_law_length_here", "_law_due", "_law_row", "_law_stand", "_law_k"] ["_law_sack_here"] (defScope s__law_right) := ⟨rfl, rfl, rfl, by decide +kernel, rfl, by decide +kernel, by decide +kernel⟩

def b__law_right : MS := (mSeq (mFor (miRng1 (maCons (mC (.int 2)) maNil)) (gName' 1) (mSeq (mSet 2 (mCl0 (opF m__law_plan [0, 1, 2] []) 3 (maCons (mVar 0) (maCons (mC (.int 5)) (maCons (mC (.int 3)) maNil))))) (mSeq (mAsg (mTup (maCons (mCl0 (opC 0 m_Machine___init__ [0, 1, 2, 3] []) 3 (maCons (mOp opIx (mVar 2) (mC (.int 0))) (maCons (mOp opIx (mVar 2) (mC (.int 1))) (maCons (mOp opIx (mVar 2) (mC (.int 2))) maNil)))) (maCons (mBt bLen (maCons (mOp opIx (mVar 2) (mC (.int 1))) maNil)) maNil))) (gTup' 2 (gsCons (gName' 3) (gsCons (gName' 4) gsNil)))) (mSeq (mFor (miRng1 (maCons (mC (.int 7)) maNil)) (gName' 5) (mSeq (mSet 6 (mBt bTuple (maCons (mLc (miV (mCl0 (opF m__law_rows [0, 1] []) 2 (maCons (mVar 2) (maCons (mVar 5) maNil)))) (Tg.tp (Tgs.cons (Tg.nm 7) (Tgs.cons (Tg.nm 8) Tgs.nil))) (mTB (mOp (opIn false) (mVar 8) (mOp opIx (mVar 2) (mC (.int 2))))) (mVar 7) [7, 8]) maNil))) (mSeq (mIfS (mTB (mOp opNe (mLst (maCons (mCl0 (opF m_how_many_texts [0, 1] []) 2 (maCons (mVar 3) (maCons (mVar 5) maNil))) (maCons (mCl (opF m_how_many_texts [1, 0] []) 0 2 maNil (maCons (mVar 5) (maCons (mVar 3) maNil))) maNil))) (mOp opMul (mLst (maCons (mBt bLen (maCons (mVar 6) maNil)) maNil)) (mC (.int 2))))) (mSeq (mRet (mC (.bl false))) mNil) mNil) (mSeq (mIfS (mTB (mOp opNe (mBt bRepr (maCons (mLst (maCons (mCl0 (opF m_texts_of [0, 1] []) 2 (maCons (mVar 3) (maCons (mVar 5) maNil))) (maCons (mCl (opF m_texts_of [1, 0] []) 0 2 maNil (maCons (mVar 5) (maCons (mVar 3) maNil))) maNil))) maNil)) (mBt bRepr (maCons (mLst (maCons (mVar 6) (maCons (mVar 6) maNil))) maNil)))) (mSeq (mRet (mC (.bl false))) mNil) mNil) mNil)))) (mSeq (mSet 6 (mBt bAny (maCons (mLc (miRng2 (maCons (mVar 4) (maCons (mOp opAdd (mOp opMul (mC (.int 2)) (mVar 4)) (mC (.int 1))) maNil))) (Tg.nm 5) mYes (mOp opGt (mCl0 (opF m_how_many_texts [0, 1] []) 2 (maCons (mVar 3) (maCons (mVar 5) maNil))) (mC (.int 0))) [5]) maNil))) (mSeq (mIfS (mTB (mOp opNe (mBt bRepr (maCons (mLst (maCons (mCl0 (opF m_is_endless [0] []) 1 (maCons (mVar 3) maNil)) (maCons (mCl (opF m_is_endless [0] []) 0 1 maNil (maCons (mVar 3) maNil)) maNil))) maNil)) (mBt bRepr (maCons (mLst (maCons (mVar 6) (maCons (mVar 6) maNil))) maNil)))) (mSeq (mRet (mC (.bl false))) mNil) mNil) (mSeq (mIfS (mTB (mOp opNe (mCl0 (opF m_is_endless [0] []) 1 (maCons (mVar 3) maNil)) (mOp opGt (mBt bSum (maCons (mLc (miRng2 (maCons (mC (.int 150)) (maCons (mC (.int 160)) maNil))) (Tg.nm 9) mYes (mCl0 (opF m_how_many_texts [0, 1] []) 2 (maCons (mVar 3) (maCons (mVar 9) maNil))) [9]) maNil)) (mC (.int 0))))) (mSeq (mRet (mC (.bl false))) mNil) mNil) mNil))))))) (mSeq (mRet (mC (.bl true))) mNil))
def m__law_right : MF := mFun 10 b__law_right

abbrev s__law_sack : Stmt := topS 33
theorem sc__law_sack : FnScope ["_law_script", "_law_k", "_law_own", "_law_mixed", "_law_entry"] ["_law_script", "_law_k"] (defScope s__law_sack) := ⟨rfl, rfl, rfl, by decide +kernel, rfl, by decide +kernel, by decide +kernel⟩

abbrev s_law : Stmt := topS 38
theorem sc_law : FnScope ["_law_script", "_law_k"] ["_law_script"] (defScope s_law) := ⟨rfl, rfl, rfl, by decide +kernel, rfl, by decide +kernel, by decide +kernel⟩

def b_law : MS := (mSeq (mRet (mBt bAll (maCons (mLc (miRng1 (maCons (mBt bMax2 (maCons (mC (.int 2)) (maCons (mBt bMin2 (maCons (mBt bLen (maCons (mVar 0) maNil)) (maCons (mC (.int 5)) maNil))) maNil))) maNil)) (Tg.nm 1) mYes (mCl0 (opF m__law_right [0] []) 1 (maCons (mCl0 (opF m__law_sack [0, 1] []) 2 (maCons (mVar 0) (maCons (mVar 1) maNil))) maNil)) [1]) maNil))) mNil)
def m_law : MF := mFun 2 b_law

/-- what the top has left -/
structure Tx (W : World) (w : Wo) (mg : Str → Option Value) where
  hW : W = w.W
  gvn : ∀ i v, w.gv i = some v → v ≠ .non
  nn_Desk : w.cl 1 = none
  nn_Console : w.cl 2 = none
  nn_Kept : w.cl 3 = none
  nn_Trial : w.cl 4 = none
  nn_Run : w.cl 5 = none
  nn_Paths : w.cl 6 = none
  nn_Readings : w.cl 7 = none
  nn_InputError : w.cl 8 = none
  nn_StateError : w.cl 9 = none
  nn_SizeError : w.cl 10 = none
  nn_NotAMachine : w.cl 11 = none
  nn_NotADesk : w.cl 12 = none
  nn_InvalidText : w.cl 13 = none
  nn_InvalidCount : w.cl 14 = none
  nn_InvalidLetter : w.cl 15 = none
  nn_InvalidStand : w.cl 16 = none
  nn_InvalidWord : w.cl 17 = none
  nn_InvalidLine : w.cl 18 = none
  nn_InvalidArrows : w.cl 19 = none
  nn_InvalidEnds : w.cl 20 = none
  nn_InvalidBook : w.cl 21 = none
  nn_InvalidTexts : w.cl 22 = none
  nn_InvalidDeeds : w.cl 23 = none
  nn_NothingToUndo : w.cl 24 = none
  nn_Busy : w.cl 25 = none
  nn_TooMany : w.cl 26 = none
  a__law_pinch : Addr
  fd__law_pinch : FuncData
  F__law_pinch : Fun w.K "_law_pinch" "_law_pinch" s__law_pinch a__law_pinch fd__law_pinch
  g__law_pinch : mg "_law_pinch" = some (.ref a__law_pinch)
  a__law_plan : Addr
  fd__law_plan : FuncData
  F__law_plan : Fun w.K "_law_plan" "_law_plan" s__law_plan a__law_plan fd__law_plan
  g__law_plan : mg "_law_plan" = some (.ref a__law_plan)
  a_is_between : Addr
  fd_is_between : FuncData
  F_is_between : Fun w.K "is_between" "is_between" s_is_between a_is_between fd_is_between
  g_is_between : mg "is_between" = some (.ref a_is_between)
  a_is_goal : Addr
  fd_is_goal : FuncData
  F_is_goal : Fun w.K "is_goal" "is_goal" s_is_goal a_is_goal fd_is_goal
  g_is_goal : mg "is_goal" = some (.ref a_is_goal)
  a_wrong_arrows : Addr
  fd_wrong_arrows : FuncData
  F_wrong_arrows : Fun w.K "wrong_arrows" "wrong_arrows" s_wrong_arrows a_wrong_arrows fd_wrong_arrows
  g_wrong_arrows : mg "wrong_arrows" = some (.ref a_wrong_arrows)
  a_wrong_end : Addr
  fd_wrong_end : FuncData
  F_wrong_end : Fun w.K "wrong_end" "wrong_end" s_wrong_end a_wrong_end fd_wrong_end
  g_wrong_end : mg "wrong_end" = some (.ref a_wrong_end)
  a_Machine___init__ : Addr
  fd_Machine___init__ : FuncData
  F_Machine___init__ : Fun w.K "__init__" "Machine.__init__" s_Machine___init__ a_Machine___init__ fd_Machine___init__
  a__law_rows : Addr
  fd__law_rows : FuncData
  F__law_rows : Fun w.K "_law_rows" "_law_rows" s__law_rows a__law_rows fd__law_rows
  g__law_rows : mg "_law_rows" = some (.ref a__law_rows)
  a_check_machine : Addr
  fd_check_machine : FuncData
  F_check_machine : Fun w.K "check_machine" "check_machine" s_check_machine a_check_machine fd_check_machine
  g_check_machine : mg "check_machine" = some (.ref a_check_machine)
  a_check_length : Addr
  fd_check_length : FuncData
  F_check_length : Fun w.K "check_length" "check_length" s_check_length a_check_length fd_check_length
  g_check_length : mg "check_length" = some (.ref a_check_length)
  a_end_counts : Addr
  fd_end_counts : FuncData
  F_end_counts : Fun w.K "end_counts" "end_counts" s_end_counts a_end_counts fd_end_counts
  g_end_counts : mg "end_counts" = some (.ref a_end_counts)
  a_counts_before : Addr
  fd_counts_before : FuncData
  F_counts_before : Fun w.K "counts_before" "counts_before" s_counts_before a_counts_before fd_counts_before
  g_counts_before : mg "counts_before" = some (.ref a_counts_before)
  a_all_counts : Addr
  fd_all_counts : FuncData
  F_all_counts : Fun w.K "all_counts" "all_counts" s_all_counts a_all_counts fd_all_counts
  g_all_counts : mg "all_counts" = some (.ref a_all_counts)
  a_count_of : Addr
  fd_count_of : FuncData
  F_count_of : Fun w.K "count_of" "count_of" s_count_of a_count_of fd_count_of
  g_count_of : mg "count_of" = some (.ref a_count_of)
  a_how_many_texts : Addr
  fd_how_many_texts : FuncData
  F_how_many_texts : Fun w.K "how_many_texts" "how_many_texts" s_how_many_texts a_how_many_texts fd_how_many_texts
  g_how_many_texts : mg "how_many_texts" = some (.ref a_how_many_texts)
  a_listed : Addr
  fd_listed : FuncData
  F_listed : Fun w.K "listed" "listed" s_listed a_listed fd_listed
  g_listed : mg "listed" = some (.ref a_listed)
  a_texts_of : Addr
  fd_texts_of : FuncData
  F_texts_of : Fun w.K "texts_of" "texts_of" s_texts_of a_texts_of fd_texts_of
  g_texts_of : mg "texts_of" = some (.ref a_texts_of)
  a_is_endless_of : Addr
  fd_is_endless_of : FuncData
  F_is_endless_of : Fun w.K "is_endless_of" "is_endless_of" s_is_endless_of a_is_endless_of fd_is_endless_of
  g_is_endless_of : mg "is_endless_of" = some (.ref a_is_endless_of)
  a_is_endless : Addr
  fd_is_endless : FuncData
  F_is_endless : Fun w.K "is_endless" "is_endless" s_is_endless a_is_endless fd_is_endless
  g_is_endless : mg "is_endless" = some (.ref a_is_endless)
  a__law_right : Addr
  fd__law_right : FuncData
  F__law_right : Fun w.K "_law_right" "_law_right" s__law_right a__law_right fd__law_right
  g__law_right : mg "_law_right" = some (.ref a__law_right)
  a__law_sack : Addr
  fd__law_sack : FuncData
  F__law_sack : Fun w.K "_law_sack" "_law_sack" s__law_sack a__law_sack fd__law_sack
  g__law_sack : mg "_law_sack" = some (.ref a__law_sack)
  a_law : Addr
  fd_law : FuncData
  F_law : Fun w.K "law" "law" s_law a_law fd_law
  g_law : mg "law" = some (.ref a_law)
  t_MOST_LETTERS : Tok
  g_MOST_LETTERS : mg "MOST_LETTERS" = some (.int 5 t_MOST_LETTERS)
  t_MOST_STANDS : Tok
  g_MOST_STANDS : mg "MOST_STANDS" = some (.int 8 t_MOST_STANDS)
  t_MOST_TEXT : Tok
  g_MOST_TEXT : mg "MOST_TEXT" = some (.int 300 t_MOST_TEXT)
  t_MOST_LISTED : Tok
  g_MOST_LISTED : mg "MOST_LISTED" = some (.int 1000 t_MOST_LISTED)
  t_LETTERS : Tok
  g_LETTERS : mg "LETTERS" = some (.str "abcde" t_LETTERS)
  c_Machine : Addr
  g_Machine : mg "Machine" = some (.ref c_Machine)
  n_Machine : w.cl 0 = some c_Machine
  cl_Machine : Cls w.K c_Machine
  ci_Machine : ClsI w.K c_Machine
  mk_Machine : Mk w.K c_Machine a_Machine___init__
  na_Machine_letters : NoAttr w.K c_Machine "letters"
  na_Machine_arrows : NoAttr w.K c_Machine "arrows"
  na_Machine_ends : NoAttr w.K c_Machine "ends"
  i_Machine_int : PySem.W.kitOne w.K (.ref c_Machine) (.type "int") = some false
  i_Machine_bool : PySem.W.kitOne w.K (.ref c_Machine) (.type "bool") = some false
  i_Machine_tuple : PySem.W.kitOne w.K (.ref c_Machine) (.type "tuple") = some false
  k_Machine_NoneType : PySem.W.kitOne w.K (.type "NoneType") (.ref c_Machine) = some false
  k_Machine_bool : PySem.W.kitOne w.K (.type "bool") (.ref c_Machine) = some false
  k_Machine_int : PySem.W.kitOne w.K (.type "int") (.ref c_Machine) = some false
  k_Machine_str : PySem.W.kitOne w.K (.type "str") (.ref c_Machine) = some false
  k_Machine_tuple : PySem.W.kitOne w.K (.type "tuple") (.ref c_Machine) = some false
  k_Machine_list : PySem.W.kitOne w.K (.type "list") (.ref c_Machine) = some false
  k_Machine_dict : PySem.W.kitOne w.K (.type "dict") (.ref c_Machine) = some false
  i_Machine_Machine : PySem.W.kitOne w.K (.ref c_Machine) (.ref c_Machine) = some true
  z_abs : mg "abs" = none
  z_all : mg "all" = none
  z_any : mg "any" = none
  z_bool : mg "bool" = none
  z_divmod : mg "divmod" = none
  z_enumerate : mg "enumerate" = none
  z_int : mg "int" = none
  z_isinstance : mg "isinstance" = none
  z_len : mg "len" = none
  z_max : mg "max" = none
  z_min : mg "min" = none
  z_range : mg "range" = none
  z_repr : mg "repr" = none
  z_sum : mg "sum" = none
  z_tuple : mg "tuple" = none
section
variable {P : Program} {W : World} {w : Wo} {mg : Str → Option Value} {base : Heap}
theorem fld_letters (T : Tx W w mg) : Fld w cs_letters [108, 101, 116, 116, 101, 114, 115] := by
  intro c A hc h
  unfold cs_letters at hc
  simp only [List.mem_cons, List.not_mem_nil, or_false] at hc
  rcases hc with rfl
  · rw [T.n_Machine] at h; cases h; exact ⟨T.cl_Machine, T.na_Machine_letters⟩
theorem fld_arrows (T : Tx W w mg) : Fld w cs_arrows [97, 114, 114, 111, 119, 115] := by
  intro c A hc h
  unfold cs_arrows at hc
  simp only [List.mem_cons, List.not_mem_nil, or_false] at hc
  rcases hc with rfl | rfl
  · rw [T.n_Machine] at h; cases h; exact ⟨T.cl_Machine, T.na_Machine_arrows⟩
  · rw [T.nn_Paths] at h; cases h
theorem fld_ends (T : Tx W w mg) : Fld w cs_ends [101, 110, 100, 115] := by
  intro c A hc h
  unfold cs_ends at hc
  simp only [List.mem_cons, List.not_mem_nil, or_false] at hc
  rcases hc with rfl | rfl
  · rw [T.n_Machine] at h; cases h; exact ⟨T.cl_Machine, T.na_Machine_ends⟩
  · rw [T.nn_Paths] at h; cases h
theorem isi_int (T : Tx W w mg) : IsiOk w (.type "int") tb_int cs_isi_int := by
  refine ⟨fun p hp => ?_, fun p hp => ?_⟩
  · unfold tb_int at hp
    simp only [List.mem_cons, List.not_mem_nil, or_false] at hp
    rcases hp with rfl | rfl | rfl | rfl | rfl | rfl | rfl
    · exact kit_ty (by decide +kernel)
    · exact kit_ty (by decide +kernel)
    · exact kit_ty (by decide +kernel)
    · exact kit_ty (by decide +kernel)
    · exact kit_ty (by decide +kernel)
    · exact kit_ty (by decide +kernel)
    · exact kit_ty (by decide +kernel)
  · unfold cs_isi_int at hp
    simp only [List.mem_cons, List.not_mem_nil, or_false] at hp
    rcases hp with rfl | rfl | rfl | rfl | rfl | rfl | rfl | rfl
    · intro A hA; rw [show w.cl _ = _ from T.n_Machine] at hA; cases hA; exact ⟨T.ci_Machine, T.i_Machine_int⟩
    · intro A hA; rw [show w.cl _ = _ from T.nn_Desk] at hA; cases hA
    · intro A hA; rw [show w.cl _ = _ from T.nn_Console] at hA; cases hA
    · intro A hA; rw [show w.cl _ = _ from T.nn_Kept] at hA; cases hA
    · intro A hA; rw [show w.cl _ = _ from T.nn_Trial] at hA; cases hA
    · intro A hA; rw [show w.cl _ = _ from T.nn_Run] at hA; cases hA
    · intro A hA; rw [show w.cl _ = _ from T.nn_Paths] at hA; cases hA
    · intro A hA; rw [show w.cl _ = _ from T.nn_Readings] at hA; cases hA
theorem isi_bool (T : Tx W w mg) : IsiOk w (.type "bool") tb_bool cs_isi_bool := by
  refine ⟨fun p hp => ?_, fun p hp => ?_⟩
  · unfold tb_bool at hp
    simp only [List.mem_cons, List.not_mem_nil, or_false] at hp
    rcases hp with rfl | rfl | rfl | rfl | rfl | rfl | rfl
    · exact kit_ty (by decide +kernel)
    · exact kit_ty (by decide +kernel)
    · exact kit_ty (by decide +kernel)
    · exact kit_ty (by decide +kernel)
    · exact kit_ty (by decide +kernel)
    · exact kit_ty (by decide +kernel)
    · exact kit_ty (by decide +kernel)
  · unfold cs_isi_bool at hp
    simp only [List.mem_cons, List.not_mem_nil, or_false] at hp
    rcases hp with rfl | rfl | rfl | rfl | rfl | rfl | rfl | rfl
    · intro A hA; rw [show w.cl _ = _ from T.n_Machine] at hA; cases hA; exact ⟨T.ci_Machine, T.i_Machine_bool⟩
    · intro A hA; rw [show w.cl _ = _ from T.nn_Desk] at hA; cases hA
    · intro A hA; rw [show w.cl _ = _ from T.nn_Console] at hA; cases hA
    · intro A hA; rw [show w.cl _ = _ from T.nn_Kept] at hA; cases hA
    · intro A hA; rw [show w.cl _ = _ from T.nn_Trial] at hA; cases hA
    · intro A hA; rw [show w.cl _ = _ from T.nn_Run] at hA; cases hA
    · intro A hA; rw [show w.cl _ = _ from T.nn_Paths] at hA; cases hA
    · intro A hA; rw [show w.cl _ = _ from T.nn_Readings] at hA; cases hA
theorem isi_tuple (T : Tx W w mg) : IsiOk w (.type "tuple") tb_tuple cs_isi_tuple := by
  refine ⟨fun p hp => ?_, fun p hp => ?_⟩
  · unfold tb_tuple at hp
    simp only [List.mem_cons, List.not_mem_nil, or_false] at hp
    rcases hp with rfl | rfl | rfl | rfl | rfl | rfl | rfl
    · exact kit_ty (by decide +kernel)
    · exact kit_ty (by decide +kernel)
    · exact kit_ty (by decide +kernel)
    · exact kit_ty (by decide +kernel)
    · exact kit_ty (by decide +kernel)
    · exact kit_ty (by decide +kernel)
    · exact kit_ty (by decide +kernel)
  · unfold cs_isi_tuple at hp
    simp only [List.mem_cons, List.not_mem_nil, or_false] at hp
    rcases hp with rfl | rfl | rfl | rfl | rfl | rfl | rfl | rfl
    · intro A hA; rw [show w.cl _ = _ from T.n_Machine] at hA; cases hA; exact ⟨T.ci_Machine, T.i_Machine_tuple⟩
    · intro A hA; rw [show w.cl _ = _ from T.nn_Desk] at hA; cases hA
    · intro A hA; rw [show w.cl _ = _ from T.nn_Console] at hA; cases hA
    · intro A hA; rw [show w.cl _ = _ from T.nn_Kept] at hA; cases hA
    · intro A hA; rw [show w.cl _ = _ from T.nn_Trial] at hA; cases hA
    · intro A hA; rw [show w.cl _ = _ from T.nn_Run] at hA; cases hA
    · intro A hA; rw [show w.cl _ = _ from T.nn_Paths] at hA; cases hA
    · intro A hA; rw [show w.cl _ = _ from T.nn_Readings] at hA; cases hA
theorem isi_Machine (T : Tx W w mg) : IsiOk w (.ref T.c_Machine) tb_Machine cs_isi_Machine := by
  refine ⟨fun p hp => ?_, fun p hp => ?_⟩
  · unfold tb_Machine at hp
    simp only [List.mem_cons, List.not_mem_nil, or_false] at hp
    rcases hp with rfl | rfl | rfl | rfl | rfl | rfl | rfl
    · exact T.k_Machine_NoneType
    · exact T.k_Machine_bool
    · exact T.k_Machine_int
    · exact T.k_Machine_str
    · exact T.k_Machine_tuple
    · exact T.k_Machine_list
    · exact T.k_Machine_dict
  · unfold cs_isi_Machine at hp
    simp only [List.mem_cons, List.not_mem_nil, or_false] at hp
    rcases hp with rfl | rfl | rfl | rfl | rfl | rfl | rfl | rfl
    · intro A hA; rw [show w.cl _ = _ from T.n_Machine] at hA; cases hA; exact ⟨T.ci_Machine, T.i_Machine_Machine⟩
    · intro A hA; rw [show w.cl _ = _ from T.nn_Desk] at hA; cases hA
    · intro A hA; rw [show w.cl _ = _ from T.nn_Console] at hA; cases hA
    · intro A hA; rw [show w.cl _ = _ from T.nn_Kept] at hA; cases hA
    · intro A hA; rw [show w.cl _ = _ from T.nn_Trial] at hA; cases hA
    · intro A hA; rw [show w.cl _ = _ from T.nn_Run] at hA; cases hA
    · intro A hA; rw [show w.cl _ = _ from T.nn_Paths] at hA; cases hA
    · intro A hA; rw [show w.cl _ = _ from T.nn_Readings] at hA; cases hA
theorem bd__law_pinch_2 (T : Tx W w mg) : Bd w.K T.fd__law_pinch ["_law_sack_here", "_law_many"] [] 2 [] [0, 1] := by
  obtain ⟨_, _, _, _, _, _, _, _, _, e, _, _⟩ := T.F__law_pinch.ex
  refine ⟨fun s us ws _ h1 h2 => ?_, rfl, by decide⟩
  rw [e]
  match us, ws, h1, h2 with | [_, _], [], _, _ => exact .of_eq rfl
theorem bd__law_plan_3 (T : Tx W w mg) : Bd w.K T.fd__law_plan ["_law_sack_here", "_law_most", "_law_many"] [] 3 [] [0, 1, 2] := by
  obtain ⟨_, _, _, _, _, _, _, _, _, e, _, _⟩ := T.F__law_plan.ex
  refine ⟨fun s us ws _ h1 h2 => ?_, rfl, by decide⟩
  rw [e]
  match us, ws, h1, h2 with | [_, _, _], [], _, _ => exact .of_eq rfl
theorem bd_is_between_3 (T : Tx W w mg) : Bd w.K T.fd_is_between ["value", "low", "high"] [] 3 [] [0, 1, 2] := by
  obtain ⟨_, _, _, _, _, _, _, _, _, e, _, _⟩ := T.F_is_between.ex
  refine ⟨fun s us ws _ h1 h2 => ?_, rfl, by decide⟩
  rw [e]
  match us, ws, h1, h2 with | [_, _, _], [], _, _ => exact .of_eq rfl
theorem bd_is_goal_2 (T : Tx W w mg) : Bd w.K T.fd_is_goal ["value", "stands"] [] 2 [] [0, 1] := by
  obtain ⟨_, _, _, _, _, _, _, _, _, e, _, _⟩ := T.F_is_goal.ex
  refine ⟨fun s us ws _ h1 h2 => ?_, rfl, by decide⟩
  rw [e]
  match us, ws, h1, h2 with | [_, _], [], _, _ => exact .of_eq rfl
theorem bd_wrong_arrows_2 (T : Tx W w mg) : Bd w.K T.fd_wrong_arrows ["arrows", "letters"] [] 2 [] [0, 1] := by
  obtain ⟨_, _, _, _, _, _, _, _, _, e, _, _⟩ := T.F_wrong_arrows.ex
  refine ⟨fun s us ws _ h1 h2 => ?_, rfl, by decide⟩
  rw [e]
  match us, ws, h1, h2 with | [_, _], [], _, _ => exact .of_eq rfl
theorem bd_wrong_end_2 (T : Tx W w mg) : Bd w.K T.fd_wrong_end ["ends", "stands"] [] 2 [] [0, 1] := by
  obtain ⟨_, _, _, _, _, _, _, _, _, e, _, _⟩ := T.F_wrong_end.ex
  refine ⟨fun s us ws _ h1 h2 => ?_, rfl, by decide⟩
  rw [e]
  match us, ws, h1, h2 with | [_, _], [], _, _ => exact .of_eq rfl
theorem bd_Machine___init___4 (T : Tx W w mg) : Bd w.K T.fd_Machine___init__ ["self", "letters", "arrows", "ends"] [] 4 [] [0, 1, 2, 3] := by
  obtain ⟨_, _, _, _, _, _, _, _, _, e, _, _⟩ := T.F_Machine___init__.ex
  refine ⟨fun s us ws _ h1 h2 => ?_, rfl, by decide⟩
  rw [e]
  match us, ws, h1, h2 with | [_, _, _, _], [], _, _ => exact .of_eq rfl
theorem bd__law_rows_2 (T : Tx W w mg) : Bd w.K T.fd__law_rows ["_law_plan_here", "_law_length_here"] [] 2 [] [0, 1] := by
  obtain ⟨_, _, _, _, _, _, _, _, _, e, _, _⟩ := T.F__law_rows.ex
  refine ⟨fun s us ws _ h1 h2 => ?_, rfl, by decide⟩
  rw [e]
  match us, ws, h1, h2 with | [_, _], [], _, _ => exact .of_eq rfl
theorem bd_check_machine_1 (T : Tx W w mg) : Bd w.K T.fd_check_machine ["value"] [] 1 [] [0] := by
  obtain ⟨_, _, _, _, _, _, _, _, _, e, _, _⟩ := T.F_check_machine.ex
  refine ⟨fun s us ws _ h1 h2 => ?_, rfl, by decide⟩
  rw [e]
  match us, ws, h1, h2 with | [_], [], _, _ => exact .of_eq rfl
theorem bd_check_length_1 (T : Tx W w mg) : Bd w.K T.fd_check_length ["value"] [] 1 [] [0] := by
  obtain ⟨_, _, _, _, _, _, _, _, _, e, _, _⟩ := T.F_check_length.ex
  refine ⟨fun s us ws _ h1 h2 => ?_, rfl, by decide⟩
  rw [e]
  match us, ws, h1, h2 with | [_], [], _, _ => exact .of_eq rfl
theorem bd_end_counts_1 (T : Tx W w mg) : Bd w.K T.fd_end_counts ["machine"] [] 1 [] [0] := by
  obtain ⟨_, _, _, _, _, _, _, _, _, e, _, _⟩ := T.F_end_counts.ex
  refine ⟨fun s us ws _ h1 h2 => ?_, rfl, by decide⟩
  rw [e]
  match us, ws, h1, h2 with | [_], [], _, _ => exact .of_eq rfl
theorem bd_counts_before_2 (T : Tx W w mg) : Bd w.K T.fd_counts_before ["machine", "counts"] [] 2 [] [0, 1] := by
  obtain ⟨_, _, _, _, _, _, _, _, _, e, _, _⟩ := T.F_counts_before.ex
  refine ⟨fun s us ws _ h1 h2 => ?_, rfl, by decide⟩
  rw [e]
  match us, ws, h1, h2 with | [_, _], [], _, _ => exact .of_eq rfl
theorem bd_all_counts_2 (T : Tx W w mg) : Bd w.K T.fd_all_counts ["machine", "length"] [] 2 [] [0, 1] := by
  obtain ⟨_, _, _, _, _, _, _, _, _, e, _, _⟩ := T.F_all_counts.ex
  refine ⟨fun s us ws _ h1 h2 => ?_, rfl, by decide⟩
  rw [e]
  match us, ws, h1, h2 with | [_, _], [], _, _ => exact .of_eq rfl
theorem bd_count_of_2 (T : Tx W w mg) : Bd w.K T.fd_count_of ["machine", "length"] [] 2 [] [0, 1] := by
  obtain ⟨_, _, _, _, _, _, _, _, _, e, _, _⟩ := T.F_count_of.ex
  refine ⟨fun s us ws _ h1 h2 => ?_, rfl, by decide⟩
  rw [e]
  match us, ws, h1, h2 with | [_, _], [], _, _ => exact .of_eq rfl
theorem bd_how_many_texts_0_length_machine (T : Tx W w mg) : Bd w.K T.fd_how_many_texts ["machine", "length"] ["length", "machine"] 0 [] [1, 0] := by
  obtain ⟨_, _, _, _, _, _, _, _, _, e, _, _⟩ := T.F_how_many_texts.ex
  refine ⟨fun s us ws _ h1 h2 => ?_, rfl, by decide⟩
  rw [e]
  match us, ws, h1, h2 with | [], [_, _], _, _ => exact .of_eq rfl
theorem bd_how_many_texts_2 (T : Tx W w mg) : Bd w.K T.fd_how_many_texts ["machine", "length"] [] 2 [] [0, 1] := by
  obtain ⟨_, _, _, _, _, _, _, _, _, e, _, _⟩ := T.F_how_many_texts.ex
  refine ⟨fun s us ws _ h1 h2 => ?_, rfl, by decide⟩
  rw [e]
  match us, ws, h1, h2 with | [_, _], [], _, _ => exact .of_eq rfl
theorem bd_listed_2 (T : Tx W w mg) : Bd w.K T.fd_listed ["machine", "length"] [] 2 [] [0, 1] := by
  obtain ⟨_, _, _, _, _, _, _, _, _, e, _, _⟩ := T.F_listed.ex
  refine ⟨fun s us ws _ h1 h2 => ?_, rfl, by decide⟩
  rw [e]
  match us, ws, h1, h2 with | [_, _], [], _, _ => exact .of_eq rfl
theorem bd_texts_of_0_length_machine (T : Tx W w mg) : Bd w.K T.fd_texts_of ["machine", "length"] ["length", "machine"] 0 [] [1, 0] := by
  obtain ⟨_, _, _, _, _, _, _, _, _, e, _, _⟩ := T.F_texts_of.ex
  refine ⟨fun s us ws _ h1 h2 => ?_, rfl, by decide⟩
  rw [e]
  match us, ws, h1, h2 with | [], [_, _], _, _ => exact .of_eq rfl
theorem bd_texts_of_2 (T : Tx W w mg) : Bd w.K T.fd_texts_of ["machine", "length"] [] 2 [] [0, 1] := by
  obtain ⟨_, _, _, _, _, _, _, _, _, e, _, _⟩ := T.F_texts_of.ex
  refine ⟨fun s us ws _ h1 h2 => ?_, rfl, by decide⟩
  rw [e]
  match us, ws, h1, h2 with | [_, _], [], _, _ => exact .of_eq rfl
theorem bd_is_endless_of_1 (T : Tx W w mg) : Bd w.K T.fd_is_endless_of ["machine"] [] 1 [] [0] := by
  obtain ⟨_, _, _, _, _, _, _, _, _, e, _, _⟩ := T.F_is_endless_of.ex
  refine ⟨fun s us ws _ h1 h2 => ?_, rfl, by decide⟩
  rw [e]
  match us, ws, h1, h2 with | [_], [], _, _ => exact .of_eq rfl
theorem bd_is_endless_0_machine (T : Tx W w mg) : Bd w.K T.fd_is_endless ["machine"] ["machine"] 0 [] [0] := by
  obtain ⟨_, _, _, _, _, _, _, _, _, e, _, _⟩ := T.F_is_endless.ex
  refine ⟨fun s us ws _ h1 h2 => ?_, rfl, by decide⟩
  rw [e]
  match us, ws, h1, h2 with | [], [_], _, _ => exact .of_eq rfl
theorem bd_is_endless_1 (T : Tx W w mg) : Bd w.K T.fd_is_endless ["machine"] [] 1 [] [0] := by
  obtain ⟨_, _, _, _, _, _, _, _, _, e, _, _⟩ := T.F_is_endless.ex
  refine ⟨fun s us ws _ h1 h2 => ?_, rfl, by decide⟩
  rw [e]
  match us, ws, h1, h2 with | [_], [], _, _ => exact .of_eq rfl
theorem bd__law_right_1 (T : Tx W w mg) : Bd w.K T.fd__law_right ["_law_sack_here"] [] 1 [] [0] := by
  obtain ⟨_, _, _, _, _, _, _, _, _, e, _, _⟩ := T.F__law_right.ex
  refine ⟨fun s us ws _ h1 h2 => ?_, rfl, by decide⟩
  rw [e]
  match us, ws, h1, h2 with | [_], [], _, _ => exact .of_eq rfl
theorem bd__law_sack_2 (T : Tx W w mg) : Bd w.K T.fd__law_sack ["_law_script", "_law_k"] [] 2 [] [0, 1] := by
  obtain ⟨_, _, _, _, _, _, _, _, _, e, _, _⟩ := T.F__law_sack.ex
  refine ⟨fun s us ws _ h1 h2 => ?_, rfl, by decide⟩
  rw [e]
  match us, ws, h1, h2 with | [_, _], [], _, _ => exact .of_eq rfl
theorem w__law_pinch (T : Tx W w mg) : FnM P W w mg base CX0 exF 1 T.a__law_pinch T.fd__law_pinch ["_law_sack_here", "_law_many"] m__law_pinch := by
  refine fnm_of T.hW T.F__law_pinch sc__law_pinch fun cdv A outer s H E C => ?_
  have nd := sc__law_pinch.nd
  exact (mss_cons (ms_asg (me_op (o_add C) (me_ix C (me_var 0) me_int) me_int) (mg_sub p_setIx (me_var 0) me_int)) (mss_cons (ms_if (mt_cmp o_gt (me_ix C (me_var 0) me_int) me_int (nomark _)) (mss_cons (ms_asg (me_blt b_divmod (by rfl) T.z_divmod (by decide +kernel) (ma_cons (me_ty (b_int C) (by rfl) T.z_int (by decide +kernel) (ma_cons (me_ix C (me_var 0) me_int) ma_nil)) (ma_cons (me_var 1) ma_nil))) (mg_tup C 2 (mgs_cons (mg_sub p_setIx (me_var 0) me_int) (mgs_cons (mg_name 2 nd) mgs_nil)))) (mss_cons (ms_ret (me_var 2)) mss_nil)) mss_nil) (mss_cons (ms_asg (me_op o_mod (me_ty (b_int C) (by rfl) T.z_int (by decide +kernel) (ma_cons (me_op (o_add C) (me_op (o_add C) (me_op (o_mul C) (me_ix C (me_var 0) me_int) me_int) (me_op (o_mul C) (me_ix C (me_var 0) me_int) me_int)) (me_op (o_mul C) (me_op o_fdiv (me_ix C (me_var 0) me_int) me_int) me_int)) ma_nil)) me_int) (mg_sub p_setIx (me_var 0) me_int)) (mss_cons (ms_ret (me_op o_mod (me_ty (b_int C) (by rfl) T.z_int (by decide +kernel) (ma_cons (me_op o_fdiv (me_ix C (me_var 0) me_int) me_int) ma_nil)) (me_var 1))) mss_nil))))

theorem w__law_plan (T : Tx W w mg) : FnM P W w mg base CX0 exF 2 T.a__law_plan T.fd__law_plan ["_law_sack_here", "_law_most", "_law_many"] m__law_plan := by
  refine fnm_of T.hW T.F__law_plan sc__law_plan fun cdv A outer s H E C => ?_
  have nd := sc__law_plan.nd
  exact (mss_cons (ms_asg (me_tup (ma_cons (me_op (o_add C) me_int (me_call (clb_fn C ((w__law_pinch T).mono (by decide)) pass0 T.F__law_pinch.kp (bd__law_pinch_2 T) .nil (fun _ _ _ => .nil) tb_ok) (by rfl) T.g__law_pinch (ma_cons (me_var 0) (ma_cons (me_var 1) ma_nil)))) (ma_cons (me_op (o_add C) me_int (me_call (clb_fn C ((w__law_pinch T).mono (by decide)) pass0 T.F__law_pinch.kp (bd__law_pinch_2 T) .nil (fun _ _ _ => .nil) tb_ok) (by rfl) T.g__law_pinch (ma_cons (me_var 0) (ma_cons (me_var 2) ma_nil)))) (ma_cons (me_call (clb_fn C ((w__law_pinch T).mono (by decide)) pass0 T.F__law_pinch.kp (bd__law_pinch_2 T) .nil (fun _ _ _ => .nil) tb_ok) (by rfl) T.g__law_pinch (ma_cons (me_var 0) (ma_cons me_int ma_nil))) ma_nil)))) (mg_tup C 3 (mgs_cons (mg_name 3 nd) (mgs_cons (mg_name 4 nd) (mgs_cons (mg_name 5 nd) mgs_nil))))) (mss_cons (ms_set 6 nd (me_lst ma_nil)) (mss_cons (ms_for C (mi_rng1 (by rfl) T.z_range (ma_cons (me_var 3) ma_nil)) (mg_name 7 nd) (mss_cons (ms_setLc (EX2 := EXF) (own := [("_law_j", 10)]) (vs := [10]) (g := (Tg.nm 10)) C nd 8 rfl rfl (sw_true rfl rfl rfl (by decide +kernel)) (mi_rng1 (by rfl) T.z_range (ma_cons (me_var 4) ma_nil)) (by kernel_rfl) (fun _ _ _ _ _ => (pg_name nd rfl (by first | exact Or.inl rfl | exact Or.inr rfl))) (fun _ _ _ _ _ C => mts_nil) (fun _ _ _ _ _ C => (me_call (clb_fn C ((w__law_pinch T).mono (by decide)) pass0 T.F__law_pinch.kp (bd__law_pinch_2 T) .nil (fun _ _ _ => .nil) tb_ok) (by rfl) T.g__law_pinch (ma_cons (me_var 0) (ma_cons (me_op (o_add C) (me_op (o_add C) (me_var 3) me_int) (me_var 5)) ma_nil))))) (mss_cons (ms_setLc (EX2 := EXF) (own := [("_law_goal", 11)]) (vs := [11]) (g := (Tg.nm 11)) C nd 8 rfl rfl (sw_true rfl rfl rfl (by decide +kernel)) (mi_val C (me_var 8)) (by kernel_rfl) (fun _ _ _ _ _ => (pg_name nd rfl (by first | exact Or.inl rfl | exact Or.inr rfl))) (fun _ _ _ _ _ C => mts_nil) (fun _ _ _ _ _ C => (me_if (mt_cmp o_lt (me_var 11) (me_var 3) (nomark _)) (me_var 11) me_non))) (mss_cons (ms_if (mt_cmp (o_eq C) (me_var 5) me_int (nomark _)) (mss_cons (ms_asg (me_op o_mod (me_ty (b_int C) (by rfl) T.z_int (by decide +kernel) (ma_cons (me_op (o_add C) (me_var 7) me_int) ma_nil)) (me_var 3)) (mg_sub p_setIx (me_var 8) (me_call (clb_fn C ((w__law_pinch T).mono (by decide)) pass0 T.F__law_pinch.kp (bd__law_pinch_2 T) .nil (fun _ _ _ => .nil) tb_ok) (by rfl) T.g__law_pinch (ma_cons (me_var 0) (ma_cons (me_var 4) ma_nil))))) mss_nil) mss_nil) (mss_cons (ms_expr (me_bm C 1 F.plainAttrs_list F.slot_list_append F.type_list_append o_append (me_var 6) (ma_cons (me_ty (b_tuple C) (by rfl) T.z_tuple (by decide +kernel) (ma_cons (me_var 8) ma_nil)) ma_nil))) mss_nil))))) (mss_cons (ms_setLc (EX2 := EXF) (own := [("_law_k", 7)]) (vs := [7]) (g := (Tg.nm 7)) C nd 9 rfl rfl (sw_true rfl rfl rfl (by decide +kernel)) (mi_rng1 (by rfl) T.z_range (ma_cons (me_var 3) ma_nil)) (by kernel_rfl) (fun _ _ _ _ _ => (pg_name nd rfl (by first | exact Or.inl rfl | exact Or.inr rfl))) (fun _ _ _ _ _ C => (pts_one (mt_cmp (o_eq C) (me_call (clb_fn C ((w__law_pinch T).mono (by decide)) pass0 T.F__law_pinch.kp (bd__law_pinch_2 T) .nil (fun _ _ _ => .nil) tb_ok) (by rfl) T.g__law_pinch (ma_cons (me_var 0) (ma_cons me_int ma_nil))) me_int (nomark _)))) (fun _ _ _ _ _ C => (me_var 7))) (mss_cons (ms_if (PW.pt (mw_and (mt_cmp (o_eq C) (me_var 9) (me_lst ma_nil) (nomark _)) (mw_one (mt_cmp o_gt (me_call (clb_fn C ((w__law_pinch T).mono (by decide)) pass0 T.F__law_pinch.kp (bd__law_pinch_2 T) .nil (fun _ _ _ => .nil) tb_ok) (by rfl) T.g__law_pinch (ma_cons (me_var 0) (ma_cons me_int ma_nil))) me_int (nomark _))))) (mss_cons (ms_set 9 nd (me_lst (ma_cons (me_call (clb_fn C ((w__law_pinch T).mono (by decide)) pass0 T.F__law_pinch.kp (bd__law_pinch_2 T) .nil (fun _ _ _ => .nil) tb_ok) (by rfl) T.g__law_pinch (ma_cons (me_var 0) (ma_cons (me_var 3) ma_nil))) ma_nil))) mss_nil) mss_nil) (mss_cons (ms_ret (me_tup (ma_cons (me_var 4) (ma_cons (me_ty (b_tuple C) (by rfl) T.z_tuple (by decide +kernel) (ma_cons (me_var 6) ma_nil)) (ma_cons (me_ty (b_tuple C) (by rfl) T.z_tuple (by decide +kernel) (ma_cons (me_var 9) ma_nil)) ma_nil))))) mss_nil))))))

theorem w_is_between (T : Tx W w mg) : FnM P W w mg base CX0 exF 1 T.a_is_between T.fd_is_between ["value", "low", "high"] m_is_between := by
  refine fnm_of T.hW T.F_is_between sc_is_between fun cdv A outer s H E C => ?_
  have nd := sc_is_between.nd
  exact (mss_cons (ms_ret (me_and (me_isiT C (isi_int T) (me_var 0) (by rfl) T.z_isinstance (by rfl) T.z_int (by decide +kernel)) (me_and (me_not (me_isiT C (isi_bool T) (me_var 0) (by rfl) T.z_isinstance (by rfl) T.z_bool (by decide +kernel))) (me_one (me_ch o_le o_le (me_var 1) (me_var 0) (me_var 2)))))) mss_nil)

theorem w_is_goal (T : Tx W w mg) : FnM P W w mg base CX0 exF 2 T.a_is_goal T.fd_is_goal ["value", "stands"] m_is_goal := by
  refine fnm_of T.hW T.F_is_goal sc_is_goal fun cdv A outer s H E C => ?_
  have nd := sc_is_goal.nd
  exact (mss_cons (ms_ret (me_or (me_cmp (o_is T.gvn) (me_var 0) me_non (nomark _)) (me_one (me_call (clb_fn C ((w_is_between T).mono (by decide)) pass0 T.F_is_between.kp (bd_is_between_3 T) .nil (fun _ _ _ => .nil) tb_ok) (by rfl) T.g_is_between (ma_cons (me_var 0) (ma_cons me_int (ma_cons (me_op o_sub (me_var 1) me_int) ma_nil))))))) mss_nil)

theorem w_wrong_arrows (T : Tx W w mg) : FnM P W w mg base CX0 exF 3 T.a_wrong_arrows T.fd_wrong_arrows ["arrows", "letters"] m_wrong_arrows := by
  refine fnm_of T.hW T.F_wrong_arrows sc_wrong_arrows fun cdv A outer s H E C => ?_
  have nd := sc_wrong_arrows.nd
  exact (mss_cons (ms_for C (mi_enum C (by rfl) T.z_enumerate (ma_cons (me_var 0) ma_nil)) (mg_tup C 2 (mgs_cons (mg_name 2 nd) (mgs_cons (mg_name 3 nd) mgs_nil))) (mss_cons (ms_if (PW.pt (mw_or (mt_not (mt_tru C (me_isiT C (isi_tuple T) (me_var 3) (by rfl) T.z_isinstance (by rfl) T.z_tuple (by decide +kernel)))) (mw_or (mt_cmp (o_ne C) (me_blt (b_len C) (by rfl) T.z_len (by decide +kernel) (ma_cons (me_var 3) ma_nil)) (me_var 1) (nomark _)) (mw_one (mt_not (mt_tru C (me_blt (b_all C) (by rfl) T.z_all (by decide +kernel) (ma_cons (me_lc (EX2 := EXF) (own := [("goal", 4)]) (vs := [4]) (g := (Tg.nm 4)) C nd (mi_val C (me_var 3)) (by kernel_rfl) (fun _ _ _ _ _ => (pg_name nd rfl (by first | exact Or.inl rfl | exact Or.inr rfl))) (fun _ _ _ _ _ C => mts_nil) (fun _ _ _ _ _ C => (me_call (clb_fn C ((w_is_goal T).mono (by decide)) pass0 T.F_is_goal.kp (bd_is_goal_2 T) .nil (fun _ _ _ => .nil) tb_ok) (by rfl) T.g_is_goal (ma_cons (me_var 4) (ma_cons (me_blt (b_len C) (by rfl) T.z_len (by decide +kernel) (ma_cons (me_var 0) ma_nil)) ma_nil))))) ma_nil)))))))) (mss_cons (ms_ret (me_var 2)) mss_nil) mss_nil) mss_nil)) (mss_cons (ms_ret me_non) mss_nil))

theorem w_wrong_end (T : Tx W w mg) : FnM P W w mg base CX0 exF 2 T.a_wrong_end T.fd_wrong_end ["ends", "stands"] m_wrong_end := by
  refine fnm_of T.hW T.F_wrong_end sc_wrong_end fun cdv A outer s H E C => ?_
  have nd := sc_wrong_end.nd
  exact (mss_cons (ms_set 2 nd (me_un o_neg me_int)) (mss_cons (ms_for C (mi_enum C (by rfl) T.z_enumerate (ma_cons (me_var 0) ma_nil)) (mg_tup C 2 (mgs_cons (mg_name 3 nd) (mgs_cons (mg_name 4 nd) mgs_nil))) (mss_cons (ms_if (PW.pt (mw_or (mt_not (mt_tru C (me_call (clb_fn C ((w_is_between T).mono (by decide)) pass0 T.F_is_between.kp (bd_is_between_3 T) .nil (fun _ _ _ => .nil) tb_ok) (by rfl) T.g_is_between (ma_cons (me_var 4) (ma_cons me_int (ma_cons (me_op o_sub (me_var 1) me_int) ma_nil)))))) (mw_one (mt_cmp o_le (me_var 4) (me_var 2) (nomark _))))) (mss_cons (ms_ret (me_var 3)) mss_nil) mss_nil) (mss_cons (ms_set 2 nd (me_var 4)) mss_nil))) (mss_cons (ms_ret me_non) mss_nil)))

theorem w_Machine___init__ (T : Tx W w mg) : FnM P W w mg base CX0 exF 4 T.a_Machine___init__ T.fd_Machine___init__ ["self", "letters", "arrows", "ends"] m_Machine___init__ := by
  refine fnm_of T.hW T.F_Machine___init__ sc_Machine___init__ fun cdv A outer s H E C => ?_
  have nd := sc_Machine___init__.nd
  exact (mss_cons (ms_if (mt_not (mt_tru C (me_call (clb_fn C ((w_is_between T).mono (by decide)) pass0 T.F_is_between.kp (bd_is_between_3 T) .nil (fun _ _ _ => .nil) tb_ok) (by rfl) T.g_is_between (ma_cons (me_var 1) (ma_cons me_int (ma_cons (me_gint 5 (by rfl) T.g_MOST_LETTERS) ma_nil)))))) mss_never mss_nil) (mss_cons (ms_if (PW.pt (mw_or (mt_not (mt_tru C (me_isiT C (isi_tuple T) (me_var 2) (by rfl) T.z_isinstance (by rfl) T.z_tuple (by decide +kernel)))) (mw_one (mt_not (mt_ch o_le o_le me_int (me_blt (b_len C) (by rfl) T.z_len (by decide +kernel) (ma_cons (me_var 2) ma_nil)) (me_gint 8 (by rfl) T.g_MOST_STANDS)))))) mss_never mss_nil) (mss_cons (ms_set 4 nd (me_call (clb_fn C ((w_wrong_arrows T).mono (by decide)) pass0 T.F_wrong_arrows.kp (bd_wrong_arrows_2 T) .nil (fun _ _ _ => .nil) tb_ok) (by rfl) T.g_wrong_arrows (ma_cons (me_var 2) (ma_cons (me_var 1) ma_nil)))) (mss_cons (ms_if (mt_cmp (o_isnot T.gvn) (me_var 4) me_non (nomark _)) mss_never mss_nil) (mss_cons (ms_if (mt_not (mt_tru C (me_isiT C (isi_tuple T) (me_var 3) (by rfl) T.z_isinstance (by rfl) T.z_tuple (by decide +kernel)))) mss_never mss_nil) (mss_cons (ms_set 4 nd (me_call (clb_fn C ((w_wrong_end T).mono (by decide)) pass0 T.F_wrong_end.kp (bd_wrong_end_2 T) .nil (fun _ _ _ => .nil) tb_ok) (by rfl) T.g_wrong_end (ma_cons (me_var 3) (ma_cons (me_blt (b_len C) (by rfl) T.z_len (by decide +kernel) (ma_cons (me_var 2) ma_nil)) ma_nil)))) (mss_cons (ms_if (mt_cmp (o_isnot T.gvn) (me_var 4) me_non (nomark _)) mss_never mss_nil) (mss_cons (ms_fld C [108, 101, 116, 116, 101, 114, 115] (by decide +kernel) (fld_letters T) (me_var 0) (me_var 1)) (mss_cons (ms_fld C [97, 114, 114, 111, 119, 115] (by decide +kernel) (fld_arrows T) (me_var 0) (me_var 2)) (mss_cons (ms_fld C [101, 110, 100, 115] (by decide +kernel) (fld_ends T) (me_var 0) (me_var 3)) mss_nil))))))))))

theorem w__law_rows (T : Tx W w mg) : FnM P W w mg base CX0 exF 1 T.a__law_rows T.fd__law_rows ["_law_plan_here", "_law_length_here"] m__law_rows := by
  refine fnm_of T.hW T.F__law_rows sc__law_rows fun cdv A outer s H E C => ?_
  have nd := sc__law_rows.nd
  exact (mss_cons (ms_set 2 nd (me_lst (ma_cons (me_tup (ma_cons (me_str []) (ma_cons me_int ma_nil))) ma_nil))) (mss_cons (ms_for C (mi_rng1 (by rfl) T.z_range (ma_cons (me_var 1) ma_nil)) (mg_name 3 nd) (mss_cons (ms_set 4 nd (me_lst ma_nil)) (mss_cons (ms_for C (mi_val C (me_var 2)) (mg_tup C 2 (mgs_cons (mg_name 5 nd) (mgs_cons (mg_name 6 nd) mgs_nil))) (mss_cons (ms_for C (mi_rng1 (by rfl) T.z_range (ma_cons (me_ix C (me_var 0) me_int) ma_nil)) (mg_name 7 nd) (mss_cons (ms_if (mt_cmp (o_isnot T.gvn) (me_ix C (me_ix C (me_ix C (me_var 0) me_int) (me_var 6)) (me_var 7)) me_non (nomark _)) (mss_cons (ms_expr (me_bm C 1 F.plainAttrs_list F.slot_list_append F.type_list_append o_append (me_var 4) (ma_cons (me_tup (ma_cons (me_op (o_add C) (me_var 5) (me_ix C (me_str [97, 98, 99, 100, 101]) (me_var 7))) (ma_cons (me_ix C (me_ix C (me_ix C (me_var 0) me_int) (me_var 6)) (me_var 7)) ma_nil))) ma_nil))) mss_nil) mss_nil) mss_nil)) mss_nil)) (mss_cons (ms_set 2 nd (me_var 4)) mss_nil)))) (mss_cons (ms_ret (me_var 2)) mss_nil)))

theorem w_check_machine (T : Tx W w mg) : FnM P W w mg base CX0 exF 1 T.a_check_machine T.fd_check_machine ["value"] m_check_machine := by
  refine fnm_of T.hW T.F_check_machine sc_check_machine fun cdv A outer s H E C => ?_
  have nd := sc_check_machine.nd
  exact (mss_cons (ms_if (mt_not (mt_tru C (me_isiC C (isi_Machine T) (me_var 0) (by rfl) T.z_isinstance (by rfl) T.g_Machine))) mss_never mss_nil) mss_nil)

theorem w_check_length (T : Tx W w mg) : FnM P W w mg base CX0 exF 2 T.a_check_length T.fd_check_length ["value"] m_check_length := by
  refine fnm_of T.hW T.F_check_length sc_check_length fun cdv A outer s H E C => ?_
  have nd := sc_check_length.nd
  exact (mss_cons (ms_if (mt_not (mt_tru C (me_call (clb_fn C ((w_is_between T).mono (by decide)) pass0 T.F_is_between.kp (bd_is_between_3 T) .nil (fun _ _ _ => .nil) tb_ok) (by rfl) T.g_is_between (ma_cons (me_var 0) (ma_cons me_int (ma_cons (me_gint 300 (by rfl) T.g_MOST_TEXT) ma_nil)))))) mss_never mss_nil) mss_nil)

theorem w_end_counts (T : Tx W w mg) : FnM P W w mg base CX0 exF 1 T.a_end_counts T.fd_end_counts ["machine"] m_end_counts := by
  refine fnm_of T.hW T.F_end_counts sc_end_counts fun cdv A outer s H E C => ?_
  have nd := sc_end_counts.nd
  exact (mss_cons (ms_ret (me_lc (EX2 := EXF) (own := [("stand", 1)]) (vs := [1]) (g := (Tg.nm 1)) C nd (mi_rng1 (by rfl) T.z_range (ma_cons (me_blt (b_len C) (by rfl) T.z_len (by decide +kernel) (ma_cons (me_fld C [97, 114, 114, 111, 119, 115] (by decide +kernel) (fld_arrows T) (me_var 0)) ma_nil)) ma_nil)) (by kernel_rfl) (fun _ _ _ _ _ => (pg_name nd rfl (by first | exact Or.inl rfl | exact Or.inr rfl))) (fun _ _ _ _ _ C => mts_nil) (fun _ _ _ _ _ C => (me_if (mt_cmp (o_in C) (me_var 1) (me_fld C [101, 110, 100, 115] (by decide +kernel) (fld_ends T) (me_var 0)) (by rfl)) me_int me_int)))) mss_nil)

theorem w_counts_before (T : Tx W w mg) : FnM P W w mg base CX0 exF 1 T.a_counts_before T.fd_counts_before ["machine", "counts"] m_counts_before := by
  refine fnm_of T.hW T.F_counts_before sc_counts_before fun cdv A outer s H E C => ?_
  have nd := sc_counts_before.nd
  exact (mss_cons (ms_set 2 nd (me_lst ma_nil)) (mss_cons (ms_for C (mi_val C (me_fld C [97, 114, 114, 111, 119, 115] (by decide +kernel) (fld_arrows T) (me_var 0))) (mg_name 3 nd) (mss_cons (ms_expr (me_bm C 1 F.plainAttrs_list F.slot_list_append F.type_list_append o_append (me_var 2) (ma_cons (me_blt (b_sum C) (by rfl) T.z_sum (by decide +kernel) (ma_cons (me_lc (EX2 := EXF) (own := [("goal", 4)]) (vs := [4]) (g := (Tg.nm 4)) C nd (mi_val C (me_var 3)) (by kernel_rfl) (fun _ _ _ _ _ => (pg_name nd rfl (by first | exact Or.inl rfl | exact Or.inr rfl))) (fun _ _ _ _ _ C => (pts_one (mt_cmp (o_isnot T.gvn) (me_var 4) me_non (nomark _)))) (fun _ _ _ _ _ C => (me_ix C (me_var 1) (me_var 4)))) ma_nil)) ma_nil))) mss_nil)) (mss_cons (ms_ret (me_var 2)) mss_nil)))

theorem w_all_counts (T : Tx W w mg) : FnM P W w mg base CX0 exF 2 T.a_all_counts T.fd_all_counts ["machine", "length"] m_all_counts := by
  refine fnm_of T.hW T.F_all_counts sc_all_counts fun cdv A outer s H E C => ?_
  have nd := sc_all_counts.nd
  exact (mss_cons (ms_set 2 nd (me_lst (ma_cons (me_call (clb_fn C ((w_end_counts T).mono (by decide)) pass0 T.F_end_counts.kp (bd_end_counts_1 T) .nil (fun _ _ _ => .nil) tb_ok) (by rfl) T.g_end_counts (ma_cons (me_var 0) ma_nil)) ma_nil))) (mss_cons (ms_for C (mi_rng1 (by rfl) T.z_range (ma_cons (me_var 1) ma_nil)) (mg_name 3 nd) (mss_cons (ms_expr (me_bm C 1 F.plainAttrs_list F.slot_list_append F.type_list_append o_append (me_var 2) (ma_cons (me_call (clb_fn C ((w_counts_before T).mono (by decide)) pass0 T.F_counts_before.kp (bd_counts_before_2 T) .nil (fun _ _ _ => .nil) tb_ok) (by rfl) T.g_counts_before (ma_cons (me_var 0) (ma_cons (me_ix C (me_var 2) (me_un o_neg me_int)) ma_nil))) ma_nil))) mss_nil)) (mss_cons (ms_ret (me_var 2)) mss_nil)))

theorem w_count_of (T : Tx W w mg) : FnM P W w mg base CX0 exF 3 T.a_count_of T.fd_count_of ["machine", "length"] m_count_of := by
  refine fnm_of T.hW T.F_count_of sc_count_of fun cdv A outer s H E C => ?_
  have nd := sc_count_of.nd
  exact (mss_cons (ms_ret (me_ix C (me_ix C (me_call (clb_fn C ((w_all_counts T).mono (by decide)) pass0 T.F_all_counts.kp (bd_all_counts_2 T) .nil (fun _ _ _ => .nil) tb_ok) (by rfl) T.g_all_counts (ma_cons (me_var 0) (ma_cons (me_var 1) ma_nil))) (me_var 1)) me_int)) mss_nil)

theorem w_how_many_texts (T : Tx W w mg) : FnM P W w mg base CX0 exF 4 T.a_how_many_texts T.fd_how_many_texts ["machine", "length"] m_how_many_texts := by
  refine fnm_of T.hW T.F_how_many_texts sc_how_many_texts fun cdv A outer s H E C => ?_
  have nd := sc_how_many_texts.nd
  exact (mss_cons (ms_expr (me_call (clb_fn C ((w_check_machine T).mono (by decide)) pass0 T.F_check_machine.kp (bd_check_machine_1 T) .nil (fun _ _ _ => .nil) tb_ok) (by rfl) T.g_check_machine (ma_cons (me_var 0) ma_nil))) (mss_cons (ms_expr (me_call (clb_fn C ((w_check_length T).mono (by decide)) pass0 T.F_check_length.kp (bd_check_length_1 T) .nil (fun _ _ _ => .nil) tb_ok) (by rfl) T.g_check_length (ma_cons (me_var 1) ma_nil))) (mss_cons (ms_ret (me_call (clb_fn C ((w_count_of T).mono (by decide)) pass0 T.F_count_of.kp (bd_count_of_2 T) .nil (fun _ _ _ => .nil) tb_ok) (by rfl) T.g_count_of (ma_cons (me_var 0) (ma_cons (me_var 1) ma_nil)))) mss_nil)))

theorem w_listed (T : Tx W w mg) : FnM P W w mg base CX0 exF 3 T.a_listed T.fd_listed ["machine", "length"] m_listed := by
  refine fnm_of T.hW T.F_listed sc_listed fun cdv A outer s H E C => ?_
  have nd := sc_listed.nd
  exact (mss_cons (ms_asg (me_tup (ma_cons (me_call (clb_fn C ((w_all_counts T).mono (by decide)) pass0 T.F_all_counts.kp (bd_all_counts_2 T) .nil (fun _ _ _ => .nil) tb_ok) (by rfl) T.g_all_counts (ma_cons (me_var 0) (ma_cons (me_var 1) ma_nil))) (ma_cons (me_lst (ma_cons (me_tup (ma_cons (me_str []) (ma_cons me_int ma_nil))) ma_nil)) ma_nil))) (mg_tup C 2 (mgs_cons (mg_name 2 nd) (mgs_cons (mg_name 3 nd) mgs_nil)))) (mss_cons (ms_for C (mi_rng1 (by rfl) T.z_range (ma_cons (me_var 1) ma_nil)) (mg_name 4 nd) (mss_cons (ms_asg (me_tup (ma_cons (me_op o_sub (me_op o_sub (me_var 1) (me_var 4)) me_int) (ma_cons (me_lst ma_nil) ma_nil))) (mg_tup C 2 (mgs_cons (mg_name 5 nd) (mgs_cons (mg_name 6 nd) mgs_nil)))) (mss_cons (ms_for C (mi_val C (me_var 3)) (mg_tup C 2 (mgs_cons (mg_name 7 nd) (mgs_cons (mg_name 8 nd) mgs_nil))) (mss_cons (ms_set 9 nd (me_ix C (me_fld C [97, 114, 114, 111, 119, 115] (by decide +kernel) (fld_arrows T) (me_var 0)) (me_var 8))) (mss_cons (ms_setLc (EX2 := EXF) (own := [("place", 11), ("goal", 12)]) (vs := [11, 12]) (g := (Tg.tp (Tgs.cons (Tg.nm 11) (Tgs.cons (Tg.nm 12) Tgs.nil)))) C nd 10 rfl rfl (sw_true rfl rfl rfl (by decide +kernel)) (mi_enum C (by rfl) T.z_enumerate (ma_cons (me_var 9) ma_nil)) (by kernel_rfl) (fun _ _ _ _ _ => (pg_tup rfl (pgs_cons (pg_name nd rfl (by first | exact Or.inl rfl | exact Or.inr rfl)) (pgs_cons (pg_name nd rfl (by first | exact Or.inl rfl | exact Or.inr rfl)) pgs_nil)))) (fun _ _ _ _ _ C => (pts_one (PW.pt (mw_and (mt_cmp (o_isnot T.gvn) (me_var 12) me_non (nomark _)) (mw_one (mt_cmp o_gt (me_ix C (me_ix C (me_var 2) (me_var 5)) (me_var 12)) me_int (nomark _))))))) (fun _ _ _ _ _ C => (me_var 11))) (mss_cons (ms_aug 6 nd o_iadd (me_lc (EX2 := EXF) (own := [("place", 11)]) (vs := [11]) (g := (Tg.nm 11)) C nd (mi_val C (me_var 10)) (by kernel_rfl) (fun _ _ _ _ _ => (pg_name nd rfl (by first | exact Or.inl rfl | exact Or.inr rfl))) (fun _ _ _ _ _ C => mts_nil) (fun _ _ _ _ _ C => (me_tup (ma_cons (me_op (o_add C) (me_var 7) (me_ix C (me_gstr [97, 98, 99, 100, 101] (by rfl) T.g_LETTERS (by decide +kernel)) (me_var 11))) (ma_cons (me_ix C (me_var 9) (me_var 11)) ma_nil)))))) mss_nil)))) (mss_cons (ms_set 3 nd (me_var 6)) mss_nil)))) (mss_cons (ms_ret (me_ty (b_tuple C) (by rfl) T.z_tuple (by decide +kernel) (ma_cons (me_lc (EX2 := EXF) (own := [("text", 7), ("stand", 8)]) (vs := [7, 8]) (g := (Tg.tp (Tgs.cons (Tg.nm 7) (Tgs.cons (Tg.nm 8) Tgs.nil)))) C nd (mi_val C (me_var 3)) (by kernel_rfl) (fun _ _ _ _ _ => (pg_tup rfl (pgs_cons (pg_name nd rfl (by first | exact Or.inl rfl | exact Or.inr rfl)) (pgs_cons (pg_name nd rfl (by first | exact Or.inl rfl | exact Or.inr rfl)) pgs_nil)))) (fun _ _ _ _ _ C => (pts_one (mt_cmp (o_in C) (me_var 8) (me_fld C [101, 110, 100, 115] (by decide +kernel) (fld_ends T) (me_var 0)) (by rfl)))) (fun _ _ _ _ _ C => (me_var 7))) ma_nil))) mss_nil)))

theorem w_texts_of (T : Tx W w mg) : FnM P W w mg base CX0 exF 4 T.a_texts_of T.fd_texts_of ["machine", "length"] m_texts_of := by
  refine fnm_of T.hW T.F_texts_of sc_texts_of fun cdv A outer s H E C => ?_
  have nd := sc_texts_of.nd
  exact (mss_cons (ms_expr (me_call (clb_fn C ((w_check_machine T).mono (by decide)) pass0 T.F_check_machine.kp (bd_check_machine_1 T) .nil (fun _ _ _ => .nil) tb_ok) (by rfl) T.g_check_machine (ma_cons (me_var 0) ma_nil))) (mss_cons (ms_expr (me_call (clb_fn C ((w_check_length T).mono (by decide)) pass0 T.F_check_length.kp (bd_check_length_1 T) .nil (fun _ _ _ => .nil) tb_ok) (by rfl) T.g_check_length (ma_cons (me_var 1) ma_nil))) (mss_cons (ms_if (mt_cmp o_gt (me_call (clb_fn C ((w_count_of T).mono (by decide)) pass0 T.F_count_of.kp (bd_count_of_2 T) .nil (fun _ _ _ => .nil) tb_ok) (by rfl) T.g_count_of (ma_cons (me_var 0) (ma_cons (me_var 1) ma_nil))) (me_gint 1000 (by rfl) T.g_MOST_LISTED) (nomark _)) mss_never mss_nil) (mss_cons (ms_ret (me_call (clb_fn C ((w_listed T).mono (by decide)) pass0 T.F_listed.kp (bd_listed_2 T) .nil (fun _ _ _ => .nil) tb_ok) (by rfl) T.g_listed (ma_cons (me_var 0) (ma_cons (me_var 1) ma_nil)))) mss_nil))))

theorem w_is_endless_of (T : Tx W w mg) : FnM P W w mg base CX0 exF 3 T.a_is_endless_of T.fd_is_endless_of ["machine"] m_is_endless_of := by
  refine fnm_of T.hW T.F_is_endless_of sc_is_endless_of fun cdv A outer s H E C => ?_
  have nd := sc_is_endless_of.nd
  exact (mss_cons (ms_set 1 nd (me_blt (b_len C) (by rfl) T.z_len (by decide +kernel) (ma_cons (me_fld C [97, 114, 114, 111, 119, 115] (by decide +kernel) (fld_arrows T) (me_var 0)) ma_nil))) (mss_cons (ms_set 2 nd (me_call (clb_fn C ((w_all_counts T).mono (by decide)) pass0 T.F_all_counts.kp (bd_all_counts_2 T) .nil (fun _ _ _ => .nil) tb_ok) (by rfl) T.g_all_counts (ma_cons (me_var 0) (ma_cons (me_op (o_mul C) me_int (me_var 1)) ma_nil)))) (mss_cons (ms_ret (me_blt (b_any C) (by rfl) T.z_any (by decide +kernel) (ma_cons (me_lc (EX2 := EXF) (own := [("length", 3)]) (vs := [3]) (g := (Tg.nm 3)) C nd (mi_rng2 (by rfl) T.z_range (ma_cons (me_var 1) (ma_cons (me_op (o_add C) (me_op (o_mul C) me_int (me_var 1)) me_int) ma_nil))) (by kernel_rfl) (fun _ _ _ _ _ => (pg_name nd rfl (by first | exact Or.inl rfl | exact Or.inr rfl))) (fun _ _ _ _ _ C => mts_nil) (fun _ _ _ _ _ C => (me_cmp o_gt (me_ix C (me_ix C (me_var 2) (me_var 3)) me_int) me_int (nomark _)))) ma_nil))) mss_nil)))

theorem w_is_endless (T : Tx W w mg) : FnM P W w mg base CX0 exF 4 T.a_is_endless T.fd_is_endless ["machine"] m_is_endless := by
  refine fnm_of T.hW T.F_is_endless sc_is_endless fun cdv A outer s H E C => ?_
  have nd := sc_is_endless.nd
  exact (mss_cons (ms_expr (me_call (clb_fn C ((w_check_machine T).mono (by decide)) pass0 T.F_check_machine.kp (bd_check_machine_1 T) .nil (fun _ _ _ => .nil) tb_ok) (by rfl) T.g_check_machine (ma_cons (me_var 0) ma_nil))) (mss_cons (ms_ret (me_call (clb_fn C ((w_is_endless_of T).mono (by decide)) pass0 T.F_is_endless_of.kp (bd_is_endless_of_1 T) .nil (fun _ _ _ => .nil) tb_ok) (by rfl) T.g_is_endless_of (ma_cons (me_var 0) ma_nil))) mss_nil))

theorem w__law_right (T : Tx W w mg) : FnM P W w mg base CX0 exF 6 T.a__law_right T.fd__law_right ["_law_sack_here"] m__law_right := by
  refine fnm_of T.hW T.F__law_right sc__law_right fun cdv A outer s H E C => ?_
  have nd := sc__law_right.nd
  exact (mss_cons (ms_for C (mi_rng1 (by rfl) T.z_range (ma_cons me_int ma_nil)) (mg_name 1 nd) (mss_cons (ms_set 2 nd (me_call (clb_fn C ((w__law_plan T).mono (by decide)) pass0 T.F__law_plan.kp (bd__law_plan_3 T) .nil (fun _ _ _ => .nil) tb_ok) (by rfl) T.g__law_plan (ma_cons (me_var 0) (ma_cons me_int (ma_cons me_int ma_nil))))) (mss_cons (ms_asg (me_tup (ma_cons (me_call (clb_cls 0 T.n_Machine C T.mk_Machine ((w_Machine___init__ T).mono (by decide)) pass0 (bd_Machine___init___4 T) .nil (fun _ _ _ => .nil) tf_ok) (by rfl) T.g_Machine (ma_cons (me_ix C (me_var 2) me_int) (ma_cons (me_ix C (me_var 2) me_int) (ma_cons (me_ix C (me_var 2) me_int) ma_nil)))) (ma_cons (me_blt (b_len C) (by rfl) T.z_len (by decide +kernel) (ma_cons (me_ix C (me_var 2) me_int) ma_nil)) ma_nil))) (mg_tup C 2 (mgs_cons (mg_name 3 nd) (mgs_cons (mg_name 4 nd) mgs_nil)))) (mss_cons (ms_for C (mi_rng1 (by rfl) T.z_range (ma_cons me_int ma_nil)) (mg_name 5 nd) (mss_cons (ms_set 6 nd (me_ty (b_tuple C) (by rfl) T.z_tuple (by decide +kernel) (ma_cons (me_lc (EX2 := EXF) (own := [("_law_row", 7), ("_law_stand", 8)]) (vs := [7, 8]) (g := (Tg.tp (Tgs.cons (Tg.nm 7) (Tgs.cons (Tg.nm 8) Tgs.nil)))) C nd (mi_val C (me_call (clb_fn C ((w__law_rows T).mono (by decide)) pass0 T.F__law_rows.kp (bd__law_rows_2 T) .nil (fun _ _ _ => .nil) tb_ok) (by rfl) T.g__law_rows (ma_cons (me_var 2) (ma_cons (me_var 5) ma_nil)))) (by kernel_rfl) (fun _ _ _ _ _ => (pg_tup rfl (pgs_cons (pg_name nd rfl (by first | exact Or.inl rfl | exact Or.inr rfl)) (pgs_cons (pg_name nd rfl (by first | exact Or.inl rfl | exact Or.inr rfl)) pgs_nil)))) (fun _ _ _ _ _ C => (pts_one (mt_cmp (o_in C) (me_var 8) (me_ix C (me_var 2) me_int) (by rfl)))) (fun _ _ _ _ _ C => (me_var 7))) ma_nil))) (mss_cons (ms_if (mt_cmp (o_ne C) (me_lst (ma_cons (me_call (clb_fn C ((w_how_many_texts T).mono (by decide)) pass0 T.F_how_many_texts.kp (bd_how_many_texts_2 T) .nil (fun _ _ _ => .nil) tb_ok) (by rfl) T.g_how_many_texts (ma_cons (me_var 3) (ma_cons (me_var 5) ma_nil))) (ma_cons (me_callK0 (clb_fn C ((w_how_many_texts T).mono (by decide)) pass0 T.F_how_many_texts.kp (bd_how_many_texts_0_length_machine T) .nil (fun _ _ _ => .nil) tb_ok) (by rfl) T.g_how_many_texts (mk_cons (me_var 5) (mk_cons (me_var 3) mk_nil)) 2) ma_nil))) (me_op (o_mul C) (me_lst (ma_cons (me_blt (b_len C) (by rfl) T.z_len (by decide +kernel) (ma_cons (me_var 6) ma_nil)) ma_nil)) me_int) (nomark _)) (mss_cons (ms_ret me_bl) mss_nil) mss_nil) (mss_cons (ms_if (mt_cmp (o_ne C) (me_blt (b_repr C) (by rfl) T.z_repr (by decide +kernel) (ma_cons (me_lst (ma_cons (me_call (clb_fn C ((w_texts_of T).mono (by decide)) pass0 T.F_texts_of.kp (bd_texts_of_2 T) .nil (fun _ _ _ => .nil) tb_ok) (by rfl) T.g_texts_of (ma_cons (me_var 3) (ma_cons (me_var 5) ma_nil))) (ma_cons (me_callK0 (clb_fn C ((w_texts_of T).mono (by decide)) pass0 T.F_texts_of.kp (bd_texts_of_0_length_machine T) .nil (fun _ _ _ => .nil) tb_ok) (by rfl) T.g_texts_of (mk_cons (me_var 5) (mk_cons (me_var 3) mk_nil)) 2) ma_nil))) ma_nil)) (me_blt (b_repr C) (by rfl) T.z_repr (by decide +kernel) (ma_cons (me_lst (ma_cons (me_var 6) (ma_cons (me_var 6) ma_nil))) ma_nil)) (nomark _)) (mss_cons (ms_ret me_bl) mss_nil) mss_nil) mss_nil)))) (mss_cons (ms_set 6 nd (me_blt (b_any C) (by rfl) T.z_any (by decide +kernel) (ma_cons (me_lc (EX2 := EXF) (own := [("_law_length_here", 5)]) (vs := [5]) (g := (Tg.nm 5)) C nd (mi_rng2 (by rfl) T.z_range (ma_cons (me_var 4) (ma_cons (me_op (o_add C) (me_op (o_mul C) me_int (me_var 4)) me_int) ma_nil))) (by kernel_rfl) (fun _ _ _ _ _ => (pg_name nd rfl (by first | exact Or.inl rfl | exact Or.inr rfl))) (fun _ _ _ _ _ C => mts_nil) (fun _ _ _ _ _ C => (me_cmp o_gt (me_call (clb_fn C ((w_how_many_texts T).mono (by decide)) pass0 T.F_how_many_texts.kp (bd_how_many_texts_2 T) .nil (fun _ _ _ => .nil) tb_ok) (by rfl) T.g_how_many_texts (ma_cons (me_var 3) (ma_cons (me_var 5) ma_nil))) me_int (nomark _)))) ma_nil))) (mss_cons (ms_if (mt_cmp (o_ne C) (me_blt (b_repr C) (by rfl) T.z_repr (by decide +kernel) (ma_cons (me_lst (ma_cons (me_call (clb_fn C ((w_is_endless T).mono (by decide)) pass0 T.F_is_endless.kp (bd_is_endless_1 T) .nil (fun _ _ _ => .nil) tb_ok) (by rfl) T.g_is_endless (ma_cons (me_var 3) ma_nil)) (ma_cons (me_callK0 (clb_fn C ((w_is_endless T).mono (by decide)) pass0 T.F_is_endless.kp (bd_is_endless_0_machine T) .nil (fun _ _ _ => .nil) tb_ok) (by rfl) T.g_is_endless (mk_cons (me_var 3) mk_nil) 1) ma_nil))) ma_nil)) (me_blt (b_repr C) (by rfl) T.z_repr (by decide +kernel) (ma_cons (me_lst (ma_cons (me_var 6) (ma_cons (me_var 6) ma_nil))) ma_nil)) (nomark _)) (mss_cons (ms_ret me_bl) mss_nil) mss_nil) (mss_cons (ms_if (mt_cmp (o_ne C) (me_call (clb_fn C ((w_is_endless T).mono (by decide)) pass0 T.F_is_endless.kp (bd_is_endless_1 T) .nil (fun _ _ _ => .nil) tb_ok) (by rfl) T.g_is_endless (ma_cons (me_var 3) ma_nil)) (me_cmp o_gt (me_blt (b_sum C) (by rfl) T.z_sum (by decide +kernel) (ma_cons (me_lc (EX2 := EXF) (own := [("_law_k", 9)]) (vs := [9]) (g := (Tg.nm 9)) C nd (mi_rng2 (by rfl) T.z_range (ma_cons me_int (ma_cons me_int ma_nil))) (by kernel_rfl) (fun _ _ _ _ _ => (pg_name nd rfl (by first | exact Or.inl rfl | exact Or.inr rfl))) (fun _ _ _ _ _ C => mts_nil) (fun _ _ _ _ _ C => (me_call (clb_fn C ((w_how_many_texts T).mono (by decide)) pass0 T.F_how_many_texts.kp (bd_how_many_texts_2 T) .nil (fun _ _ _ => .nil) tb_ok) (by rfl) T.g_how_many_texts (ma_cons (me_var 3) (ma_cons (me_var 9) ma_nil))))) ma_nil)) me_int (nomark _)) (nomark _)) (mss_cons (ms_ret me_bl) mss_nil) mss_nil) mss_nil))))))) (mss_cons (ms_ret me_bl) mss_nil))

theorem w__law_sack (T : Tx W w mg) : FnM P W w mg base CX0 exF 1 T.a__law_sack T.fd__law_sack ["_law_script", "_law_k"] m__law_sack := by
  refine fnm_of T.hW T.F__law_sack sc__law_sack fun cdv A outer s H E C => ?_
  have nd := sc__law_sack.nd
  exact (mss_cons (ms_set 2 nd (me_if (mt_cmp o_lt (me_var 1) (me_blt (b_len C) (by rfl) T.z_len (by decide +kernel) (ma_cons (me_var 0) ma_nil)) (nomark _)) (me_ty (b_int C) (by rfl) T.z_int (by decide +kernel) (ma_cons (me_ix C (me_var 0) (me_var 1)) ma_nil)) (me_op (o_add C) (me_op (o_mul C) me_int (me_var 1)) me_int))) (mss_cons (ms_set 3 nd (me_op (o_add C) me_int (me_op (o_mul C) me_int (me_var 1)))) (mss_cons (ms_for C (mi_val C (me_sl C (me_var 0) mo_none (mo_some me_int))) (mg_name 4 nd) (mss_cons (ms_set 3 nd (me_op o_mod (me_ty (b_int C) (by rfl) T.z_int (by decide +kernel) (ma_cons (me_op (o_add C) (me_op (o_mul C) (me_var 3) me_int) (me_op o_mod (me_ty (b_int C) (by rfl) T.z_int (by decide +kernel) (ma_cons (me_var 4) ma_nil)) me_int)) ma_nil)) me_int)) mss_nil)) (mss_cons (ms_ret (me_lst (ma_cons me_int (ma_cons (me_if (PW.pt (mw_or (mt_cmp o_lt (me_var 2) me_int (nomark _)) (mw_one (mt_cmp o_ge (me_var 2) (me_op o_pow me_int me_int) (nomark _))))) (me_blt b_abs (by rfl) T.z_abs (by decide +kernel) (ma_cons (me_var 2) ma_nil)) me_int) (ma_cons (me_op o_mod (me_ty (b_int C) (by rfl) T.z_int (by decide +kernel) (ma_cons (me_op (o_add C) (me_op (o_mul C) (me_var 3) me_int) (me_op o_mod (me_var 2) me_int)) ma_nil)) me_int) ma_nil))))) mss_nil))))

theorem w_law (T : Tx W w mg) : FnM P W w mg base CX0 exF 7 T.a_law T.fd_law ["_law_script"] m_law := by
  refine fnm_of T.hW T.F_law sc_law fun cdv A outer s H E C => ?_
  have nd := sc_law.nd
  exact (mss_cons (ms_ret (me_blt (b_all C) (by rfl) T.z_all (by decide +kernel) (ma_cons (me_lc (EX2 := EXF) (own := [("_law_k", 1)]) (vs := [1]) (g := (Tg.nm 1)) C nd (mi_rng1 (by rfl) T.z_range (ma_cons (me_blt (b_max2 C) (by rfl) T.z_max (by decide +kernel) (ma_cons me_int (ma_cons (me_blt (b_min2 C) (by rfl) T.z_min (by decide +kernel) (ma_cons (me_blt (b_len C) (by rfl) T.z_len (by decide +kernel) (ma_cons (me_var 0) ma_nil)) (ma_cons me_int ma_nil))) ma_nil))) ma_nil)) (by kernel_rfl) (fun _ _ _ _ _ => (pg_name nd rfl (by first | exact Or.inl rfl | exact Or.inr rfl))) (fun _ _ _ _ _ C => mts_nil) (fun _ _ _ _ _ C => (me_call (clb_fn C ((w__law_right T).mono (by decide)) pass0 T.F__law_right.kp (bd__law_right_1 T) .nil (fun _ _ _ => .nil) tb_ok) (by rfl) T.g__law_right (ma_cons (me_call (clb_fn C ((w__law_sack T).mono (by decide)) pass0 T.F__law_sack.kp (bd__law_sack_2 T) .nil (fun _ _ _ => .nil) tb_ok) (by rfl) T.g__law_sack (ma_cons (me_var 0) (ma_cons (me_var 1) ma_nil))) ma_nil)))) ma_nil))) mss_nil)

end
theorem all_mk {l : PySem.W.OpenLaw} {W : World} {K : PySem.W.Frag} {h : Heap} {mg : Str → Option Value} {fa : Addr} (KX : K.In h) (G : h.Ns mainGlobals mg) (hfa : mg "law" = some (.ref fa))
    {f0 : Addr} {od0 an0 : Option Addr} {sl0 : Array (Option Value)} {oc0 kV0 dc0 pm0 cd0 ct0 : Value}
    {f1 : Addr} {od1 an1 : Option Addr} {sl1 : Array (Option Value)} {oc1 kV1 dc1 pm1 cd1 ct1 : Value}
    {f2 : Addr} {od2 an2 : Option Addr} {sl2 : Array (Option Value)} {oc2 kV2 dc2 pm2 cd2 ct2 : Value}
    {f3 : Addr} {od3 an3 : Option Addr} {sl3 : Array (Option Value)} {oc3 kV3 dc3 pm3 cd3 ct3 : Value}
    {f4 : Addr} {od4 an4 : Option Addr} {sl4 : Array (Option Value)} {oc4 kV4 dc4 pm4 cd4 ct4 : Value}
    {f5 : Addr} {od5 an5 : Option Addr} {sl5 : Array (Option Value)} {oc5 kV5 dc5 pm5 cd5 ct5 : Value}
    {f6 : Addr} {od6 an6 : Option Addr} {sl6 : Array (Option Value)} {oc6 kV6 dc6 pm6 cd6 ct6 : Value}
    {f7 : Addr} {od7 an7 : Option Addr} {sl7 : Array (Option Value)} {oc7 kV7 dc7 pm7 cd7 ct7 : Value}
    {f8 : Addr} {od8 an8 : Option Addr} {sl8 : Array (Option Value)} {oc8 kV8 dc8 pm8 cd8 ct8 : Value}
    {f9 : Addr} {od9 an9 : Option Addr} {sl9 : Array (Option Value)} {oc9 kV9 dc9 pm9 cd9 ct9 : Value}
    {f10 : Addr} {od10 an10 : Option Addr} {sl10 : Array (Option Value)} {oc10 kV10 dc10 pm10 cd10 ct10 : Value}
    {f11 : Addr} {od11 an11 : Option Addr} {sl11 : Array (Option Value)} {oc11 kV11 dc11 pm11 cd11 ct11 : Value}
    {f12 : Addr} {od12 an12 : Option Addr} {sl12 : Array (Option Value)} {oc12 kV12 dc12 pm12 cd12 ct12 : Value}
    {f13 : Addr} {od13 an13 : Option Addr} {sl13 : Array (Option Value)} {oc13 kV13 dc13 pm13 cd13 ct13 : Value}
    {f14 : Addr} {od14 an14 : Option Addr} {sl14 : Array (Option Value)} {oc14 kV14 dc14 pm14 cd14 ct14 : Value}
    {f15 : Addr} {od15 an15 : Option Addr} {sl15 : Array (Option Value)} {oc15 kV15 dc15 pm15 cd15 ct15 : Value}
    {f16 : Addr} {od16 an16 : Option Addr} {sl16 : Array (Option Value)} {oc16 kV16 dc16 pm16 cd16 ct16 : Value}
    {f17 : Addr} {od17 an17 : Option Addr} {sl17 : Array (Option Value)} {oc17 kV17 dc17 pm17 cd17 ct17 : Value}
    {f18 : Addr} {od18 an18 : Option Addr} {sl18 : Array (Option Value)} {oc18 kV18 dc18 pm18 cd18 ct18 : Value}
    {f19 : Addr} {od19 an19 : Option Addr} {sl19 : Array (Option Value)} {oc19 kV19 dc19 pm19 cd19 ct19 : Value}
    {f20 : Addr} {od20 an20 : Option Addr} {sl20 : Array (Option Value)} {oc20 kV20 dc20 pm20 cd20 ct20 : Value}
    {f21 : Addr} {od21 an21 : Option Addr} {sl21 : Array (Option Value)} {oc21 kV21 dc21 pm21 cd21 ct21 : Value}
    {C0 : Addr}
    {cdt0 : ClassData}
    {t_MOST_LETTERS : Tok}
    {t_MOST_STANDS : Tok}
    {t_MOST_TEXT : Tok}
    {t_MOST_LISTED : Tok}
    {t_LETTERS : Tok}
    (aC0 : PySem.W.nsIn K mainGlobals "Machine" = some (some (.ref C0)))
    (pg0 : PySem.W.plainGet K C0 Str.empty = true)
    (hd0 : PySem.W.hasDictIn K C0 = true)
    (po0 : PySem.W.plainOver K C0 = true)
    (sa0 : PySem.W.findIn K (.ref C0) "__setattr__" = some (some (.builtin "object.__setattr__")))
    (ha0 : PySem.W.findIn K (.ref C0) "__class__" = some (some (.builtin "object.__class__")))
    (hn0 : PySem.W.specialIn K (.builtin "object.__class__") "__get__" = some (some (.builtin "getset_descriptor.__get__")))
    (ht0 : PySem.W.takesIn K (.builtin "object.__class__") = some true)
    (hm0 : PySem.W.mroIn K C0 (.type "object") = some true)
    (mk0 : PySem.W.makesIn K C0 = true)
    (kc0 : PySem.W.keepIn K (.ref C0) = true)
    (na0_letters : PySem.W.findIn K (.ref C0) "letters" = some none)
    (na0_arrows : PySem.W.findIn K (.ref C0) "arrows" = some none)
    (na0_ends : PySem.W.findIn K (.ref C0) "ends" = some none)
    (ii0_int : PySem.W.subIn K (.ref C0) (.type "int") = some false)
    (ii0_bool : PySem.W.subIn K (.ref C0) (.type "bool") = some false)
    (ii0_tuple : PySem.W.subIn K (.ref C0) (.type "tuple") = some false)
    (zcd0 : PySem.W.clsIn K C0 = some cdt0)
    (zty0 : PySem.W.typeIn K (.ref C0) = some (.type "type"))
    (kk0_NoneType : PySem.W.subIn K (.type "NoneType") (.ref C0) = some false)
    (kk0_bool : PySem.W.subIn K (.type "bool") (.ref C0) = some false)
    (kk0_int : PySem.W.subIn K (.type "int") (.ref C0) = some false)
    (kk0_str : PySem.W.subIn K (.type "str") (.ref C0) = some false)
    (kk0_tuple : PySem.W.subIn K (.type "tuple") (.ref C0) = some false)
    (kk0_list : PySem.W.subIn K (.type "list") (.ref C0) = some false)
    (kk0_dict : PySem.W.subIn K (.type "dict") (.ref C0) = some false)
    (a0 : PySem.W.nsIn K mainGlobals "_law_pinch" = some (some (.ref f0)))
    (l0 : K.lookup f0 = some ⟨oc0, od0, .func (PySem.W.fnOf "_law_pinch" "_law_pinch" (defArgs s__law_pinch) (defBody s__law_pinch) (defScope s__law_pinch) .none kV0 dc0 pm0 an0 cd0 ct0), sl0⟩)
    (e0 : PySem.W.codeIn K cd0 "_law_pinch" = true)
    (k0 : PySem.W.keepIn K (.ref f0) = true)
    (a1 : PySem.W.nsIn K mainGlobals "_law_plan" = some (some (.ref f1)))
    (l1 : K.lookup f1 = some ⟨oc1, od1, .func (PySem.W.fnOf "_law_plan" "_law_plan" (defArgs s__law_plan) (defBody s__law_plan) (defScope s__law_plan) .none kV1 dc1 pm1 an1 cd1 ct1), sl1⟩)
    (e1 : PySem.W.codeIn K cd1 "_law_plan" = true)
    (k1 : PySem.W.keepIn K (.ref f1) = true)
    (a2 : PySem.W.nsIn K mainGlobals "is_between" = some (some (.ref f2)))
    (l2 : K.lookup f2 = some ⟨oc2, od2, .func (PySem.W.fnOf "is_between" "is_between" (defArgs s_is_between) (defBody s_is_between) (defScope s_is_between) .none kV2 dc2 pm2 an2 cd2 ct2), sl2⟩)
    (e2 : PySem.W.codeIn K cd2 "is_between" = true)
    (k2 : PySem.W.keepIn K (.ref f2) = true)
    (a3 : PySem.W.nsIn K mainGlobals "is_goal" = some (some (.ref f3)))
    (l3 : K.lookup f3 = some ⟨oc3, od3, .func (PySem.W.fnOf "is_goal" "is_goal" (defArgs s_is_goal) (defBody s_is_goal) (defScope s_is_goal) .none kV3 dc3 pm3 an3 cd3 ct3), sl3⟩)
    (e3 : PySem.W.codeIn K cd3 "is_goal" = true)
    (k3 : PySem.W.keepIn K (.ref f3) = true)
    (a4 : PySem.W.nsIn K mainGlobals "wrong_arrows" = some (some (.ref f4)))
    (l4 : K.lookup f4 = some ⟨oc4, od4, .func (PySem.W.fnOf "wrong_arrows" "wrong_arrows" (defArgs s_wrong_arrows) (defBody s_wrong_arrows) (defScope s_wrong_arrows) .none kV4 dc4 pm4 an4 cd4 ct4), sl4⟩)
    (e4 : PySem.W.codeIn K cd4 "wrong_arrows" = true)
    (k4 : PySem.W.keepIn K (.ref f4) = true)
    (a5 : PySem.W.nsIn K mainGlobals "wrong_end" = some (some (.ref f5)))
    (l5 : K.lookup f5 = some ⟨oc5, od5, .func (PySem.W.fnOf "wrong_end" "wrong_end" (defArgs s_wrong_end) (defBody s_wrong_end) (defScope s_wrong_end) .none kV5 dc5 pm5 an5 cd5 ct5), sl5⟩)
    (e5 : PySem.W.codeIn K cd5 "wrong_end" = true)
    (k5 : PySem.W.keepIn K (.ref f5) = true)
    (a6 : PySem.W.findIn K (.ref C0) "__init__" = some (some (.ref f6)))
    (i6 : PySem.W.isFn K (.ref f6) = true)
    (l6 : K.lookup f6 = some ⟨oc6, od6, .func (PySem.W.fnOf "__init__" "Machine.__init__" (defArgs s_Machine___init__) (defBody s_Machine___init__) (defScope s_Machine___init__) .none kV6 dc6 pm6 an6 cd6 ct6), sl6⟩)
    (e6 : PySem.W.codeIn K cd6 "Machine.__init__" = true)
    (k6 : PySem.W.keepIn K (.ref f6) = true)
    (a7 : PySem.W.nsIn K mainGlobals "_law_rows" = some (some (.ref f7)))
    (l7 : K.lookup f7 = some ⟨oc7, od7, .func (PySem.W.fnOf "_law_rows" "_law_rows" (defArgs s__law_rows) (defBody s__law_rows) (defScope s__law_rows) .none kV7 dc7 pm7 an7 cd7 ct7), sl7⟩)
    (e7 : PySem.W.codeIn K cd7 "_law_rows" = true)
    (k7 : PySem.W.keepIn K (.ref f7) = true)
    (a8 : PySem.W.nsIn K mainGlobals "check_machine" = some (some (.ref f8)))
    (l8 : K.lookup f8 = some ⟨oc8, od8, .func (PySem.W.fnOf "check_machine" "check_machine" (defArgs s_check_machine) (defBody s_check_machine) (defScope s_check_machine) .none kV8 dc8 pm8 an8 cd8 ct8), sl8⟩)
    (e8 : PySem.W.codeIn K cd8 "check_machine" = true)
    (k8 : PySem.W.keepIn K (.ref f8) = true)
    (a9 : PySem.W.nsIn K mainGlobals "check_length" = some (some (.ref f9)))
    (l9 : K.lookup f9 = some ⟨oc9, od9, .func (PySem.W.fnOf "check_length" "check_length" (defArgs s_check_length) (defBody s_check_length) (defScope s_check_length) .none kV9 dc9 pm9 an9 cd9 ct9), sl9⟩)
    (e9 : PySem.W.codeIn K cd9 "check_length" = true)
    (k9 : PySem.W.keepIn K (.ref f9) = true)
    (a10 : PySem.W.nsIn K mainGlobals "end_counts" = some (some (.ref f10)))
    (l10 : K.lookup f10 = some ⟨oc10, od10, .func (PySem.W.fnOf "end_counts" "end_counts" (defArgs s_end_counts) (defBody s_end_counts) (defScope s_end_counts) .none kV10 dc10 pm10 an10 cd10 ct10), sl10⟩)
    (e10 : PySem.W.codeIn K cd10 "end_counts" = true)
    (k10 : PySem.W.keepIn K (.ref f10) = true)
    (a11 : PySem.W.nsIn K mainGlobals "counts_before" = some (some (.ref f11)))
    (l11 : K.lookup f11 = some ⟨oc11, od11, .func (PySem.W.fnOf "counts_before" "counts_before" (defArgs s_counts_before) (defBody s_counts_before) (defScope s_counts_before) .none kV11 dc11 pm11 an11 cd11 ct11), sl11⟩)
    (e11 : PySem.W.codeIn K cd11 "counts_before" = true)
    (k11 : PySem.W.keepIn K (.ref f11) = true)
    (a12 : PySem.W.nsIn K mainGlobals "all_counts" = some (some (.ref f12)))
    (l12 : K.lookup f12 = some ⟨oc12, od12, .func (PySem.W.fnOf "all_counts" "all_counts" (defArgs s_all_counts) (defBody s_all_counts) (defScope s_all_counts) .none kV12 dc12 pm12 an12 cd12 ct12), sl12⟩)
    (e12 : PySem.W.codeIn K cd12 "all_counts" = true)
    (k12 : PySem.W.keepIn K (.ref f12) = true)
    (a13 : PySem.W.nsIn K mainGlobals "count_of" = some (some (.ref f13)))
    (l13 : K.lookup f13 = some ⟨oc13, od13, .func (PySem.W.fnOf "count_of" "count_of" (defArgs s_count_of) (defBody s_count_of) (defScope s_count_of) .none kV13 dc13 pm13 an13 cd13 ct13), sl13⟩)
    (e13 : PySem.W.codeIn K cd13 "count_of" = true)
    (k13 : PySem.W.keepIn K (.ref f13) = true)
    (a14 : PySem.W.nsIn K mainGlobals "how_many_texts" = some (some (.ref f14)))
    (l14 : K.lookup f14 = some ⟨oc14, od14, .func (PySem.W.fnOf "how_many_texts" "how_many_texts" (defArgs s_how_many_texts) (defBody s_how_many_texts) (defScope s_how_many_texts) .none kV14 dc14 pm14 an14 cd14 ct14), sl14⟩)
    (e14 : PySem.W.codeIn K cd14 "how_many_texts" = true)
    (k14 : PySem.W.keepIn K (.ref f14) = true)
    (a15 : PySem.W.nsIn K mainGlobals "listed" = some (some (.ref f15)))
    (l15 : K.lookup f15 = some ⟨oc15, od15, .func (PySem.W.fnOf "listed" "listed" (defArgs s_listed) (defBody s_listed) (defScope s_listed) .none kV15 dc15 pm15 an15 cd15 ct15), sl15⟩)
    (e15 : PySem.W.codeIn K cd15 "listed" = true)
    (k15 : PySem.W.keepIn K (.ref f15) = true)
    (a16 : PySem.W.nsIn K mainGlobals "texts_of" = some (some (.ref f16)))
    (l16 : K.lookup f16 = some ⟨oc16, od16, .func (PySem.W.fnOf "texts_of" "texts_of" (defArgs s_texts_of) (defBody s_texts_of) (defScope s_texts_of) .none kV16 dc16 pm16 an16 cd16 ct16), sl16⟩)
    (e16 : PySem.W.codeIn K cd16 "texts_of" = true)
    (k16 : PySem.W.keepIn K (.ref f16) = true)
    (a17 : PySem.W.nsIn K mainGlobals "is_endless_of" = some (some (.ref f17)))
    (l17 : K.lookup f17 = some ⟨oc17, od17, .func (PySem.W.fnOf "is_endless_of" "is_endless_of" (defArgs s_is_endless_of) (defBody s_is_endless_of) (defScope s_is_endless_of) .none kV17 dc17 pm17 an17 cd17 ct17), sl17⟩)
    (e17 : PySem.W.codeIn K cd17 "is_endless_of" = true)
    (k17 : PySem.W.keepIn K (.ref f17) = true)
    (a18 : PySem.W.nsIn K mainGlobals "is_endless" = some (some (.ref f18)))
    (l18 : K.lookup f18 = some ⟨oc18, od18, .func (PySem.W.fnOf "is_endless" "is_endless" (defArgs s_is_endless) (defBody s_is_endless) (defScope s_is_endless) .none kV18 dc18 pm18 an18 cd18 ct18), sl18⟩)
    (e18 : PySem.W.codeIn K cd18 "is_endless" = true)
    (k18 : PySem.W.keepIn K (.ref f18) = true)
    (a19 : PySem.W.nsIn K mainGlobals "_law_right" = some (some (.ref f19)))
    (l19 : K.lookup f19 = some ⟨oc19, od19, .func (PySem.W.fnOf "_law_right" "_law_right" (defArgs s__law_right) (defBody s__law_right) (defScope s__law_right) .none kV19 dc19 pm19 an19 cd19 ct19), sl19⟩)
    (e19 : PySem.W.codeIn K cd19 "_law_right" = true)
    (k19 : PySem.W.keepIn K (.ref f19) = true)
    (a20 : PySem.W.nsIn K mainGlobals "_law_sack" = some (some (.ref f20)))
    (l20 : K.lookup f20 = some ⟨oc20, od20, .func (PySem.W.fnOf "_law_sack" "_law_sack" (defArgs s__law_sack) (defBody s__law_sack) (defScope s__law_sack) .none kV20 dc20 pm20 an20 cd20 ct20), sl20⟩)
    (e20 : PySem.W.codeIn K cd20 "_law_sack" = true)
    (k20 : PySem.W.keepIn K (.ref f20) = true)
    (a21 : PySem.W.nsIn K mainGlobals "law" = some (some (.ref f21)))
    (l21 : K.lookup f21 = some ⟨oc21, od21, .func (PySem.W.fnOf "law" "law" (defArgs s_law) (defBody s_law) (defScope s_law) .none kV21 dc21 pm21 an21 cd21 ct21), sl21⟩)
    (e21 : PySem.W.codeIn K cd21 "law" = true)
    (k21 : PySem.W.keepIn K (.ref f21) = true)
    (g_MOST_LETTERS : PySem.W.nsIn K mainGlobals "MOST_LETTERS" = some (some (.int 5 t_MOST_LETTERS)))
    (g_MOST_STANDS : PySem.W.nsIn K mainGlobals "MOST_STANDS" = some (some (.int 8 t_MOST_STANDS)))
    (g_MOST_TEXT : PySem.W.nsIn K mainGlobals "MOST_TEXT" = some (some (.int 300 t_MOST_TEXT)))
    (g_MOST_LISTED : PySem.W.nsIn K mainGlobals "MOST_LISTED" = some (some (.int 1000 t_MOST_LISTED)))
    (g_LETTERS : PySem.W.nsIn K mainGlobals "LETTERS" = some (some (.str "abcde" t_LETTERS)))
    (z_abs : PySem.W.nsIn K mainGlobals "abs" = some none)
    (z_all : PySem.W.nsIn K mainGlobals "all" = some none)
    (z_any : PySem.W.nsIn K mainGlobals "any" = some none)
    (z_bool : PySem.W.nsIn K mainGlobals "bool" = some none)
    (z_divmod : PySem.W.nsIn K mainGlobals "divmod" = some none)
    (z_enumerate : PySem.W.nsIn K mainGlobals "enumerate" = some none)
    (z_int : PySem.W.nsIn K mainGlobals "int" = some none)
    (z_isinstance : PySem.W.nsIn K mainGlobals "isinstance" = some none)
    (z_len : PySem.W.nsIn K mainGlobals "len" = some none)
    (z_max : PySem.W.nsIn K mainGlobals "max" = some none)
    (z_min : PySem.W.nsIn K mainGlobals "min" = some none)
    (z_range : PySem.W.nsIn K mainGlobals "range" = some none)
    (z_repr : PySem.W.nsIn K mainGlobals "repr" = some none)
    (z_sum : PySem.W.nsIn K mainGlobals "sum" = some none)
    (z_tuple : PySem.W.nsIn K mainGlobals "tuple" = some none)
    : ∃ fd : FuncData, (∀ (s : Shared) (v : Value), BindsTo s fd ⟨[v], []⟩ [("_law_script", v)]) ∧ ∀ base : Heap, K.In base → base.Ns mainGlobals mg → ∃ w : Wo, w.K = K ∧ FnM l.prog W w mg base CX0 exF 7 fa fd ["_law_script"] m_law := by
  cases hfa.symm.trans (PySem.W.mg_of KX G a21)
  let T : Tx W ⟨K, fun c => if c = 0 then some C0 else none, gvOf [], W⟩ mg := {
    hW := rfl
    gvn := gvn_of (l := [])
    nn_Desk := rfl
    nn_Console := rfl
    nn_Kept := rfl
    nn_Trial := rfl
    nn_Run := rfl
    nn_Paths := rfl
    nn_Readings := rfl
    nn_InputError := rfl
    nn_StateError := rfl
    nn_SizeError := rfl
    nn_NotAMachine := rfl
    nn_NotADesk := rfl
    nn_InvalidText := rfl
    nn_InvalidCount := rfl
    nn_InvalidLetter := rfl
    nn_InvalidStand := rfl
    nn_InvalidWord := rfl
    nn_InvalidLine := rfl
    nn_InvalidArrows := rfl
    nn_InvalidEnds := rfl
    nn_InvalidBook := rfl
    nn_InvalidTexts := rfl
    nn_InvalidDeeds := rfl
    nn_NothingToUndo := rfl
    nn_Busy := rfl
    nn_TooMany := rfl
    a__law_pinch := f0
    fd__law_pinch := _
    F__law_pinch := fun_mk (st := s__law_pinch) l0 e0 k0
    g__law_pinch := PySem.W.mg_of KX G a0
    a__law_plan := f1
    fd__law_plan := _
    F__law_plan := fun_mk (st := s__law_plan) l1 e1 k1
    g__law_plan := PySem.W.mg_of KX G a1
    a_is_between := f2
    fd_is_between := _
    F_is_between := fun_mk (st := s_is_between) l2 e2 k2
    g_is_between := PySem.W.mg_of KX G a2
    a_is_goal := f3
    fd_is_goal := _
    F_is_goal := fun_mk (st := s_is_goal) l3 e3 k3
    g_is_goal := PySem.W.mg_of KX G a3
    a_wrong_arrows := f4
    fd_wrong_arrows := _
    F_wrong_arrows := fun_mk (st := s_wrong_arrows) l4 e4 k4
    g_wrong_arrows := PySem.W.mg_of KX G a4
    a_wrong_end := f5
    fd_wrong_end := _
    F_wrong_end := fun_mk (st := s_wrong_end) l5 e5 k5
    g_wrong_end := PySem.W.mg_of KX G a5
    a_Machine___init__ := f6
    fd_Machine___init__ := _
    F_Machine___init__ := fun_mk (st := s_Machine___init__) l6 e6 k6
    a__law_rows := f7
    fd__law_rows := _
    F__law_rows := fun_mk (st := s__law_rows) l7 e7 k7
    g__law_rows := PySem.W.mg_of KX G a7
    a_check_machine := f8
    fd_check_machine := _
    F_check_machine := fun_mk (st := s_check_machine) l8 e8 k8
    g_check_machine := PySem.W.mg_of KX G a8
    a_check_length := f9
    fd_check_length := _
    F_check_length := fun_mk (st := s_check_length) l9 e9 k9
    g_check_length := PySem.W.mg_of KX G a9
    a_end_counts := f10
    fd_end_counts := _
    F_end_counts := fun_mk (st := s_end_counts) l10 e10 k10
    g_end_counts := PySem.W.mg_of KX G a10
    a_counts_before := f11
    fd_counts_before := _
    F_counts_before := fun_mk (st := s_counts_before) l11 e11 k11
    g_counts_before := PySem.W.mg_of KX G a11
    a_all_counts := f12
    fd_all_counts := _
    F_all_counts := fun_mk (st := s_all_counts) l12 e12 k12
    g_all_counts := PySem.W.mg_of KX G a12
    a_count_of := f13
    fd_count_of := _
    F_count_of := fun_mk (st := s_count_of) l13 e13 k13
    g_count_of := PySem.W.mg_of KX G a13
    a_how_many_texts := f14
    fd_how_many_texts := _
    F_how_many_texts := fun_mk (st := s_how_many_texts) l14 e14 k14
    g_how_many_texts := PySem.W.mg_of KX G a14
    a_listed := f15
    fd_listed := _
    F_listed := fun_mk (st := s_listed) l15 e15 k15
    g_listed := PySem.W.mg_of KX G a15
    a_texts_of := f16
    fd_texts_of := _
    F_texts_of := fun_mk (st := s_texts_of) l16 e16 k16
    g_texts_of := PySem.W.mg_of KX G a16
    a_is_endless_of := f17
    fd_is_endless_of := _
    F_is_endless_of := fun_mk (st := s_is_endless_of) l17 e17 k17
    g_is_endless_of := PySem.W.mg_of KX G a17
    a_is_endless := f18
    fd_is_endless := _
    F_is_endless := fun_mk (st := s_is_endless) l18 e18 k18
    g_is_endless := PySem.W.mg_of KX G a18
    a__law_right := f19
    fd__law_right := _
    F__law_right := fun_mk (st := s__law_right) l19 e19 k19
    g__law_right := PySem.W.mg_of KX G a19
    a__law_sack := f20
    fd__law_sack := _
    F__law_sack := fun_mk (st := s__law_sack) l20 e20 k20
    g__law_sack := PySem.W.mg_of KX G a20
    a_law := fa
    fd_law := _
    F_law := fun_mk (st := s_law) l21 e21 k21
    g_law := PySem.W.mg_of KX G a21
    t_MOST_LETTERS := t_MOST_LETTERS
    g_MOST_LETTERS := PySem.W.mg_of KX G g_MOST_LETTERS
    t_MOST_STANDS := t_MOST_STANDS
    g_MOST_STANDS := PySem.W.mg_of KX G g_MOST_STANDS
    t_MOST_TEXT := t_MOST_TEXT
    g_MOST_TEXT := PySem.W.mg_of KX G g_MOST_TEXT
    t_MOST_LISTED := t_MOST_LISTED
    g_MOST_LISTED := PySem.W.mg_of KX G g_MOST_LISTED
    t_LETTERS := t_LETTERS
    g_LETTERS := PySem.W.mg_of KX G g_LETTERS
    c_Machine := C0
    g_Machine := PySem.W.mg_of KX G aC0
    n_Machine := rfl
    cl_Machine := ⟨pg0, hd0, po0, sa0⟩
    ci_Machine := ⟨⟨pg0, hd0, po0, sa0⟩, ha0, hn0, ht0, hm0⟩
    mk_Machine := ⟨mk0, a6, i6, kc0⟩
    na_Machine_letters := na0_letters
    na_Machine_arrows := na0_arrows
    na_Machine_ends := na0_ends
    i_Machine_int := kit_ct (by decide +kernel) ii0_int
    i_Machine_bool := kit_ct (by decide +kernel) ii0_bool
    i_Machine_tuple := kit_ct (by decide +kernel) ii0_tuple
    k_Machine_NoneType := kit_tc zcd0 zty0 kk0_NoneType
    k_Machine_bool := kit_tc zcd0 zty0 kk0_bool
    k_Machine_int := kit_tc zcd0 zty0 kk0_int
    k_Machine_str := kit_tc zcd0 zty0 kk0_str
    k_Machine_tuple := kit_tc zcd0 zty0 kk0_tuple
    k_Machine_list := kit_tc zcd0 zty0 kk0_list
    k_Machine_dict := kit_tc zcd0 zty0 kk0_dict
    i_Machine_Machine := kit_cc
    z_abs := PySem.W.mg_none_of KX G z_abs
    z_all := PySem.W.mg_none_of KX G z_all
    z_any := PySem.W.mg_none_of KX G z_any
    z_bool := PySem.W.mg_none_of KX G z_bool
    z_divmod := PySem.W.mg_none_of KX G z_divmod
    z_enumerate := PySem.W.mg_none_of KX G z_enumerate
    z_int := PySem.W.mg_none_of KX G z_int
    z_isinstance := PySem.W.mg_none_of KX G z_isinstance
    z_len := PySem.W.mg_none_of KX G z_len
    z_max := PySem.W.mg_none_of KX G z_max
    z_min := PySem.W.mg_none_of KX G z_min
    z_range := PySem.W.mg_none_of KX G z_range
    z_repr := PySem.W.mg_none_of KX G z_repr
    z_sum := PySem.W.mg_none_of KX G z_sum
    z_tuple := PySem.W.mg_none_of KX G z_tuple
  }
  exact ⟨T.fd_law, fun s v => .of_eq rfl, fun base _ _ => ⟨_, rfl, w_law T⟩⟩
end K05

end
section
set_option maxRecDepth 100000
set_option maxHeartbeats 4000000
namespace MC
open PySem L2

theorem nd {α : Sort _} {a b : α} (e : a = b) : a = b := e
/-- so that simp leaves Q alone -/
inductive Dm {α : Type} (Q : α → PH → Prop) : Type where
  | mk
/-- it ends well, and with Q -/
def Ws {α : Type} (r : R α) (Q : α → PH → Prop) (_ : Dm Q := .mk) : Prop := ∃ a h, r = .ok a h ∧ Q a h
/-- one of two, both left alone by simp -/
@[reducible] def RS {β : Type} (_ _ : R β) : Type := R β
def sel {β : Type} (c : Bool) (a b : R β) : RS a b := bif c then a else b
@[simp] theorem sel_true {β : Type} {a b : R β} : sel true a b = a := nd rfl
@[simp] theorem sel_false {β : Type} {a b : R β} : sel false a b = b := nd rfl
theorem Ws.bind {α β : Type} {r : R α} {f : α → PH → R β} {P : α → PH → Prop} {Q : β → PH → Prop} (w : Ws r P) (i : ∀ a h, P a h → Ws (f a h) Q) : Ws (r.bind f) Q := by
  obtain ⟨a, h, e, p⟩ := w
  rw [e]
  exact i a h p
theorem Ws.mono {α : Type} {r : R α} {P Q : α → PH → Prop} (w : Ws r P) (i : ∀ a h, P a h → Q a h) : Ws r Q := by
  obtain ⟨a, h, e, p⟩ := w
  exact ⟨a, h, e, i a h p⟩
@[simp] theorem Ws_ok {α : Type} {a : α} {h : PH} {Q : α → PH → Prop} : Ws (.ok a h) Q ↔ Q a h :=
  ⟨fun ⟨_, _, e, q⟩ => by cases e; exact q, fun q => ⟨a, h, rfl, q⟩⟩
@[simp] theorem Ws_stuck {α : Type} {Q : α → PH → Prop} : Ws (.stuck : R α) Q ↔ False := ⟨fun ⟨_, _, e, _⟩ => (by cases e), False.elim⟩
theorem Ws.eq {α : Type} {r : R α} {a : α} {h : PH} {Q : α → PH → Prop} (e : r = .ok a h) (q : Q a h) : Ws r Q := ⟨a, h, e, q⟩

section
variable {α β : Type} {env : En} {h : PH} {x : PV} {xs : List PV}
@[simp] theorem bind_ok {a : α} {f : α → PH → R β} : (R.ok a h).bind f = f a h := nd rfl
@[simp] theorem bind_st {f : α → PH → R β} : (R.stuck : R α).bind f = .stuck := nd rfl
@[simp] theorem noX_ok {a : α} : noX (R.ok a h) = .ok a h := nd rfl
@[simp] theorem e_nil : mNil env h = .ok (.nx env) h := nd rfl
@[simp] theorem e_seq {a b : MS} : mSeq a b env h = (a env h).bind fun f h1 => match f with
  | .nx e => b e h1
  | .rt v => .ok (.rt v) h1
  | .bk e => .ok (.bk e) h1
  | .ct e => .ok (.ct e) h1 := nd rfl
@[simp] theorem e_set {i : Nat} {m : ME} : mSet i m env h = (m env h).bind fun x h1 => .ok (.nx (env.set i (some x))) h1 := nd rfl
@[simp] theorem e_drop {m : ME} : mDrop m env h = (m env h).bind fun _ h1 => .ok (.nx env) h1 := nd rfl
@[simp] theorem e_ret {m : ME} : mRet m env h = (m env h).bind fun x h1 => .ok (.rt x) h1 := nd rfl
@[simp] theorem e_retN : mRetN env h = .ok (.rt .non) h := nd rfl
@[simp] theorem e_ifS {t : MT} {a b : MS} : mIfS t a b env h = (t env h).bind fun c h1 => sel c (a env h1) (b env h1) := nd rfl
@[simp] theorem e_break : mBreak env h = .ok (.bk env) h := nd rfl
@[simp] theorem e_cont : mCont env h = .ok (.ct env) h := nd rfl
@[simp] theorem e_asg {m : ME} {g : MG} : mAsg m g env h = (m env h).bind fun x h1 => (g x env h1).bind fun e h2 => .ok (.nx e) h2 := nd rfl
@[simp] theorem e_gname {i : Nat} : gName' i x env h = .ok (env.set i (some x)) h := nd rfl
@[simp] theorem e_gsnil : gsNil [] env h = .ok env h := nd rfl
@[simp] theorem e_gscons {g : MG} {gs : MGs} : gsCons g gs (x :: xs) env h = (g x env h).bind fun e h1 => gs xs e h1 := nd rfl
@[simp] theorem e_gtup {n : Nat} {gs : MGs} : gTup' n gs (.tup xs) env h = sel (xs.length == n) (gs xs env h) .stuck := nd rfl
@[simp] theorem e_par {i j : Nat} {ma mb : ME} : mPar i j ma mb env h = (ma env h).bind fun x h1 => (mb env h1).bind fun y h2 => .ok (.nx ((env.set i (some x)).set j (some y))) h2 := nd rfl
@[simp] theorem e_par3 {i j l : Nat} {ma mb mc : ME} : mPar3 i j l ma mb mc env h = (ma env h).bind fun x h1 => (mb env h1).bind fun y h2 => (mc env h2).bind fun z h3 => .ok (.nx (((env.set i (some x)).set j (some y)).set l (some z))) h3 := nd rfl
@[simp] theorem e_fun {n : Nat} {b : MS} : mFun n b xs h = (b (xs.map some ++ List.replicate (n - xs.length) none) h).bind fun f h1 => match f with
  | .nx _ => .ok .non h1
  | .rt v => .ok v h1
  | _ => .stuck := nd rfl
@[simp] theorem e_var {i : Nat} : mVar i env h = match env[i]? with
  | some (some x) => .ok x h
  | _ => .stuck := nd rfl
@[simp] theorem e_c : mC x env h = .ok x h := nd rfl
@[simp] theorem e_manil : maNil env h = .ok [] h := nd rfl
@[simp] theorem e_macons {m : ME} {ms : MA} : maCons m ms env h = (m env h).bind fun x h1 => (ms env h1).bind fun xs h2 => .ok (x :: xs) h2 := nd rfl
@[simp] theorem e_tup {ms : MA} : mTup ms env h = (ms env h).bind fun xs h1 => if xs.length ≤ LIM then .ok (.tup xs) h1 else .stuck := nd rfl
@[simp] theorem e_lst {ms : MA} : mLst ms env h = (ms env h).bind fun xs h1 => if xs.length ≤ LIM then .ok (.ref h1.length) (h1 ++ [.lst xs]) else .stuck := nd rfl
@[simp] theorem e_op {op : O2} {ma mb : ME} : mOp op ma mb env h = (ma env h).bind fun x h1 => (mb env h1).bind fun y h2 => op h2 x y := nd rfl
@[simp] theorem e_un {op : O1} {ma : ME} : mUn op ma env h = (ma env h).bind fun x h1 => op h1 x := nd rfl
@[simp] theorem e_tb {m : ME} : mTB m env h = asB (m env h) := nd rfl
@[simp] theorem e_asb {r : R PV} : asB r = r.bind fun x h => match x with
  | .bl b => .ok b h
  | _ => .stuck := nd rfl
@[simp] theorem e_tru {m : ME} : mTru m env h = (m env h).bind fun x h1 => match truth h1 x with
  | some b => .ok b h1
  | none => .stuck := nd rfl
@[simp] theorem e_and {a b : MT} : mAnd a b env h = (a env h).bind fun c h1 => sel c (b env h1) (.ok false h1) := nd rfl
@[simp] theorem e_or {a b : MT} : mOr a b env h = (a env h).bind fun c h1 => sel c (.ok true h1) (b env h1) := nd rfl
@[simp] theorem e_not {a : MT} : mNot a env h = (a env h).bind fun c h1 => .ok (!c) h1 := nd rfl
@[simp] theorem e_if {t : MT} {a b : ME} : mIf t a b env h = (t env h).bind fun c h1 => sel c (a env h1) (b env h1) := nd rfl
@[simp] theorem e_andV {a b : ME} : mAndV a b env h = (a env h).bind fun x h1 => match x with
  | .bl c => sel c (b env h1) (.ok (.bl false) h1)
  | _ => .stuck := nd rfl
@[simp] theorem e_orV {a b : ME} : mOrV a b env h = (a env h).bind fun x h1 => match x with
  | .bl c => sel c (.ok (.bl true) h1) (b env h1)
  | _ => .stuck := nd rfl
@[simp] theorem e_notV {a : ME} : mNotV a env h = (a env h).bind fun x h1 => match x with
  | .bl c => .ok (.bl (!c)) h1
  | _ => .stuck := nd rfl
@[simp] theorem e_ch {f g : O2} {ma mb mc : ME} : mCh f g ma mb mc env h = (ma env h).bind fun x h1 => (mb env h1).bind fun y h2 => (f h2 x y).bind fun z h3 => match z with
  | .bl true => (mc env h3).bind fun u h4 => g h4 y u
  | .bl false => .ok (.bl false) h3
  | _ => .stuck := nd rfl
@[simp] theorem e_cl0 {op : OC} {n : Nat} {ma : MA} : mCl0 op n ma env h = (ma env h).bind fun xs h1 => sel (xs.length == n) (op h1 xs) .stuck := nd rfl
@[simp] theorem e_cl {op : OC} {n j : Nat} {ma mk : MA} : mCl op n j ma mk env h = (ma env h).bind fun xs h1 => (mk env h1).bind fun ys h2 => sel (xs.length == n && ys.length == j) (op h2 (xs ++ ys)) .stuck := nd rfl
@[simp] theorem e_bt {op : OC} {ma : MA} : mBt op ma env h = (ma env h).bind fun xs h1 => op h1 xs := nd rfl
@[simp] theorem e_bm {ty : Nat} {op : OC} {mo : ME} {ma : MA} : mBM ty op mo ma env h = (mo env h).bind fun x h1 => sel (isTy h1 ty x) ((ma env h1).bind fun xs h2 => op h2 (x :: xs)) .stuck := nd rfl
@[simp] theorem e_opF {m : MF} {ix : List Nat} {dp : List PV} : opF m ix dp h xs = callG takeBack m (gI ix (xs ++ dp)) h := nd rfl
@[simp] theorem e_opC {c : Nat} {m : MF} {ix : List Nat} {dp : List PV} : opC c m ix dp h xs = callG takeFrz (initM c m ix dp) xs h := nd rfl
@[simp] theorem e_sl {m : ME} {l u : MO} : mSl m l u env h = (m env h).bind fun x h1 => (l env h1).bind fun lo h2 => (u env h2).bind fun hi h3 => opSl h3 x lo hi := nd rfl
@[simp] theorem e_monone : moNone env h = .ok none h := nd rfl
@[simp] theorem e_mosome {m : ME} : moSome m env h = (m env h).bind fun x h1 => match x with
  | .int i => .ok (some i) h1
  | _ => .stuck := nd rfl
@[simp] theorem e_for {mi : MI} {g : MG} {b : MS} : mFor mi g b env h = (mi env h).bind fun p h1 => forL g b p.2 p.1 env h1 := nd rfl
@[simp] theorem e_miV {m : ME} : miV m env h = (m env h).bind fun x h1 => match srcV h1 x with
  | some p => .ok p h1
  | none => srcD h1 x := nd rfl
@[simp] theorem e_rng1 {ma : MA} : miRng1 ma env h = (ma env h).bind fun xs h1 => match xs with
  | [.int j] => bif inR j then .ok (seqI 0 j.toNat, []) h1 else .stuck
  | _ => .stuck := nd rfl
@[simp] theorem e_enum {ma : MA} : miEnum ma env h = (ma env h).bind fun xs h1 => match xs with
  | [x] => match seqP h1 x with
    | some ys => .ok (numbered 0 ys, wtOf ys x) h1
    | none => .stuck
  | _ => .stuck := nd rfl
@[simp] theorem e_zip {ma : MA} : miZip ma env h = (ma env h).bind fun xs h1 => match xs with
  | [x, y] => match x, y with
    | .tup xs, .tup ys => .ok (pairs xs ys, []) h1
    | x, y => match lstP h1 x, lstP h1 y with
      | some xs, some ys => .ok (pairs xs ys, wtOf xs x ++ wtOf ys y) h1
      | _, _ => .stuck
  | _ => .stuck := nd rfl
@[simp] theorem e_lc {mi : MI} {g : Tg} {t : MT} {m : ME} {vs : List Nat} : mLc mi g t m vs env h = (mi env h).bind fun p h1 => lcL g t m p.2 (wipeE env vs) p.1 [] h1 := nd rfl
@[simp] theorem e_yes : mYes env h = .ok true h := nd rfl
@[simp] theorem e_gsub {op : O3} {mo mi : ME} : gSubM op mo mi x env h = (mo env h).bind fun o h1 => (mi env h1).bind fun i h2 => (op h2 o i x).bind fun _ h3 => .ok env h3 := nd rfl
@[simp] theorem e_setF {cs : List Nat} {f : Nm} {mo me : ME} : mSetF cs f mo me env h = (me env h).bind fun v h1 => (mo env h1).bind fun o h2 => match o with
  | .ref n => match h2[n]? with
    | some (.ins c fs) => bif cs.contains c && decide (fs.length < 1000) then .ok (.nx env) (h2.set n (.ins c (putP f v fs))) else .stuck
    | _ => .stuck
  | _ => .stuck := nd rfl
@[simp] theorem e_fld {cs : List Nat} {f : Nm} {m : ME} : mFld cs f m env h = (m env h).bind fun x h1 => match fldsOf h1 x with
  | some (c, fs) => bif cs.contains c then (match lookF f fs with
    | some v => .ok v h1
    | none => .stuck) else .stuck
  | none => .stuck := nd rfl
@[simp] theorem e_isi {tb cs : List (Nat × Bool)} {m : ME} : mIsi tb cs m env h = (m env h).bind fun x h1 => match kindP h1 x with
  | some k => match isiT tb cs k with
    | some b => .ok (.bl b) h1
    | none => .stuck
  | none => .stuck := nd rfl
@[simp] theorem e_rev {m : ME} : mRev m env h = (m env h).bind fun x h1 => match x with
  | .str s => bif decide (s.length ≤ LIM) then .ok (.str s.reverse) h1 else .stuck
  | x => match lstP h1 x with
    | some ys => .ok (.ref h1.length) (h1 ++ [.lst ys.reverse])
    | none => .stuck := nd rfl
@[simp] theorem e_aug {i : Nat} {op : O2} {me : ME} : mAug i op me env h = match env[i]? with
  | some (some x) => (me env h).bind fun y h1 => (op h1 x y).bind fun z h2 => .ok (.nx (env.set i (some z))) h2
  | _ => .stuck := nd rfl
@[simp] theorem v_add {i j : Int} : opAdd h (.int i) (.int j) = .ok (.int (i + j)) h := nd rfl
@[simp] theorem v_addS {a b : List Nat} : opAdd h (.str a) (.str b) = bif decide (a.length + b.length ≤ LIM) then .ok (.str (a ++ b)) h else .stuck := nd rfl
@[simp] theorem v_addT {a b : List PV} : opAdd h (.tup a) (.tup b) = bif decide (a.length + b.length ≤ LIM) then .ok (.tup (a ++ b)) h else .stuck := nd rfl
@[simp] theorem v_sub {i j : Int} : opSub h (.int i) (.int j) = .ok (.int (i - j)) h := nd rfl
theorem v_mul {i j : Int} (c : (-(2 ^ 64) < i ∧ i < 2 ^ 64) ∨ (-(2 ^ 64) < j ∧ j < 2 ^ 64)) : opMul h (.int i) (.int j) = .ok (.int (i * j)) h := by
  have : ((decide (-(2 ^ 64) < i) && decide (i < 2 ^ 64)) || (decide (-(2 ^ 64) < j) && decide (j < 2 ^ 64))) = true := by simpa using c
  show (bif (decide (-(2 ^ 64) < i) && decide (i < 2 ^ 64)) || (decide (-(2 ^ 64) < j) && decide (j < 2 ^ 64)) then (R.ok (.int (i * j)) h : R PV) else .stuck) = _
  rw [this]; rfl
@[simp] theorem v_mod {i j : Int} : opMod h (.int i) (.int j) = bif decide (0 < j) then .ok (.int (i % j)) h else .stuck := nd rfl
@[simp] theorem v_fdiv {i j : Int} : opFdiv h (.int i) (.int j) = bif decide (0 < j) && decide (j < 1073741824) then .ok (.int (i / j)) h else .stuck := nd rfl
@[simp] theorem v_neg {i : Int} {g : Int → Int} : unI g h (.int i) = .ok (.int (g i)) h := nd rfl
@[simp] theorem v_lt {i j : Int} : opLt h (.int i) (.int j) = .ok (.bl (decide (i < j))) h := nd rfl
@[simp] theorem v_le {i j : Int} : opLe h (.int i) (.int j) = .ok (.bl (decide (i ≤ j))) h := nd rfl
@[simp] theorem v_gt {i j : Int} : opGt h (.int i) (.int j) = .ok (.bl (decide (j < i))) h := nd rfl
@[simp] theorem v_ge {i j : Int} : opGe h (.int i) (.int j) = .ok (.bl (decide (j ≤ i))) h := nd rfl
@[simp] theorem v_is {neg : Bool} : opIs neg h x .non = .ok (.bl (bif neg then !isNon x else isNon x)) h := nd rfl
@[simp] theorem v_bint {i : Int} : bInt h [.int i] = .ok (.int i) h := nd rfl
@[simp] theorem v_babs {i : Int} : bAbs h [.int i] = .ok (.int (if i < 0 then -i else i)) h := nd rfl
@[simp] theorem v_bmax {i j : Int} : bMax2 h [.int i, .int j] = .ok (.int (if j > i then j else i)) h := nd rfl
@[simp] theorem v_bmin {i j : Int} : bMin2 h [.int i, .int j] = .ok (.int (if j < i then j else i)) h := nd rfl
@[simp] theorem v_bdm {i j : Int} : bDivmod h [.int i, .int j] = bif decide (0 < j) && decide (j < B30) then .ok (.tup [.int (i / j), .int (i % j)]) h else .stuck := nd rfl
@[simp] theorem v_btup {ys : List PV} : bTuple h [.tup ys] = .ok (.tup ys) h := nd rfl
@[simp] theorem v_btupR {n : Nat} {ys : List PV} (e : h[n]? = some (.lst ys)) : bTuple h [.ref n] = .ok (.tup ys) h := by
  show (match seqP h (.ref n) with
    | some ys => R.ok (PV.tup ys) h
    | none => .stuck) = _
  have : seqP h (.ref n) = some ys := by simp [seqP, e]
  rw [this]
end
end MC

end
section
set_option maxRecDepth 100000
set_option maxHeartbeats 4000000
namespace MC
open PySem L2

mutual
theorem ren_no (f : Nat → Option Nat) : ∀ x : PV, noRef x = true → renV f x = some x
  | .non, _ | .bl _, _ | .int _, _ | .str _, _ | .gl _, _ => by unfold renV; rfl
  | .tup xs, h => by unfold renV; rw [rens_no f xs (by unfold noRef at h; exact h)]
  | .scr xs, h => by unfold renV; rw [rens_no f xs (by unfold noRef at h; exact h)]
  | .rdic xs, h => by unfold renV; rw [renk_no f xs (by unfold noRef at h; exact h)]
  | .ins c fs, h => by unfold renV; rw [renf_no f fs (by unfold noRef at h; exact h)]
  | .ref n, h => by unfold noRef at h; cases h
theorem rens_no (f : Nat → Option Nat) : ∀ x : List PV, noRefs x = true → renVs f x = some x
  | [], _ => by unfold renVs; rfl
  | x :: xs, h => by
    unfold noRefs at h
    rw [Bool.and_eq_true] at h
    unfold renVs
    rw [ren_no f x h.1, rens_no f xs h.2]
theorem renk_no (f : Nat → Option Nat) : ∀ x : List (PV × PV), noRefK x = true → renK f x = some x
  | [], _ => by unfold renK; rfl
  | (k, x) :: xs, h => by
    unfold noRefK at h
    rw [Bool.and_eq_true, Bool.and_eq_true] at h
    unfold renK
    rw [ren_no f x h.2.1, renk_no f xs h.2.2]
theorem renf_no (f : Nat → Option Nat) : ∀ x : List (Nm × PV), noRefF x = true → renF f x = some x
  | [], _ => by unfold renF; rfl
  | (k, x) :: xs, h => by
    unfold noRefF at h
    rw [Bool.and_eq_true] at h
    unfold renF
    rw [ren_no f x h.1, renf_no f xs h.2]
end
mutual
theorem refs_no : ∀ x : PV, noRef x = true → refsV x = []
  | .non, _ | .bl _, _ | .int _, _ | .str _, _ | .gl _, _ => by unfold refsV; rfl
  | .tup xs, h => by unfold refsV; exact refss_no xs (by unfold noRef at h; exact h)
  | .scr xs, h => by unfold refsV; exact refss_no xs (by unfold noRef at h; exact h)
  | .rdic xs, h => by unfold refsV; exact refsk_no xs (by unfold noRef at h; exact h)
  | .ins c fs, h => by unfold refsV; exact refsf_no fs (by unfold noRef at h; exact h)
  | .ref n, h => by unfold noRef at h; cases h
theorem refss_no : ∀ x : List PV, noRefs x = true → refsVs x = []
  | [], _ => by unfold refsVs; rfl
  | x :: xs, h => by
    unfold noRefs at h
    rw [Bool.and_eq_true] at h
    unfold refsVs
    rw [refs_no x h.1, refss_no xs h.2]; rfl
theorem refsk_no : ∀ x : List (PV × PV), noRefK x = true → refsK x = []
  | [], _ => by unfold refsK; rfl
  | (k, x) :: xs, h => by
    unfold noRefK at h
    rw [Bool.and_eq_true, Bool.and_eq_true] at h
    unfold refsK
    first
      | rw [refs_no x h.2.1, refsk_no xs h.2.2]; rfl
      | simp [refs_no x h.2.1, refsk_no xs h.2.2, refs_no k h.1]
theorem refsf_no : ∀ x : List (Nm × PV), noRefF x = true → refsF x = []
  | [], _ => by unfold refsF; rfl
  | (k, x) :: xs, h => by
    unfold noRefF at h
    rw [Bool.and_eq_true] at h
    unfold refsF
    rw [refs_no x h.1, refsf_no xs h.2]; rfl
end
section
variable {m : MF} {xs : List PV} {h g : PH} {v : PV} {j k : Nat}
theorem reach0 (h : PH) : reach h FUEL [] [] = some [] := by unfold FUEL; rfl
theorem reach1 {o : PO} (e : h[j]? = some o) (r : refsO o = []) : reach h FUEL [j] [] = some [j] := by
  show reach h (398 + 1 + 1) [j] [] = _
  unfold reach
  simp only [List.contains_nil, cond_false, e, r, List.append_nil, List.nil_append]
  unfold reach
  rfl
theorem reach2 {o p : PO} (e : h[j]? = some o) (r : refsO o = []) (e2 : h[k]? = some p) (r2 : refsO p = []) (ne : j ≠ k) : reach h FUEL [j, k] [] = some [j, k] := by
  show reach h (397 + 1 + 1 + 1) [j, k] [] = _
  unfold reach
  simp only [List.contains_nil, cond_false, e, r, List.append_nil, List.nil_append]
  unfold reach
  have c : [j].contains k = false := by simp [Ne.symm ne]
  simp only [c, cond_false, e2, r2, List.append_nil]
  unfold reach
  rfl
theorem call_pure (hx : noRefs xs = true) (hm : m xs [] = .ok v g) (hv : noRef v = true) : callG takeBack m xs h = .ok v h := by
  have e1 : reach g FUEL (refsVs [v] ++ List.range ([] : List Nat).length) [] = some [] := by
    have : refsVs [v] = [] := refss_no [v] (by unfold noRefs; rw [hv]; rfl)
    rw [this]; exact reach0 g
  have e2 : takeBack h [] v g = .ok v h := by
    have : takeL h [] [v] g = some ([], [v], h) := by
      unfold takeL
      rw [e1]
      show (match renVs (backF [] (newsOf [] []) h.length) [v], (some [] : Option (List PO)), (some [] : Option (List PO)) with
        | some us, some os, some ns => some (newsOf [] [], us, setAll h [] os ++ ns)
        | _, _, _ => none) = _
      rw [rens_no _ [v] (by unfold noRefs; rw [hv]; rfl)]
      simp [setAll, newsOf]
    unfold takeBack
    rw [this]
  unfold callG
  rw [refss_no xs hx, reach0]
  show (match renVs (idx []) xs, (some [] : Option PH) with
    | some as, some hc => _
    | _, _ => _) = _
  rw [rens_no _ xs hx]
  simp only [hm]
  exact e2
theorem flatO_of {ys : List PV} (hy : noRefs ys = true) : refsO (.lst ys) = [] ∧ ∀ f, renO f (.lst ys) = some (.lst ys) := by
  refine ⟨by unfold refsO; exact refss_no ys hy, fun f => ?_⟩
  simp only [renO, rens_no f ys hy]
theorem idx_hd : idx [j] j = some 0 := by unfold idx; simp
theorem call_one {ys zs : List PV} (hj : h[j]? = some (.lst ys)) (hy : noRefs ys = true) (hx : noRefs xs = true) (hm : m (.ref 0 :: xs) [.lst ys] = .ok v g) (hg : g[0]? = some (.lst zs)) (hz : noRefs zs = true) (hv : noRef v = true) :
    callG takeBack m (.ref j :: xs) h = .ok v (h.set j (.lst zs)) := by
  obtain ⟨y1, y2⟩ := flatO_of hy
  obtain ⟨z1, z2⟩ := flatO_of hz
  have v1 : noRefs [v] = true := by unfold noRefs; rw [hv]; rfl
  have e2 : takeBack h [j] v g = .ok v (h.set j (.lst zs)) := by
    have : takeL h [j] [v] g = some ([], [v], h.set j (.lst zs)) := by
      unfold takeL
      have r0 : reach g FUEL (refsVs [v] ++ List.range [j].length) [] = some [0] := by
        rw [refss_no [v] v1]; exact reach1 hg z1
      rw [r0]
      have n0 : newsOf [j] [0] = [] := by simp [newsOf]
      simp only [n0]
      rw [rens_no _ [v] v1]
      have p0 : mapO (pick g (backF [j] [] h.length)) (List.range [j].length) = some [.lst zs] := by
        show mapO _ [0] = _
        simp [mapO, pick, hg, z2]
      rw [p0]
      simp [mapO, setAll]
    unfold takeBack
    rw [this]
  unfold callG
  have rr : refsVs (.ref j :: xs) = [j] := by unfold refsVs refsV; rw [refss_no xs hx]; rfl
  rw [rr, reach1 hj y1]
  have a0 : renVs (idx [j]) (.ref j :: xs) = some (.ref 0 :: xs) := by
    unfold renVs
    rw [rens_no _ xs hx]
    unfold renV
    rw [idx_hd]
  have h0 : mapO (pick h (idx [j])) [j] = some [.lst ys] := by simp [mapO, pick, hj, y2]
  simp only [a0, h0, hm]
  exact e2
theorem call_two {ys zs us ws : List PV} (hj : h[j]? = some (.lst ys)) (hy : noRefs ys = true) (hk : h[k]? = some (.lst us)) (hu : noRefs us = true) (ne : j ≠ k) (hx : noRefs xs = true) (hm : m (.ref 0 :: .ref 1 :: xs) [.lst ys, .lst us] = .ok v g) (hg : g[0]? = some (.lst zs)) (hz : noRefs zs = true)
    (hg2 : g[1]? = some (.lst ws)) (hw : noRefs ws = true) (hv : noRef v = true) : callG takeBack m (.ref j :: .ref k :: xs) h = .ok v ((h.set j (.lst zs)).set k (.lst ws)) := by
  obtain ⟨y1, y2⟩ := flatO_of hy
  obtain ⟨z1, z2⟩ := flatO_of hz
  obtain ⟨u1, u2⟩ := flatO_of hu
  obtain ⟨w1, w2⟩ := flatO_of hw
  have v1 : noRefs [v] = true := by unfold noRefs; rw [hv]; rfl
  have e2 : takeBack h [j, k] v g = .ok v ((h.set j (.lst zs)).set k (.lst ws)) := by
    have : takeL h [j, k] [v] g = some ([], [v], (h.set j (.lst zs)).set k (.lst ws)) := by
      unfold takeL
      have r0 : reach g FUEL (refsVs [v] ++ List.range [j, k].length) [] = some [0, 1] := by
        rw [refss_no [v] v1]; exact reach2 (j := 0) (k := 1) hg z1 hg2 w1 (Nat.ne_of_lt Nat.one_pos)
      rw [r0]
      have n0 : newsOf [j, k] [0, 1] = [] := by simp [newsOf]
      simp only [n0]
      rw [rens_no _ [v] v1]
      have p0 : mapO (pick g (backF [j, k] [] h.length)) (List.range [j, k].length) = some [.lst zs, .lst ws] := by
        show mapO _ [0, 1] = _
        simp [mapO, pick, hg, z2, hg2, w2]
      rw [p0]
      simp [mapO, setAll]
    unfold takeBack
    rw [this]
  unfold callG
  have rr : refsVs (.ref j :: .ref k :: xs) = [j, k] := by unfold refsVs refsV refsVs refsV; rw [refss_no xs hx]; rfl
  rw [rr, reach2 hj y1 hk u1 ne]
  have i0 : idx [j, k] j = some 0 := by unfold idx; simp
  have i1 : idx [j, k] k = some 1 := by
    unfold idx
    have : (j == k) = false := beq_eq_false_iff_ne.mpr ne
    simp [this, idx]
  have a0 : renVs (idx [j, k]) (.ref j :: .ref k :: xs) = some (.ref 0 :: .ref 1 :: xs) := by
    unfold renVs renVs
    rw [rens_no _ xs hx]
    unfold renV
    rw [i0, i1]
  have h0 : mapO (pick h (idx [j, k])) [j, k] = some [.lst ys, .lst us] := by simp [mapO, pick, hj, y2, hk, u2]
  simp only [a0, h0, hm]
  exact e2
theorem call_newl {ys : List PV} {i : Nat} (hx : noRefs xs = true) (hm : m xs [] = .ok (.ref i) g) (hg : g[i]? = some (.lst ys)) (hy : noRefs ys = true) : callG takeBack m xs h = .ok (.ref h.length) (h ++ [.lst ys]) := by
  obtain ⟨y1, y2⟩ := flatO_of hy
  have e2 : takeBack h [] (.ref i) g = .ok (.ref h.length) (h ++ [.lst ys]) := by
    have : takeL h [] [.ref i] g = some ([i], [.ref h.length], h ++ [.lst ys]) := by
      unfold takeL
      have r0 : reach g FUEL (refsVs [.ref i] ++ List.range ([] : List Nat).length) [] = some [i] := by
        have : refsVs [PV.ref i] = [i] := by unfold refsVs refsV refsVs; rfl
        rw [this]; exact reach1 hg y1
      rw [r0]
      have n0 : newsOf [] [i] = [i] := by simp [newsOf]
      simp only [n0]
      have b0 : backF [] [i] h.length i = some h.length := by simp [backF, idx_hd]
      have p0 : renVs (backF [] [i] h.length) [PV.ref i] = some [.ref h.length] := by unfold renVs renVs renV; rw [b0]
      rw [p0]
      have q0 : mapO (pick g (backF [] [i] h.length)) [i] = some [.lst ys] := by simp [mapO, pick, hg, y2]
      rw [q0]
      simp [mapO, setAll]
    unfold takeBack
    rw [this]
  unfold callG
  rw [refss_no xs hx, reach0]
  show (match renVs (idx []) xs, (some [] : Option PH) with
    | some as, some hc => _
    | _, _ => _) = _
  rw [rens_no _ xs hx]
  simp only [hm]
  exact e2
theorem zip_fs : ∀ fs : List (Nm × PV), (fs.map (·.1)).zip (fs.map (·.2)) = fs
  | [] => rfl
  | (a, b) :: r => by simp [zip_fs r]
theorem call_frz {c i : Nat} {fs : List (Nm × PV)} (hx : noRefs xs = true) (hm : m xs [] = .ok (.ref i) g) (hg : g[i]? = some (.ins c fs)) (hf : noRefs (fs.map (·.2)) = true) : callG takeFrz m xs h = .ok (.ins c fs) h := by
  have e2 : takeFrz h [] (.ref i) g = .ok (.ins c fs) h := by
    have : takeL h [] (fs.map (·.2)) g = some ([], fs.map (·.2), h) := by
      unfold takeL
      have r0 : reach g FUEL (refsVs (fs.map (·.2)) ++ List.range ([] : List Nat).length) [] = some [] := by
        rw [refss_no _ hf]; exact reach0 g
      rw [r0]
      show (match renVs (backF [] (newsOf [] []) h.length) (fs.map (·.2)), (some [] : Option (List PO)), (some [] : Option (List PO)) with
        | some us, some os, some ns => some (newsOf [] [], us, setAll h [] os ++ ns)
        | _, _, _ => none) = _
      rw [rens_no _ _ hf]
      simp [setAll, newsOf]
    unfold takeFrz
    simp only [hg, this]
    simp [zip_fs]
  unfold callG
  rw [refss_no xs hx, reach0]
  show (match renVs (idx []) xs, (some [] : Option PH) with
    | some as, some hc => _
    | _, _ => _) = _
  rw [rens_no _ xs hx]
  simp only [hm]
  exact e2
end
end MC
namespace MC
open PySem L2
@[simp] theorem Ws_noX {α : Type} {r : R α} {Q : α → PH → Prop} : Ws (noX r) Q ↔ Ws r Q := by
  cases r with
  | ok a h => exact Iff.rfl
  | exc c fs h => exact ⟨fun ⟨_, _, e, _⟩ => (by cases e), fun ⟨_, _, e, _⟩ => (by cases e)⟩
  | stuck => exact Iff.rfl
/-- behind a turn -/
def turnQ (I : En → PH → Prop) (Q : Fl → PH → Prop) : Fl → PH → Prop := fun f h => match f with
  | .nx e => I e h
  | .ct e => I e h
  | .bk e => Q (.nx e) h
  | .rt v => Q (.rt v) h
@[simp] theorem turn_nx {I : En → PH → Prop} {Q : Fl → PH → Prop} {e : En} {h : PH} : turnQ I Q (.nx e) h = I e h := nd rfl
@[simp] theorem turn_ct {I : En → PH → Prop} {Q : Fl → PH → Prop} {e : En} {h : PH} : turnQ I Q (.ct e) h = I e h := nd rfl
@[simp] theorem turn_bk {I : En → PH → Prop} {Q : Fl → PH → Prop} {e : En} {h : PH} : turnQ I Q (.bk e) h = Q (.nx e) h := nd rfl
@[simp] theorem turn_rt {I : En → PH → Prop} {Q : Fl → PH → Prop} {v : PV} {h : PH} : turnQ I Q (.rt v) h = Q (.rt v) h := nd rfl
theorem Ws_for {g : MG} {b : MS} {wt : Wt} {Q : Fl → PH → Prop} : ∀ {xs : List PV} (I : Nat → En → PH → Prop) {env : En} {h : PH}, I 0 env h → (∀ i env h, I i env h → watch wt h = true) →
    (∀ i x env h, xs[i]? = some x → I i env h → Ws (g x env h) fun e h1 => Ws (b e h1) (turnQ (I (i + 1)) Q)) → (∀ env h, I xs.length env h → Q (.nx env) h) → Ws (forL g b wt xs env h) Q
  | [], I, env, h, h0, hw, _, hd => by
    unfold forL
    rw [hw 0 env h h0]
    exact Ws_ok.mpr (hd env h h0)
  | x :: xs, I, env, h, h0, hw, hs, hd => by
    unfold forL
    rw [hw 0 env h h0, cond_true]
    refine Ws.bind (hs 0 x env h rfl h0) fun e h1 w => Ws.bind w fun f h2 q => ?_
    have go : ∀ e2, I 1 e2 h2 → Ws (forL g b wt xs e2 h2) Q := fun e2 q => Ws_for (fun i => I (i + 1)) q (fun i => hw (i + 1)) (fun i x env h e => hs (i + 1) x env h (by simpa using e)) hd
    cases f with
    | nx e2 => exact go e2 q
    | ct e2 => exact go e2 q
    | bk e2 => exact Ws_ok.mpr q
    | rt v => exact Ws_ok.mpr q
theorem Ws_lc {g : Tg} {t : MT} {m : ME} {wt : Wt} {e0 : En} {Q : PV → PH → Prop} : ∀ {xs : List PV} (I : Nat → List PV → PH → Prop) {acc : List PV} {h : PH}, I 0 acc h → (∀ i acc h, I i acc h → watch wt h = true) →
    (∀ i x acc h, xs[i]? = some x → I i acc h → ∃ e, tgM g x e0 = some e ∧ Ws (t e h) fun c h1 => bif c then Ws (m e h1) (fun y h2 => acc.length < LIM ∧ I (i + 1) (acc ++ [y]) h2) else I (i + 1) acc h1) →
    (∀ acc h, I xs.length acc h → Q (.ref h.length) (h ++ [.lst acc])) → Ws (lcL g t m wt e0 xs acc h) Q
  | [], I, acc, h, h0, hw, _, hd => by
    unfold lcL
    rw [hw 0 acc h h0]
    exact Ws_ok.mpr (hd acc h h0)
  | x :: xs, I, acc, h, h0, hw, hs, hd => by
    unfold lcL
    rw [hw 0 acc h h0, cond_true]
    obtain ⟨e, he, w⟩ := hs 0 x acc h rfl h0
    rw [he]
    have go : ∀ acc2 h2, I 1 acc2 h2 → Ws (lcL g t m wt e0 xs acc2 h2) Q := fun acc2 h2 q => Ws_lc (fun i => I (i + 1)) q (fun i => hw (i + 1)) (fun i x acc h e => hs (i + 1) x acc h (by simpa using e)) hd
    refine Ws.bind (Ws_noX.mpr w) fun c h1 q => ?_
    cases c with
    | false => exact go acc h1 q
    | true =>
      refine Ws.bind (Ws_noX.mpr q) fun y h2 ⟨hl, q2⟩ => ?_
      rw [decide_eq_true hl]
      exact go _ _ q2
end MC
namespace MC
open PySem L2
@[simp] theorem gI_nil {α : Type} {l : List α} : gI [] l = [] := nd rfl
@[simp] theorem gI_cons {α : Type} {i : Nat} {ix : List Nat} {l : List α} : gI (i :: ix) l = match l[i]? with
  | some x => x :: gI ix l
  | none => gI ix l := by
  unfold gI
  rw [List.filterMap_cons]
  cases l[i]? <;> rfl
section
variable {h : PH}
@[simp] theorem v_eqI {i j : Int} : opEq h (.int i) (.int j) = .ok (.bl (decide (i = j))) h := by
  have : (i == j) = decide (i = j) := by by_cases e : i = j <;> simp [e]
  show (bif SeqAt.shaped (.int i) && SeqAt.shaped (.int j) then (R.ok (.bl (PyData.eqv (.int i) (.int j))) h : R PV) else .stuck) = _
  simp [SeqAt.shaped, PyData.eqv, PyData.canLay0, PyData.depth, this]
@[simp] theorem v_neI {i j : Int} : opNe h (.int i) (.int j) = .ok (.bl (!decide (i = j))) h := by
  have : (i == j) = decide (i = j) := by by_cases e : i = j <;> simp [e]
  show (bif SeqAt.shaped (.int i) && SeqAt.shaped (.int j) then (R.ok (.bl (!PyData.eqv (.int i) (.int j))) h : R PV) else .stuck) = _
  simp [SeqAt.shaped, PyData.eqv, PyData.canLay0, PyData.depth, this]
theorem call_pureW {m : MF} {xs : List PV} {v : PV} (hx : noRefs xs = true) (hm : Ws (m xs []) fun u _ => u = v) (hv : noRef v = true) : callG takeBack m xs h = .ok v h := by
  obtain ⟨u, g, e, rfl⟩ := hm
  exact call_pure hx e hv
/-- a comprehension whose items are f of the source's -/
theorem Ws_map {g : Tg} {m : ME} {e0 : En} {Q : PV → PH → Prop} (f : PV → PV) (J : PH → Prop) {xs : List PV} (j0 : J h) (hl : xs.length ≤ LIM) (hs : ∀ x ∈ xs, ∀ h, J h → ∃ e, tgM g x e0 = some e ∧ Ws (m e h) fun y h' => y = f x ∧ J h')
    (hd : ∀ h0, J h0 → Q (.ref h0.length) (h0 ++ [.lst (xs.map f)])) : Ws (lcL g mYes m [] e0 xs [] h) Q := by
  refine Ws_lc (fun i acc h => i ≤ xs.length ∧ acc = (xs.take i).map f ∧ J h) ⟨Nat.zero_le _, rfl, j0⟩ (fun _ _ _ _ => rfl) (fun i x acc h e ⟨hi, ea, jh⟩ => ?_) fun acc h ⟨_, ea, jh⟩ => ?_
  · have hlt := (List.getElem?_eq_some_iff.mp e).1
    obtain ⟨e1, t1, w⟩ := hs x (List.mem_of_getElem? e) h jh
    refine ⟨e1, t1, ?_⟩
    rw [e_yes, Ws_ok, cond_true]
    refine w.mono fun y h' ⟨ey, jh'⟩ => ⟨?_, hlt, ?_, jh'⟩
    · subst ea
      rw [List.length_map, List.length_take]
      omega
    · subst ea; subst ey
      rw [List.take_add_one, e, List.map_append]; rfl
  · subst ea
    rw [List.take_length]
    exact hd h jh
/-- .. whose items keep P -/
theorem Ws_mapP {g : Tg} {m : ME} {e0 : En} {Q : PV → PH → Prop} (P : PV → Prop) (J : PH → Prop) {xs : List PV} (j0 : J h) (hl : xs.length ≤ LIM) (hs : ∀ x ∈ xs, ∀ h, J h → ∃ e, tgM g x e0 = some e ∧ Ws (m e h) fun y h' => P y ∧ J h')
    (hd : ∀ h0 ys, J h0 → ys.length = xs.length → (∀ y ∈ ys, P y) → Q (.ref h0.length) (h0 ++ [.lst ys])) : Ws (lcL g mYes m [] e0 xs [] h) Q := by
  refine Ws_lc (fun i acc h => i ≤ xs.length ∧ acc.length = i ∧ (∀ y ∈ acc, P y) ∧ J h) ⟨Nat.zero_le _, rfl, (fun _ z => nomatch z), j0⟩ (fun _ _ _ _ => rfl) (fun i x acc h e ⟨hi, ea, ha, jh⟩ => ?_) fun acc h ⟨_, ea, ha, jh⟩ => hd h acc jh ea ha
  have hlt := (List.getElem?_eq_some_iff.mp e).1
  obtain ⟨e1, t1, w⟩ := hs x (List.mem_of_getElem? e) h jh
  refine ⟨e1, t1, ?_⟩
  rw [e_yes, Ws_ok, cond_true]
  refine w.mono fun y h' ⟨ey, jh'⟩ => ⟨by omega, hlt, by simp [ea], fun z hz => ?_, jh'⟩
  rcases List.mem_append.mp hz with q | q
  · exact ha z q
  · rw [List.mem_singleton.mp q]; exact ey
theorem bls_true : ∀ n : Nat, blsP (List.replicate n (PV.bl true)) = some (List.replicate n true)
  | 0 => rfl
  | n + 1 => by simp [List.replicate_succ, blsP, bls_true n]
theorem all_last {ys : List PV} {bs : List Bool} (e : blsP ys = some bs) : bAll (h ++ [PO.lst ys]) [PV.ref h.length] = .ok (PV.bl (bs.all id)) (h ++ [PO.lst ys]) := by
  have : lstP (h ++ [PO.lst ys]) (.ref h.length) = some ys := by simp [lstP]
  simp only [bAll, this, e]
end
end MC
namespace MC
open PySem L2
section
variable {α β γ : Type} {h : PH} {x y : PV}
@[simp] theorem bind_asc {r : R α} {f : α → PH → R β} {g : β → PH → R γ} : (r.bind f).bind g = r.bind fun a h => (f a h).bind g := by cases r <;> rfl
@[simp] theorem src_tup {xs : List PV} : srcV h (.tup xs) = some (xs, []) := nd rfl
@[simp] theorem src_scr {xs : List PV} : srcV h (.scr xs) = some (xs, []) := nd rfl
@[simp] theorem src_str {s : List Nat} : srcV h (.str s) = some (signsOf s, []) := nd rfl
theorem src_ref {n : Nat} {xs : List PV} (e : h[n]? = some (.lst xs)) : srcV h (.ref n) = some (xs, [(n, xs)]) := by simp [srcV, e]
@[simp] theorem seq_tup {xs : List PV} : seqP h (.tup xs) = some xs := nd rfl
@[simp] theorem wt_tup {xs ys : List PV} : wtOf ys (.tup xs) = [] := nd rfl
@[simp] theorem wt_ref {n : Nat} {ys : List PV} : wtOf ys (.ref n) = [(n, ys)] := nd rfl
@[simp] theorem kd_non : kindP h .non = some (.inl 0) := nd rfl
@[simp] theorem kd_bl {b : Bool} : kindP h (.bl b) = some (.inl 1) := nd rfl
@[simp] theorem kd_int {i : Int} : kindP h (.int i) = some (.inl 2) := nd rfl
@[simp] theorem kd_str {s : List Nat} : kindP h (.str s) = some (.inl 3) := nd rfl
@[simp] theorem kd_tup {s : List PV} : kindP h (.tup s) = some (.inl 4) := nd rfl
@[simp] theorem kd_ins {c : Nat} {fs : List (Nm × PV)} : kindP h (.ins c fs) = some (.inr c) := nd rfl
@[simp] theorem tr_non : truth h .non = some false := nd rfl
@[simp] theorem tr_bl {b : Bool} : truth h (.bl b) = some b := nd rfl
@[simp] theorem tr_int {i : Int} : truth h (.int i) = some (i != 0) := nd rfl
@[simp] theorem len_tup {xs : List PV} : bLen h [.tup xs] = .ok (.int xs.length) h := nd rfl
@[simp] theorem fld_ins {c : Nat} {fs : List (Nm × PV)} : fldsOf h (.ins c fs) = some (c, fs) := nd rfl
@[simp] theorem ty_str {s : List Nat} : isTy h 0 (.str s) = true := nd rfl
theorem ty_lst {n : Nat} {xs : List PV} (e : h[n]? = some (.lst xs)) : isTy h 1 (.ref n) = true := by simp [isTy, lstP, e]
@[simp] theorem nn_non : MC.isNon .non = true := nd rfl
@[simp] theorem nn_int {i : Int} : MC.isNon (.int i) = false := nd rfl
@[simp] theorem nn_tup {i : List PV} : MC.isNon (.tup i) = false := nd rfl
@[simp] theorem nn_str {i : List Nat} : MC.isNon (.str i) = false := nd rfl
theorem mapB {g : Tg} {m : ME} {e0 : En} {Q : β → PH → Prop} {k : PV → PH → R β} (f : PV → PV) (J : PH → Prop) {xs : List PV} (j0 : J h) (hl : xs.length ≤ LIM) (hs : ∀ x ∈ xs, ∀ h, J h → ∃ e, tgM g x e0 = some e ∧ Ws (m e h) fun y h' => y = f x ∧ J h')
    (hd : ∀ h0, J h0 → Ws (k (.ref h0.length) (h0 ++ [.lst (xs.map f)])) Q) : Ws ((lcL g mYes m [] e0 xs [] h).bind k) Q :=
  Ws.bind (Ws_map (Q := fun v h' => ∃ h0, J h0 ∧ v = .ref h0.length ∧ h' = h0 ++ [.lst (xs.map f)]) f J j0 hl hs fun h0 j => ⟨h0, j, rfl, rfl⟩) fun v h' ⟨h0, j, e1, e2⟩ => by rw [e1, e2]; exact hd h0 j
theorem mapPB {g : Tg} {m : ME} {e0 : En} {Q : β → PH → Prop} {k : PV → PH → R β} (P : PV → Prop) (J : PH → Prop) {xs : List PV} (j0 : J h) (hl : xs.length ≤ LIM) (hs : ∀ x ∈ xs, ∀ h, J h → ∃ e, tgM g x e0 = some e ∧ Ws (m e h) fun y h' => P y ∧ J h')
    (hd : ∀ h0 ys, J h0 → ys.length = xs.length → (∀ y ∈ ys, P y) → Ws (k (.ref h0.length) (h0 ++ [.lst ys])) Q) : Ws ((lcL g mYes m [] e0 xs [] h).bind k) Q :=
  Ws.bind (Ws_mapP (Q := fun v h' => ∃ h0 ys, J h0 ∧ ys.length = xs.length ∧ (∀ y ∈ ys, P y) ∧ v = .ref h0.length ∧ h' = h0 ++ [.lst ys]) P J j0 hl hs fun h0 ys j l p => ⟨h0, ys, j, l, p, rfl, rfl⟩) fun v h' ⟨h0, ys, j, l, p, e1, e2⟩ => by rw [e1, e2]; exact hd h0 ys j l p
theorem forB {g : MG} {b : MS} {wt : Wt} {Q : β → PH → Prop} {k : Fl → PH → R β} {xs : List PV} (I : Nat → En → PH → Prop) {env : En} (h0 : I 0 env h) (hw : ∀ i env h, I i env h → watch wt h = true)
    (hs : ∀ i x env h, xs[i]? = some x → I i env h → Ws (g x env h) fun e h1 => Ws (b e h1) (turnQ (I (i + 1)) fun f h => Ws (k f h) Q)) (hd : ∀ env h, I xs.length env h → Ws (k (.nx env) h) Q) : Ws ((forL g b wt xs env h).bind k) Q :=
  Ws.bind (Ws_for I h0 hw hs hd) fun _ _ q => q
end
end MC

end
section
set_option maxRecDepth 100000
set_option maxHeartbeats 4000000
namespace MC
open PySem L2
section
variable {h : PH} {n : Nat}
theorem repr_str_le (s : List Nat) (hs : ∀ c ∈ s, c < 1114112) : (reprText (S s)).length ≤ 10 * s.length + 2 := by
  have := StrLaws.reprText_len (S s) (fun c hc => by
    rw [S_list] at hc
    exact Nat.lt_trans (hs c hc) (by decide))
  rw [S_len] at this
  exact this
def rep2b (b : Bool) : List Nat := (PyData.shown (.list [.bool b, .bool b])).cps.toList
theorem repr_bb (b : Bool) (e : h[n]? = some (.lst [.bl b, .bl b])) : bRepr h [.ref n] = .ok (.str (rep2b b)) h := by
  have d : toD h DEP (.ref n) = some (.list [.bool b, .bool b]) := by
    have z : toD h (19 + 1) (.ref n) = _ := toD.eq_def ..
    rw [show DEP = 19 + 1 from rfl, z]
    simp only [e]
    rfl
  have l : (PyData.shown (.list [.bool b, .bool b])).length ≤ LIM := by cases b <;> decide +kernel
  have r : reprD h (.ref n) = some (rep2b b) := by
    unfold reprD
    rw [d]
    simp only [decide_eq_true l]
    simp [PyData.showable, PyData.showableAll, PyData.hasDict, PyData.hasDictAll, PyData.depth, PyData.depthAll, rep2b]
  simp [bRepr, isRefV, r]
theorem v_neS {s t : List Nat} (hs : PyData.strOk (S s) = true) (ht : PyData.strOk (S t) = true) : opNe h (.str s) (.str t) = .ok (.bl (!decide (s = t))) h := by
  have : (S s == S t) = decide (s = t) := by
    by_cases e : s = t
    · subst e; simp
    · have : S s ≠ S t := fun z => e (S_inj z)
      simp [e, this]
  unfold opNe by2
  rw [show toD h DEP (.str s) = some (.str (S s)) from rfl, show toD h DEP (.str t) = some (.str (S t)) from rfl]
  simp [SeqAt.shaped, PyData.eqv, PyData.canLay0, PyData.depth, this, hs, ht]
theorem atI_nat' {α : Type} {xs : List α} {i : Nat} {x : α} (e : xs[i]? = some x) : L2.atI xs (i : Int) = some x := atI_nat e
theorem ix_tup {xs : List PV} {i : Nat} {x : PV} (e : xs[i]? = some x) : opIx h (.tup xs) (.int i) = .ok x h := by
  show (match L2.atI xs (i : Int) with
    | some v => R.ok v h
    | none => .stuck) = _
  rw [atI_nat' e]
theorem ix_ref {xs : List PV} {i : Nat} {x : PV} (e0 : h[n]? = some (.lst xs)) (e : xs[i]? = some x) : opIx h (.ref n) (.int i) = .ok x h := by
  have : opIx h (.ref n) (.int i) = ixL h xs (.int i) := by simp [opIx, e0]
  rw [this]
  show (match L2.atI xs (i : Int) with
    | some v => R.ok v h
    | none => .stuck) = _
  rw [atI_nat' e]
theorem ix_str {s : List Nat} {i : Nat} {c : Nat} (e : s[i]? = some c) (hl : s.length ≤ LIM) : opIx h (.str s) (.int i) = .ok (.str [c]) h := by
  show (match L2.atI s (i : Int) with
    | some c => bif decide (s.length ≤ LIM) then R.ok (PV.str [c]) h else .stuck
    | none => .stuck) = _
  rw [atI_nat' e]
  simp [hl]
theorem last_at {ys : List PO} {o : PO} : (ys ++ [o])[ys.length]? = some o := by simp
end
end MC

end
section
set_option maxRecDepth 100000
set_option maxHeartbeats 4000000
namespace MC
open PySem L2
def skd (a b c : Int) : PO := .lst [.int a, .int b, .int c]
/-- the j-th object is a draw list -/
def Dr (j : Nat) (h : PH) : Prop := ∃ a b c, h[j]? = some (skd a b c)
/-- all but the j-th object stands -/
def But (j : Nat) (h h' : PH) : Prop := h'.length = h.length ∧ ∀ i, i ≠ j → h'[i]? = h[i]?
theorem But.refl {j : Nat} {h : PH} : But j h h := ⟨rfl, fun _ _ => rfl⟩
theorem But.trans {j : Nat} {h h1 h2 : PH} (a : But j h h1) (b : But j h1 h2) : But j h h2 := ⟨b.1.trans a.1, fun i n => (b.2 i n).trans (a.2 i n)⟩
theorem Dr.lt {j : Nat} {h : PH} (d : Dr j h) : j < h.length := by
  obtain ⟨a, b, c, e⟩ := d
  exact (List.getElem?_eq_some_iff.mp e).1
theorem Dr.app {j : Nat} {h : PH} {o : List PO} (d : Dr j h) : Dr j (h ++ o) := by
  obtain ⟨a, b, c, e⟩ := d
  exact ⟨a, b, c, by rw [List.getElem?_append_left (List.getElem?_eq_some_iff.mp e).1]; exact e⟩
theorem get_app {h : PH} {i : Nat} {o : PO} {os : List PO} (e : h[i]? = some o) : (h ++ os)[i]? = some o := by
  rw [List.getElem?_append_left (List.getElem?_eq_some_iff.mp e).1]; exact e
/-- a function of draws: xs its other arguments, P its answer -/
def Fs (m : MF) (xs : List PV) (P : PV → Prop) : Prop := ∀ a b c, Ws (m (.ref 0 :: xs) [skd a b c]) fun v g => Dr 0 g ∧ noRef v = true ∧ P v
section
variable {α : Type} {m : MF} {xs : List PV} {P : PV → Prop} {h : PH} {j : Nat} {k : PV → PH → R α} {Q : α → PH → Prop}
theorem Fs.call (F : Fs m xs P) (hx : noRefs xs = true) (d : Dr j h) : Ws (callG takeBack m (.ref j :: xs) h) fun v h' => noRef v = true ∧ P v ∧ Dr j h' ∧ But j h h' := by
  have hl := d.lt
  obtain ⟨a, b, c, e⟩ := d
  obtain ⟨v, g, e1, ⟨a', b', c', e2⟩, nv, p⟩ := F a b c
  refine ⟨v, h.set j (skd a' b' c'), call_one (ys := [.int a, .int b, .int c]) (zs := [.int a', .int b', .int c']) e (by rfl) hx e1 e2 (by rfl) nv, nv, p, ⟨a', b', c', ?_⟩, ?_, fun i hi => ?_⟩
  · rw [List.getElem?_set_self hl]
  · rw [List.length_set]
  · rw [List.getElem?_set_ne (Ne.symm hi)]
theorem Fs.use (F : Fs m xs P) (hx : noRefs xs = true) (d : Dr j h) (q : ∀ v h', noRef v = true → P v → Dr j h' → But j h h' → Ws (k v h') Q) : Ws ((callG takeBack m (.ref j :: xs) h).bind k) Q :=
  (F.call hx d).bind fun v h' ⟨n, p, d', b⟩ => q v h' n p d' b
/-- .. that gets a list besides -/
def Fs2 (m : MF) (us : List PV) (xs : List PV) (P : PV → Prop) : Prop := ∀ a b c, Ws (m (.ref 0 :: .ref 1 :: xs) [skd a b c, .lst us]) fun v g => Dr 0 g ∧ (∃ ws, g[1]? = some (.lst ws) ∧ noRefs ws = true) ∧ noRef v = true ∧ P v
theorem Fs2.use {us : List PV} {i : Nat} (F : Fs2 m us xs P) (hx : noRefs xs = true) (hu : noRefs us = true) (d : Dr j h) (hi : h[i]? = some (.lst us)) (ne : j ≠ i) (q : ∀ v h', noRef v = true → P v → Dr j h' → h'.length = h.length → (∀ n, n ≠ j → n ≠ i → h'[n]? = h[n]?) → Ws (k v h') Q) :
    Ws ((callG takeBack m (.ref j :: .ref i :: xs) h).bind k) Q := by
  have hl := d.lt
  obtain ⟨a, b, c, e⟩ := d
  obtain ⟨v, g, e1, ⟨a', b', c', e2⟩, ⟨ws, e3, nw⟩, nv, p⟩ := F a b c
  refine Ws.bind (Ws.eq (Q := fun v' h' => v' = v ∧ h' = (h.set j (skd a' b' c')).set i (.lst ws)) (call_two (ys := [.int a, .int b, .int c]) (zs := [.int a', .int b', .int c']) e (by rfl) hi hu ne hx e1 e2 (by rfl) e3 nw nv) ⟨rfl, rfl⟩) fun v' h' ⟨ev, eh⟩ => ?_
  subst ev; subst eh
  refine q v' _ nv p ⟨a', b', c', ?_⟩ (by rw [List.length_set, List.length_set]) fun n h1 h2 => ?_
  · rw [List.getElem?_set_ne (Ne.symm ne), List.getElem?_set_self hl]
  · rw [List.getElem?_set_ne (Ne.symm h2), List.getElem?_set_ne (Ne.symm h1)]
end
section
variable {β : Type} {h : PH}
theorem watch_mk {k : Nat} {ys : List PV} (e : h[k]? = some (.lst ys)) : watch [(k, ys)] h = true := by
  simp [watch, e, beqVs_rf]
theorem mapW {g : Tg} {m : ME} {e0 : En} {wt : Wt} {Q : β → PH → Prop} {k : PV → PH → R β} (f : PV → PV) (J : PH → Prop) {xs : List PV} (hw : ∀ h, J h → watch wt h = true) (j0 : J h) (hl : xs.length ≤ LIM) (hs : ∀ x ∈ xs, ∀ h, J h → ∃ e, tgM g x e0 = some e ∧ Ws (m e h) fun y h' => y = f x ∧ J h')
    (hd : ∀ h0, J h0 → Ws (k (.ref h0.length) (h0 ++ [.lst (xs.map f)])) Q) : Ws ((lcL g mYes m wt e0 xs [] h).bind k) Q := by
  refine Ws.bind (Ws_lc (Q := fun v h' => ∃ h0, J h0 ∧ v = .ref h0.length ∧ h' = h0 ++ [.lst (xs.map f)]) (fun i acc h => i ≤ xs.length ∧ acc = (xs.take i).map f ∧ J h) ⟨Nat.zero_le _, rfl, j0⟩ (fun _ _ h q => hw h q.2.2) (fun i x acc h e ⟨hi, ea, jh⟩ => ?_) fun acc h ⟨_, ea, jh⟩ => ?_) fun v h' ⟨h0, j, e1, e2⟩ => by rw [e1, e2]; exact hd h0 j
  · have hlt := (List.getElem?_eq_some_iff.mp e).1
    obtain ⟨e1, t1, w⟩ := hs x (List.mem_of_getElem? e) h jh
    refine ⟨e1, t1, ?_⟩
    rw [e_yes, Ws_ok, cond_true]
    refine w.mono fun y h' ⟨ey, jh'⟩ => ⟨?_, hlt, ?_, jh'⟩
    · subst ea
      rw [List.length_map, List.length_take]
      omega
    · subst ea; subst ey
      rw [List.take_add_one, e, List.map_append]; rfl
  · subst ea
    rw [List.take_length]
    exact ⟨h, jh, rfl, rfl⟩
theorem eq_nil {is : List Int} {n m : Nat} (e : h[n]? = some (.lst (is.map PV.int))) (e2 : h[m]? = some (.lst [])) : opEq h (.ref n) (.ref m) = .ok (.bl is.isEmpty) h := by
  have mi : ∀ is : List Int, mapO (toD h 19) (is.map PV.int) = some (is.map PyData.int) := by
    intro is
    induction is with
    | nil => rfl
    | cons i r ih =>
      rw [List.map_cons]
      unfold mapO
      rw [show toD h 19 (.int i) = some (.int i) from rfl, ih]; rfl
  have d1 : toD h DEP (.ref n) = some (.list (is.map PyData.int)) := by
    have z : toD h (19 + 1) (.ref n) = _ := toD.eq_def ..
    rw [show DEP = 19 + 1 from rfl, z]
    simp only [e, mi]; rfl
  have d2 : toD h DEP (.ref m) = some (.list []) := by
    have z : toD h (19 + 1) (.ref m) = _ := toD.eq_def ..
    rw [show DEP = 19 + 1 from rfl, z]
    simp only [e2]; rfl
  have sh : ∀ is : List Int, PyData.canLayAll0 (is.map PyData.int) = true ∧ PyData.depthAll (is.map PyData.int) ≤ 1 := by
    intro is
    induction is with
    | nil => exact ⟨rfl, Nat.zero_le _⟩
    | cons i r ih => simp [PyData.canLayAll0, PyData.canLay0, PyData.depthAll, PyData.depth, ih]
  obtain ⟨s1, s2⟩ := sh is
  have s3 : SeqAt.shaped (.list (is.map PyData.int)) = true := by
    unfold SeqAt.shaped
    simp [PyData.canLay0, s1, PyData.depth]
    omega
  have s4 : SeqAt.shaped (.list []) = true := by rfl
  have ev : PyData.eqv (.list (is.map PyData.int)) (.list []) = is.isEmpty := by cases is <;> simp [PyData.eqv, PyData.eqvAll]
  unfold opEq by2
  rw [d1, d2]
  simp only [s3, s4, ev, Bool.and_self, cond_true]
end
end MC

end
section
set_option maxRecDepth 100000
set_option maxHeartbeats 4000000
namespace MC
open PySem L2
theorem ok_app {a b : Str} (ha : PyData.strOk a = true) (hb : PyData.strOk b = true) : PyData.strOk (a ++ b) = true := by
  unfold PyData.strOk at *
  show (a.cps ++ b.cps).all _ = true
  rw [Array.all_append, ha, hb]; rfl
theorem ok_text : ∀ (ts : List Str) (k : Nat) (acc : Str), PyData.strOk acc = true → (∀ t ∈ ts, PyData.strOk t = true) → PyData.strOk (textFrom k acc ts) = true
  | [], _, _, h, _ => h
  | t :: r, k, acc, h, ht => by
    have e : PyData.strOk ((if k > 0 then ", " else "" : String) : Str) = true := by split <;> decide +kernel
    exact ok_text r (k + 1) _ (ok_app (ok_app h e) (ht t List.mem_cons_self)) fun x hx => ht x (List.mem_cons_of_mem _ hx)
theorem ok_list (ts : List Str) (h : ∀ t ∈ ts, PyData.strOk t = true) : PyData.strOk (listText ts) = true := by
  unfold listText
  exact ok_app (ok_text ts 0 _ (by decide +kernel) h) (by decide +kernel)
end MC

end
section
set_option maxRecDepth 100000
set_option maxHeartbeats 4000000
namespace MC
open PySem L2
mutual
/-- a value without objects, as data -/
def pd : PV → Option PyData
  | .non => some .none
  | .bl b => some (.bool b)
  | .int i => some (.int i)
  | .str s => some (.str (S s))
  | .tup xs => match pds xs with
    | some ds => some (.tuple ds)
    | none => none
  | _ => none
def pds : List PV → Option (List PyData)
  | [] => some []
  | x :: xs => match pd x, pds xs with
    | some d, some ds => some (d :: ds)
    | _, _ => none
end
mutual
/-- ints of fewer than K bits, signs that are signs; K bounds the texts -/
def pok (K : Nat) : PV → Bool
  | .non => true
  | .bl _ => true
  | .int i => decide (i.natAbs.log2 < K)
  | .str s => s.all fun c => decide (c < 1114112)
  | .tup xs => poks K xs
  | _ => false
def poks (K : Nat) : List PV → Bool
  | [] => true
  | x :: xs => pok K x && poks K xs
end
mutual
/-- how many nodes and signs -/
def pnd : PV → Nat
  | .str s => s.length + 1
  | .tup xs => pnds xs + 1
  | _ => 1
def pnds : List PV → Nat
  | [] => 0
  | x :: xs => pnd x + pnds xs
end
mutual
def pdp : PV → Nat
  | .tup xs => pdps xs + 1
  | _ => 0
def pdps : List PV → Nat
  | [] => 0
  | x :: xs => max (pdp x) (pdps xs)
end
theorem okA {cs : Array Nat} : PyData.strOk ⟨cs⟩ = true ↔ ∀ c ∈ cs.toList, c < 1114112 := by
  unfold PyData.strOk
  rw [← Array.all_toList, List.all_eq_true]
  simp
theorem ch_lt (c : Char) : c.toNat < 1114112 := by
  have h := c.valid
  simp only [UInt32.isValidChar, Nat.isValidChar] at h
  have : c.toNat = c.val.toNat := rfl
  omega
theorem ok_ofS (s : String) : PyData.strOk (Str.ofString s) = true := by
  rw [Str.ofString_eq_toList]
  refine okA.mpr fun c hc => ?_
  simp only [List.mem_map] at hc
  obtain ⟨d, _, rfl⟩ := hc
  exact ch_lt d
theorem rc_lt (q c : Nat) (hq : q < 1114112) (hc : c < 1114112) : ∀ d ∈ Builtin.Str.reprChar q c, d < 1114112 := by
  have dg : ∀ w : Nat, ∀ d ∈ (List.replicate (w - ((Nat.toDigits 16 c).map Char.toNat).length) 48 ++ (Nat.toDigits 16 c).map Char.toNat : List Nat), d < 1114112 := by
    intro w d hd
    rcases List.mem_append.mp hd with h | h
    · rw [List.eq_of_mem_replicate h]; decide
    · obtain ⟨x, _, rfl⟩ := List.mem_map.mp h
      exact ch_lt x
  intro d hd
  unfold Builtin.Str.reprChar at hd
  simp only at hd
  split at hd
  · simp at hd; omega
  split at hd
  · simp at hd; omega
  split at hd
  · simp at hd; omega
  split at hd
  · simp at hd; omega
  split at hd
  · simp at hd; omega
  split at hd
  · rcases List.mem_append.mp hd with h | h
    · simp at h; omega
    · exact dg 2 d h
  split at hd
  · rcases List.mem_append.mp hd with h | h
    · simp at h; omega
    · exact dg 4 d h
  · rcases List.mem_append.mp hd with h | h
    · simp at h; omega
    · exact dg 8 d h
theorem rfold_lt (q : Nat) (hq : q < 1114112) : ∀ (s : List Nat) (acc : Array Nat), (∀ c ∈ s, c < 1114112) → (∀ c ∈ acc.toList, c < 1114112) → ∀ c ∈ (s.foldl (fun out c => out ++ (Builtin.Str.reprChar q c).toArray) acc).toList, c < 1114112
  | [], _, _, h => h
  | c :: s, acc, hs, h => by
    rw [List.foldl_cons]
    refine rfold_lt q hq s _ (fun d hd => hs d (List.mem_cons_of_mem _ hd)) fun d hd => ?_
    rw [Array.toList_append] at hd
    rcases List.mem_append.mp hd with a | a
    · exact h d a
    · exact rc_lt q c hq (hs c List.mem_cons_self) d a
theorem ok_reprS (s : List Nat) (hs : ∀ c ∈ s, c < 1114112) : PyData.strOk (reprText (S s)) = true := by
  have hq : reprQuote (S s) < 1114112 := by unfold reprQuote; split <;> decide
  unfold reprText
  refine okA.mpr ?_
  have f : (S s).cps.foldl (fun out c => out ++ (Builtin.Str.reprChar (reprQuote (S s)) c).toArray) #[reprQuote (S s)] = s.foldl (fun out c => out ++ (Builtin.Str.reprChar (reprQuote (S s)) c).toArray) #[reprQuote (S s)] := by
    rw [← Array.foldl_toList]; rfl
  rw [f]
  intro c hc
  rw [Array.toList_push] at hc
  rcases List.mem_append.mp hc with h | h
  · exact rfold_lt _ hq s _ hs (by simpa using hq) c h
  · rw [List.mem_singleton.mp h]; exact hq
theorem ok_joinL (sep : Str) (hs : PyData.strOk sep = true) : ∀ ts : List Str, (∀ t ∈ ts, PyData.strOk t = true) → PyData.strOk (Str.join sep ts) = true
  | [], _ => (by decide +kernel : PyData.strOk Str.empty = true)
  | [t], h => h t List.mem_cons_self
  | t :: u :: r, h => ok_app (ok_app (h t List.mem_cons_self) hs) (ok_joinL sep hs (u :: r) fun y hy => h y (List.mem_cons_of_mem _ hy))
theorem ok_tuple (ts : List Str) (h : ∀ t ∈ ts, PyData.strOk t = true) : PyData.strOk (tupleText ts) = true := by
  unfold tupleText
  refine ok_app (ok_app (by decide +kernel) (ok_joinL _ (by decide +kernel) ts h)) ?_
  split <;> decide +kernel
/-- what is needed of data whose text is asked for -/
structure Good (K : Nat) (n : Nat) (d : PyData) : Prop where
  s1 : d.showable = true
  s2 : d.hasDict = false
  s3 : d.shown.length + 2 ≤ (K + 12) * n
  s4 : PyData.strOk d.shown = true
theorem int_len {i : Int} {K : Nat} (hK : 0 < K) (h : i.natAbs.log2 < K) : (PyData.shown (.int i)).length ≤ K + 1 := by
  rw [PyData.shown_int, Str.ofString_eq_toList]
  show (List.map Char.toNat (toString i).toList).toArray.size ≤ K + 1
  rw [List.size_toArray, List.length_map]
  exact int_text_length_le hK h
theorem sum_two (ts : List Str) : ((ts.map (·.length)).sum + 2 * ts.length) = (ts.map fun t => t.length + 2).sum := by
  induction ts with
  | nil => rfl
  | cons t r ih => simp only [List.map_cons, List.sum_cons, List.length_cons]; omega
mutual
theorem pd_good {K : Nat} (hK : 0 < K) (h2 : K ≤ 1920) : ∀ x : PV, pok K x = true → ∃ d, pd x = some d ∧ Good K (pnd x) d ∧ d.depth ≤ pdp x
  | .non, _ => ⟨_, rfl, ⟨rfl, rfl, by rw [PyData.shown_none]; show 4 + 2 ≤ (K + 12) * 1; omega, by decide +kernel⟩, Nat.le_refl _⟩
  | .bl b, _ => ⟨_, rfl, ⟨rfl, rfl, by
      have : (PyData.shown (.bool b)).length ≤ 5 := by cases b <;> decide
      show _ ≤ (K + 12) * 1
      omega, by cases b <;> decide +kernel⟩, Nat.le_refl _⟩
  | .int i, h => by
    have h1 : i.natAbs.log2 < K := by unfold pok at h; simpa using h
    have := int_len hK h1
    refine ⟨_, rfl, ⟨?_, rfl, by show _ ≤ (K + 12) * 1; omega, by rw [PyData.shown_int]; exact ok_ofS _⟩, Nat.le_refl _⟩
    simp [PyData.showable]; omega
  | .str s, h => by
    have h1 : ∀ c ∈ s, c < 1114112 := by unfold pok at h; simpa using h
    have := repr_str_le s h1
    refine ⟨_, rfl, ⟨rfl, rfl, ?_, by rw [PyData.shown_str]; exact ok_reprS s h1⟩, Nat.le_refl _⟩
    rw [PyData.shown_str]
    show _ ≤ (K + 12) * (s.length + 1)
    have q : 10 * s.length + 12 ≤ (K + 12) * (s.length + 1) := by
      have : 12 * (s.length + 1) ≤ (K + 12) * (s.length + 1) := Nat.mul_le_mul_right _ (by omega)
      omega
    omega
  | .tup xs, h => by
    obtain ⟨ds, e, g1, g2, g3, g4, g5⟩ := pds_good hK h2 xs (by unfold pok at h; exact h)
    refine ⟨.tuple ds, by simp [pd, e], ⟨by simpa [PyData.showable] using g1, by simpa [PyData.hasDict] using g2, ?_, ?_⟩, ?_⟩
    · have l := tupleText_len_le (PyData.shownAll ds)
      have s2 := sum_two (PyData.shownAll ds)
      show (tupleText (PyData.shownAll ds)).length + 2 ≤ (K + 12) * (pnds xs + 1)
      rw [Nat.mul_add]
      omega
    · show PyData.strOk (tupleText (PyData.shownAll ds)) = true
      exact ok_tuple _ g4
    · simp only [PyData.depth, pdp]; omega
theorem pds_good {K : Nat} (hK : 0 < K) (h2 : K ≤ 1920) : ∀ xs : List PV, poks K xs = true → ∃ ds, pds xs = some ds ∧ PyData.showableAll ds = true ∧ PyData.hasDictAll ds = false ∧ ((PyData.shownAll ds).map fun t => t.length + 2).sum ≤ (K + 12) * pnds xs ∧ (∀ t ∈ PyData.shownAll ds, PyData.strOk t = true) ∧ PyData.depthAll ds ≤ pdps xs
  | [], _ => ⟨[], rfl, rfl, rfl, Nat.le_refl _, (fun _ h => by simp [PyData.shownAll] at h), Nat.le_refl _⟩
  | x :: xs, h => by
    unfold poks at h
    rw [Bool.and_eq_true] at h
    obtain ⟨d, e, g, gd⟩ := pd_good hK h2 x h.1
    obtain ⟨ds, e2, g1, g2, g3, g4, g5⟩ := pds_good hK h2 xs h.2
    refine ⟨d :: ds, by simp [pds, e, e2], by simp [PyData.showableAll, g.s1, g1], by simp [PyData.hasDictAll, g.s2, g2], ?_, ?_, ?_⟩
    · simp only [PyData.shownAll, List.map_cons, List.sum_cons, pnds]
      have := g.s3
      rw [Nat.mul_add]
      omega
    · intro t ht
      simp only [PyData.shownAll] at ht
      rcases List.mem_cons.mp ht with rfl | q
      · exact g.s4
      · exact g4 t q
    · simp only [PyData.depthAll, pdps]; omega
end
theorem toD_pd (h : PH) : ∀ (n : Nat) (x : PV) (d : PyData), pd x = some d → pdp x < n → toD h n x = some d
  | 0, _, _, _, l => absurd l (Nat.not_lt_zero _)
  | n + 1, x, d, e, l => by
    have z : toD h (n + 1) x = _ := toD.eq_def ..
    rw [z]
    cases x with
    | non => simpa [pd] using e
    | bl b => simpa [pd] using e
    | int i => simpa [pd] using e
    | str s => simpa [pd] using e
    | tup xs =>
      have hh : ∀ xs : List PV, ∀ ds, pds xs = some ds → pdps xs < n → mapO (toD h n) xs = some ds := by
        intro xs
        induction xs with
        | nil => intro ds e _; simp only [pds] at e; rw [← Option.some.inj e]; rfl
        | cons y ys ih =>
          intro ds e l
          simp only [pdps] at l
          unfold pds at e
          cases e1 : pd y with
          | none => rw [e1] at e; cases e
          | some d1 =>
            cases e2 : pds ys with
            | none => simp only [e1, e2] at e; cases e
            | some ds1 =>
              simp only [e1, e2] at e
              unfold mapO
              rw [toD_pd h n y d1 e1 (by omega), ih ds1 e2 (by omega)]
              exact e
      unfold pd at e
      simp only [pdp] at l
      cases e1 : pds xs with
      | none => rw [e1] at e; cases e
      | some ds =>
        rw [e1] at e
        simp only [hh xs ds e1 (by omega)]
        exact e
    | scr xs => simp [pd] at e
    | rdic xs => simp [pd] at e
    | ins c fs => simp [pd] at e
    | ref m => simp [pd] at e
    | gl m => simp [pd] at e
theorem mapO_pds (h : PH) (n : Nat) : ∀ (xs : List PV) (ds : List PyData), pds xs = some ds → pdps xs < n → mapO (toD h n) xs = some ds
  | [], ds, e, _ => by simp only [pds] at e; rw [← Option.some.inj e]; rfl
  | y :: ys, ds, e, l => by
    simp only [pdps] at l
    unfold pds at e
    cases e1 : pd y with
    | none => rw [e1] at e; cases e
    | some d1 =>
      cases e2 : pds ys with
      | none => simp only [e1, e2] at e; cases e
      | some ds1 =>
        simp only [e1, e2] at e
        unfold mapO
        rw [toD_pd h n y d1 e1 (by omega), mapO_pds h n ys ds1 e2 (by omega)]
        exact e
/-- the text of a list of plain values -/
def repL (xs : List PV) : List Nat := match pds xs with
  | some ds => (PyData.shown (.list ds)).cps.toList
  | none => []
section
variable {h : PH} {n K : Nat} {xs : List PV}
theorem repr_l (hK : 0 < K) (h2 : K ≤ 1920) (e : h[n]? = some (.lst xs)) (g : poks K xs = true) (gd : pdps xs < 19) (gs : (K + 12) * (pnds xs + 1) ≤ LIM) : bRepr h [.ref n] = .ok (.str (repL xs)) h := by
  obtain ⟨ds, e1, g1, g2, g3, g4, g5⟩ := pds_good hK h2 xs g
  have d : toD h DEP (.ref n) = some (.list ds) := by
    have z : toD h (19 + 1) (.ref n) = _ := toD.eq_def ..
    rw [show DEP = 19 + 1 from rfl, z]
    simp only [e, mapO_pds h 19 xs ds e1 gd]; rfl
  have l : (PyData.shown (.list ds)).length ≤ LIM := by
    have l := listText_len_le (PyData.shownAll ds)
    have s2 := sum_two (PyData.shownAll ds)
    refine Nat.le_trans ?_ gs
    show (listText (PyData.shownAll ds)).length ≤ _
    rw [Nat.mul_add]
    omega
  have r : reprD h (.ref n) = some (repL xs) := by
    unfold reprD
    rw [d]
    have dp : (PyData.list ds).depth ≤ 60 := by simp only [PyData.depth]; omega
    simp only [decide_eq_true l, decide_eq_true dp]
    simp [PyData.showable, g1, PyData.hasDict, g2, repL, e1]
  simp [bRepr, isRefV, r]
theorem ok_repL (hK : 0 < K) (h2 : K ≤ 1920) (g : poks K xs = true) : PyData.strOk (S (repL xs)) = true := by
  obtain ⟨ds, e1, g1, g2, g3, g4, g5⟩ := pds_good hK h2 xs g
  unfold repL
  simp only [e1, S_of]
  exact ok_list _ g4
end
end MC

end
section
set_option maxRecDepth 100000
set_option maxHeartbeats 4000000
namespace MC
open PySem L2
section
variable {m : MF} {xs as : List PV} {h g hc : PH} {u v : PV} {fp live : List Nat} {os ns : List PO}
theorem call_gen (r : reach h FUEL (refsVs xs) [] = some fp) (ra : renVs (idx fp) xs = some as) (rh : mapO (pick h (idx fp)) fp = some hc) (hm : m as hc = .ok v g)
    (rl : reach g FUEL (refsVs [v] ++ List.range fp.length) [] = some live) (rv : renVs (backF fp (newsOf fp live) h.length) [v] = some [u])
    (ro : mapO (pick g (backF fp (newsOf fp live) h.length)) (List.range fp.length) = some os) (rn : mapO (pick g (backF fp (newsOf fp live) h.length)) (newsOf fp live) = some ns) : callG takeBack m xs h = .ok u (setAll h fp os ++ ns) := by
  unfold callG
  simp only [r, ra, rh, hm]
  unfold takeBack takeL
  simp only [rl, rv, ro, rn]
/-- one list is handed over and stays, a new one comes back -/
theorem call_1n {j i : Nat} {ys zs : List PV} (hr : refsVs xs = [j]) (ha : renVs (idx [j]) xs = some as) (hj : h[j]? = some (.lst ys)) (hy : noRefs ys = true) (hm : m as [.lst ys] = .ok (.ref i) g) (hi : i ≠ 0) (hg0 : g[0]? = some (.lst ys)) (hg : g[i]? = some (.lst zs)) (hz : noRefs zs = true) :
    callG takeBack m xs h = .ok (.ref h.length) (h ++ [.lst zs]) := by
  obtain ⟨y1, y2⟩ := flatO_of hy
  obtain ⟨z1, z2⟩ := flatO_of hz
  have rl : reach g FUEL (refsVs [.ref i] ++ List.range [j].length) [] = some [i, 0] := by
    have : refsVs [PV.ref i] = [i] := by unfold refsVs refsV refsVs; rfl
    rw [this]
    exact reach2 hg z1 hg0 y1 hi
  have nw : newsOf [j] [i, 0] = [i] := by
    unfold newsOf
    rw [List.filter_cons, List.filter_cons]
    have : decide ([j].length ≤ i) = true := decide_eq_true (show 1 ≤ i by omega)
    rw [this]
    rfl
  have e := call_gen (m := m) (h := h) (xs := xs) (as := as) (v := .ref i) (u := .ref h.length) (fp := [j]) (hc := [.lst ys]) (live := [i, 0]) (os := [.lst ys]) (ns := [.lst zs]) (g := g) (by rw [hr]; exact reach1 hj y1) ha (by simp [mapO, pick, hj, y2]) hm rl
    (by
      rw [nw]; unfold renVs renV renVs
      have : backF [j] [i] h.length i = some h.length := by
        unfold backF
        have : decide (i < [j].length) = false := by simp; omega
        rw [this]; simp [idx_hd]
      rw [this])
    (by
      rw [nw]
      show mapO _ [0] = _
      simp [mapO, pick, hg0, y2])
    (by
      rw [nw]
      simp [mapO, pick, hg, z2])
  rw [e]
  have : setAll h [j] [PO.lst ys] = h := by
    show h.set j (PO.lst ys) = h
    obtain ⟨l, e⟩ := List.getElem?_eq_some_iff.mp hj
    rw [← e, List.set_getElem_self]
  rw [this]
theorem reach_flat : ∀ (js seen : List Nat) (f : Nat), js.length ≤ f → (∀ j ∈ js, ∃ ys, g[j]? = some (.lst ys) ∧ noRefs ys = true) → js.Nodup → (∀ j ∈ js, j ∉ seen) → reach g f js seen = some (seen ++ js)
  | [], seen, f, _, _, _, _ => by unfold reach; rw [List.append_nil]
  | j :: js, seen, 0, h, _, _, _ => by simp at h
  | j :: js, seen, f + 1, h, hj, nd, hs => by
    obtain ⟨ys, e, hy⟩ := hj j List.mem_cons_self
    unfold reach
    have c : seen.contains j = false := by
      have := hs j List.mem_cons_self
      simpa using this
    rw [c, cond_false, e]
    simp only [(flatO_of hy).1, List.nil_append]
    rw [reach_flat js (seen ++ [j]) f (by simpa using h) (fun x hx => hj x (List.mem_cons_of_mem _ hx)) (List.nodup_cons.mp nd).2 fun x hx => ?_]
    · simp
    · intro q
      rcases List.mem_append.mp q with q | q
      · exact hs x (List.mem_cons_of_mem _ hx) q
      · rw [List.mem_singleton.mp q] at hx
        exact (List.nodup_cons.mp nd).1 hx
theorem refs_map : ∀ js : List Nat, refsVs (js.map PV.ref) = js
  | [] => by unfold refsVs; rfl
  | j :: js => by
    rw [List.map_cons]
    unfold refsVs refsV
    rw [refs_map js]; rfl
theorem idx_at : ∀ {l : List Nat} {t n : Nat}, l.Nodup → l[t]? = some n → idx l n = some t
  | [], _, _, _, e => by simp at e
  | m :: r, 0, n, _, e => by
    have : m = n := by simpa using e
    subst this
    unfold idx; simp
  | m :: r, t + 1, n, nd, e => by
    have e : r[t]? = some n := by simpa using e
    have ne : m ≠ n := fun q => (List.nodup_cons.mp nd).1 (q ▸ List.mem_of_getElem? e)
    unfold idx
    rw [beq_eq_false_iff_ne.mpr ne, cond_false, idx_at (List.nodup_cons.mp nd).2 e]
theorem ren_map (f : Nat → Option Nat) : ∀ (js ks : List Nat), js.length = ks.length → (∀ (t j : Nat), js[t]? = some j → f j = ks[t]?) → renVs f (js.map PV.ref) = some (ks.map PV.ref)
  | [], [], _, _ => by unfold renVs; rfl
  | [], _ :: _, h, _ => by simp at h
  | _ :: _, [], h, _ => by simp at h
  | j :: js, k :: ks, h, hf => by
    have e0 : f j = some k := hf 0 j rfl
    rw [List.map_cons, List.map_cons]
    unfold renVs renV
    rw [e0, ren_map f js ks (by simpa using h) fun t x e => hf (t + 1) x e]
theorem mapO_flat {f : Nat → Option Nat} : ∀ {js : List Nat} {zss : List (List PV)}, js.length = zss.length → (∀ (t j : Nat), js[t]? = some j → ∃ zs, zss[t]? = some zs ∧ g[j]? = some (.lst zs) ∧ noRefs zs = true) → mapO (pick g f) js = some (zss.map PO.lst)
  | [], [], _, _ => rfl
  | [], _ :: _, h, _ => by simp at h
  | _ :: _, [], h, _ => by simp at h
  | j :: js, z :: zss, h, hf => by
    obtain ⟨zs, e1, e2, e3⟩ := hf 0 j rfl
    have e1 : z = zs := by simpa using e1
    subst e1
    unfold mapO
    rw [show pick g f j = some (.lst z) from by simp [pick, e2, (flatO_of e3).2], mapO_flat (by simpa using h) fun t x e => hf (t + 1) x e]
    rfl
/-- a list of lists in a heap -/
def LL (h : PH) (v : PV) (zss : List (List PV)) : Prop := ∃ (i : Nat) (js : List Nat), v = .ref i ∧ h[i]? = some (.lst (js.map PV.ref)) ∧ (i :: js).Nodup ∧ js.length = zss.length ∧ ∀ (t j : Nat), js[t]? = some j → ∃ zs, zss[t]? = some zs ∧ h[j]? = some (.lst zs) ∧ noRefs zs = true
/-- nothing is handed over, a list of lists comes back -/
theorem call_ll {zss : List (List PV)} (hx : noRefs xs = true) (hm : m xs [] = .ok v g) (hl : LL g v zss) (lz : zss.length ≤ 390) :
    ∃ h', callG takeBack m xs h = .ok (.ref h.length) (h ++ h') ∧ LL (h ++ h') (.ref h.length) zss := by
  obtain ⟨i, js, rfl, e0, nd, hlen, he⟩ := hl
  have hfl : ∀ j ∈ js, ∃ ys, g[j]? = some (.lst ys) ∧ noRefs ys = true := fun j hj => by
    obtain ⟨t, et⟩ := List.mem_iff_getElem?.mp hj
    obtain ⟨zs, _, q⟩ := he t j et
    exact ⟨zs, q⟩
  have nd2 := List.nodup_cons.mp nd
  have rl : reach g FUEL (refsVs [PV.ref i] ++ List.range ([] : List Nat).length) [] = some (i :: js) := by
    have : refsVs [PV.ref i] = [i] := by unfold refsVs refsV refsVs; rfl
    rw [this]
    show reach g (399 + 1) [i] [] = _
    unfold reach
    simp only [List.contains_nil, cond_false, e0, refsO, refs_map, List.append_nil, List.nil_append]
    exact reach_flat js [i] 399 (by omega) hfl nd2.2 fun x hx q => nd2.1 (List.mem_singleton.mp q ▸ hx)
  have nw : newsOf [] (i :: js) = i :: js := by
    unfold newsOf
    exact List.filter_eq_self.mpr fun a _ => by simp
  have bf : ∀ (t n : Nat), (i :: js)[t]? = some n → backF [] (i :: js) h.length n = some (h.length + t) := fun t n e => by
    unfold backF
    simp [idx_at nd e]
  have ks : List Nat := js
  have r0 : renVs (backF [] (i :: js) h.length) [PV.ref i] = some [.ref h.length] := by
    unfold renVs renV renVs
    rw [bf 0 i rfl]
    rfl
  have r1 : renVs (backF [] (i :: js) h.length) (js.map PV.ref) = some (((List.range js.length).map fun t => h.length + (t + 1)).map PV.ref) := by
    refine ren_map _ _ _ (by simp) fun t j e => ?_
    rw [bf (t + 1) j (by simpa using e)]
    have hlt := (List.getElem?_eq_some_iff.mp e).1
    rw [List.getElem?_map, List.getElem?_range hlt]; rfl
  have e := call_gen (m := m) (h := h) (xs := xs) (as := xs) (v := .ref i) (u := .ref h.length) (fp := []) (hc := []) (live := i :: js) (os := []) (ns := .lst (((List.range js.length).map fun t => h.length + (t + 1)).map PV.ref) :: zss.map PO.lst) (g := g) (by rw [refss_no xs hx]; exact reach0 h) (rens_no _ xs hx) rfl hm rl
    (by rw [nw]; exact r0) rfl (by
      rw [nw]
      unfold mapO
      rw [show pick g (backF [] (i :: js) h.length) i = some (.lst (((List.range js.length).map fun t => h.length + (t + 1)).map PV.ref)) from by simp only [pick, e0, renO, r1], mapO_flat hlen he])
  refine ⟨_, e, h.length, (List.range js.length).map fun t => h.length + (t + 1), rfl, ?_, ?_, by simpa using hlen, ?_⟩
  · show (h ++ _)[h.length]? = _
    simp
  · refine List.nodup_cons.mpr ⟨fun q => ?_, ?_⟩
    · obtain ⟨t, _, e⟩ := List.mem_map.mp q
      omega
    · exact (List.nodup_range).map _ fun a b hab => by omega
  · intro t j ej
    rw [List.getElem?_map] at ej
    obtain ⟨s, es, rfl⟩ := Option.map_eq_some_iff.mp ej
    have hlt : s < js.length := by
      have := List.mem_of_getElem? es
      exact List.mem_range.mp this
    have : s = t := by
      have hl := (List.getElem?_eq_some_iff.mp es)
      obtain ⟨hl, q⟩ := hl
      simpa using q.symm
    subst this
    obtain ⟨zs, q1, q2, q3⟩ := he s js[s] (List.getElem?_eq_getElem hlt)
    refine ⟨zs, q1, ?_, q3⟩
    show (h ++ _)[h.length + (s + 1)]? = _
    rw [List.getElem?_append_right (by omega)]
    have : h.length + (s + 1) - h.length = s + 1 := by omega
    rw [this, List.getElem?_cons_succ, List.getElem?_map, q1]; rfl
end
end MC

end
section
set_option maxRecDepth 100000
set_option maxHeartbeats 4000000
namespace MM
open PySem L2 MC
theorem between_ok (v a b : Int) : m_is_between [.int v, .int a, .int b] [] = .ok (.bl (decide (a ≤ v) && decide (v ≤ b))) [] := by
  unfold m_is_between
  by_cases h1 : a ≤ v <;> by_cases h2 : v ≤ b <;> simp [b_is_between, kindP, isiT, tb_int, tb_bool, List.lookup, h1, h2]
theorem between_c (v a b : Int) (h : PH) : callG takeBack m_is_between [.int v, .int a, .int b] h = .ok (.bl (decide (a ≤ v) && decide (v ≤ b))) h :=
  call_pure rfl (between_ok v a b) rfl
def gl (n : Int) (v : PV) : Prop := v = .non ∨ ∃ i, v = .int i ∧ 0 ≤ i ∧ i < n
theorem goal_c (v : PV) (n : Int) (g : gl n v) (h : PH) : callG takeBack m_is_goal [v, .int n] h = .ok (.bl true) h := by
  have : m_is_goal [v, .int n] [] = .ok (.bl true) [] := by
    unfold m_is_goal
    rcases g with rfl | ⟨i, rfl, h0, h1⟩
    · simp [b_is_goal, MC.isNon]
    · simp [b_is_goal, MC.isNon, between_c, h0, show i ≤ n - 1 by omega]
  rcases g with rfl | ⟨i, rfl, _⟩ <;> exact call_pure rfl this rfl
def rowOk (n : Int) (L : Nat) (x : PV) : Prop := ∃ gs, x = .tup gs ∧ gs.length = L ∧ ∀ g ∈ gs, gl n g
theorem num_at {xs : List PV} {i : Nat} {p : PV} (e : (numbered 0 xs)[i]? = some p) : ∃ x, xs[i]? = some x ∧ p = .tup [.int (i : Nat), x] := by
  rw [numbered_get] at e
  split at e
  · rename_i x ex
    cases e
    exact ⟨x, ex, by rw [Nat.zero_add]⟩
  · cases e
theorem map_true (gs : List PV) : gs.map (fun _ => PV.bl true) = List.replicate gs.length (.bl true) := by
  rw [List.map_const']
theorem wrong_arrows_w (rows : List PV) (L : Nat) (hL : L ≤ 5) (hr : ∀ r ∈ rows, rowOk rows.length L r) : Ws (m_wrong_arrows [.tup rows, .int L] []) fun v _ => v = .non := by
  unfold m_wrong_arrows
  simp [b_wrong_arrows]
  refine forB (fun i e h => ∃ x y z, e = [some (.tup rows), some (.int L), x, y, z]) ⟨_, _, _, rfl⟩ (fun _ _ _ _ => rfl) (fun i p env h hp ⟨x, y, z, ee⟩ => ?_) fun env h ⟨x, y, z, ee⟩ => ?_
  · subst ee
    obtain ⟨r, hr0, rfl⟩ := num_at hp
    obtain ⟨gs, rfl, hgl, hg⟩ := hr r (List.mem_of_getElem? hr0)
    simp [isiT, tb_tuple, List.lookup, hgl]
    refine mapB (fun _ => .bl true) (fun _ => True) trivial (by rw [hgl]; exact Nat.le_trans hL (by decide)) (fun g hg0 h _ => ⟨_, rfl, ?_⟩) fun h0 _ => ?_
    · simp [wipeE, goal_c g _ (hg g hg0)]
    · simp [map_true, all_last (bls_true _)]
  · subst ee; simp
theorem rows_noref : ∀ {rows : List PV} {n : Int} {L : Nat}, (∀ r ∈ rows, rowOk n L r) → noRefs rows = true := by
  intro rows n L hr
  have gls : ∀ gs : List PV, (∀ g ∈ gs, gl n g) → noRefs gs = true := by
    intro gs
    induction gs with
    | nil => intro _; rfl
    | cons g gs ih =>
      intro hg
      unfold noRefs
      rw [ih fun x hx => hg x (List.mem_cons_of_mem _ hx), Bool.and_true]
      rcases hg g List.mem_cons_self with rfl | ⟨i, rfl, _⟩ <;> rfl
  induction rows with
  | nil => rfl
  | cons r rs ih =>
    unfold noRefs
    rw [ih fun x hx => hr x (List.mem_cons_of_mem _ hx), Bool.and_true]
    obtain ⟨gs, rfl, _, hg⟩ := hr r List.mem_cons_self
    unfold noRef
    exact gls gs hg
theorem ints_noref : ∀ is : List Int, noRefs (is.map PV.int) = true
  | [] => rfl
  | i :: is => by
    rw [List.map_cons]
    unfold noRefs
    rw [ints_noref is]; rfl
theorem wrong_arrows_c (rows : List PV) (L : Nat) (hL : L ≤ 5) (hr : ∀ r ∈ rows, rowOk rows.length L r) (h : PH) : callG takeBack m_wrong_arrows [.tup rows, .int L] h = .ok .non h :=
  call_pureW (by simp [noRefs, noRef, rows_noref hr]) (wrong_arrows_w rows L hL hr) rfl
/-- the ends: ever greater, within the stands -/
def endsOk (n : Int) (is : List Int) : Prop := is.Pairwise (· < ·) ∧ ∀ i ∈ is, 0 ≤ i ∧ i < n
theorem wrong_end_w (is : List Int) (n : Int) (hi : endsOk n is) : Ws (m_wrong_end [.tup (is.map PV.int), .int n] []) fun v _ => v = .non := by
  unfold m_wrong_end
  simp [b_wrong_end]
  refine forB (fun j e h => ∃ l y z, e = [some (.tup (is.map PV.int)), some (.int n), some (.int l), y, z] ∧ ∀ k v, j ≤ k → is[k]? = some v → l < v) ⟨-1, _, _, rfl, fun k v _ e => ?_⟩ (fun _ _ _ _ => rfl) (fun j p env h hp ⟨l, y, z, ee, hl⟩ => ?_) fun env h ⟨l, y, z, ee, _⟩ => ?_
  · have := hi.2 v (List.mem_of_getElem? e); omega
  · subst ee
    obtain ⟨r, hr0, rfl⟩ := num_at hp
    rw [List.getElem?_map] at hr0
    obtain ⟨v, hv, rfl⟩ := Option.map_eq_some_iff.mp hr0
    have b1 := hi.2 v (List.mem_of_getElem? hv)
    have b2 := hl j v (Nat.le_refl _) hv
    simp [between_c, show 0 ≤ v from b1.1, show v ≤ n - 1 by omega, show ¬ v ≤ l by omega]
    intro k u hk hu
    obtain ⟨l1, e1⟩ := List.getElem?_eq_some_iff.mp hv
    obtain ⟨l2, e2⟩ := List.getElem?_eq_some_iff.mp hu
    have := List.pairwise_iff_getElem.mp hi.1 j k l1 l2 (by omega)
    rw [e1, e2] at this
    exact this
  · subst ee; simp
theorem wrong_end_c (is : List Int) (n : Int) (hi : endsOk n is) (h : PH) : callG takeBack m_wrong_end [.tup (is.map PV.int), .int n] h = .ok .non h :=
  call_pureW (by simp [noRefs, noRef, ints_noref]) (wrong_end_w is n hi) rfl
/-- a machine's value -/
def mach (L : Nat) (rows : List PV) (is : List Int) : PV := .ins 0 [([108, 101, 116, 116, 101, 114, 115], .int L), ([97, 114, 114, 111, 119, 115], .tup rows), ([101, 110, 100, 115], .tup (is.map PV.int))]
structure MachOk (L : Nat) (rows : List PV) (is : List Int) : Prop where
  l1 : 1 ≤ L
  l5 : L ≤ 5
  n1 : 1 ≤ rows.length
  n8 : rows.length ≤ 8
  rws : ∀ r ∈ rows, rowOk rows.length L r
  ends : endsOk rows.length is
theorem init_w (L : Nat) (rows : List PV) (is : List Int) (ok : MachOk L rows is) : Ws (m_Machine___init__ [.ref 0, .int L, .tup rows, .tup (is.map PV.int)] [.ins 0 []]) fun v g => v = .non ∧ g[0]? = some (.ins 0 [([108, 101, 116, 116, 101, 114, 115], .int L), ([97, 114, 114, 111, 119, 115], .tup rows), ([101, 110, 100, 115], .tup (is.map PV.int))]) := by
  have hL : 1 ≤ (L : Int) ∧ (L : Int) ≤ 5 := ⟨by have := ok.l1; omega, by have := ok.l5; omega⟩
  have hn : 1 ≤ (rows.length : Int) ∧ (rows.length : Int) ≤ 8 := ⟨by have := ok.n1; omega, by have := ok.n8; omega⟩
  unfold m_Machine___init__
  simp [b_Machine___init__, between_c, hL.1, hL.2, hn.1, hn.2, isiT, tb_tuple, List.lookup, wrong_arrows_c rows L ok.l5 ok.rws, wrong_end_c is _ ok.ends, cs_letters, cs_arrows, cs_ends, putP]
theorem make_c (L : Nat) (rows : List PV) (is : List Int) (ok : MachOk L rows is) (h : PH) : callG takeFrz (initM 0 m_Machine___init__ [0, 1, 2, 3] []) [.int L, .tup rows, .tup (is.map PV.int)] h = .ok (mach L rows is) h := by
  have r1 := rows_noref ok.rws
  obtain ⟨v, g, e, rfl, hg⟩ := init_w L rows is ok
  refine call_frz (i := 0) (g := g) (by simp [noRefs, noRef, r1, ints_noref]) ?_ hg (by simp [noRefs, noRef, r1, ints_noref])
  unfold initM
  simp [e]
theorem strs_noref : ∀ ws : List (List Nat), noRefs (ws.map PV.str) = true
  | [] => rfl
  | w :: ws => by
    rw [List.map_cons]
    unfold noRefs
    rw [strs_noref ws]; rfl
theorem lim_of {n : Nat} (h : n ≤ 1000) : n ≤ LIM := Nat.le_trans h (by decide)
section
variable {L : Nat} {rows : List PV} {is : List Int} {ws us : List (List Nat)}
theorem mach_noref (ok : MachOk L rows is) : noRef (mach L rows is) = true := by
  simp [mach, noRef, noRefF, noRefs, rows_noref ok.rws, ints_noref]
theorem check_machine_c (ok : MachOk L rows is) (h : PH) : callG takeBack m_check_machine [mach L rows is] h = .ok .non h := by
  refine call_pureW (by simp [noRefs, mach_noref ok]) ?_ rfl
  unfold m_check_machine
  simp [b_check_machine, mach, isiT, cs_isi_Machine, List.lookup]
end
end MM

end
section
set_option maxRecDepth 100000
set_option maxHeartbeats 4000000
namespace MC
open PySem L2
section
variable {β : Type} {h : PH} {n : Nat}
theorem filtW {g : Tg} {t : MT} {m : ME} {e0 : En} {wt : Wt} {Q : β → PH → Prop} {k : PV → PH → R β} (p : PV → Bool) (f : PV → PV) (J : PH → Prop) {xs : List PV} (hw : ∀ h, J h → watch wt h = true) (j0 : J h) (hl : xs.length ≤ LIM)
    (hs : ∀ x ∈ xs, ∀ h, J h → ∃ e, tgM g x e0 = some e ∧ Ws (t e h) fun c h1 => c = p x ∧ J h1 ∧ (p x = true → Ws (m e h1) fun y h2 => y = f x ∧ J h2))
    (hd : ∀ h0, J h0 → Ws (k (.ref h0.length) (h0 ++ [.lst ((xs.filter p).map f)])) Q) : Ws ((lcL g t m wt e0 xs [] h).bind k) Q := by
  refine Ws.bind (Ws_lc (Q := fun v h' => ∃ h0, J h0 ∧ v = .ref h0.length ∧ h' = h0 ++ [.lst ((xs.filter p).map f)]) (fun i acc h => i ≤ xs.length ∧ acc = ((xs.take i).filter p).map f ∧ J h) ⟨Nat.zero_le _, rfl, j0⟩ (fun _ _ h ⟨_, _, j⟩ => hw h j) (fun i x acc h e ⟨hi, ea, jh⟩ => ?_) fun acc h ⟨_, ea, jh⟩ => ?_) fun v h' ⟨h0, j, e1, e2⟩ => by rw [e1, e2]; exact hd h0 j
  · have hlt := (List.getElem?_eq_some_iff.mp e).1
    obtain ⟨e1, t1, w⟩ := hs x (List.mem_of_getElem? e) h jh
    refine ⟨e1, t1, w.mono fun c h1 ⟨ec, j1, w2⟩ => ?_⟩
    have tk : ((xs.take (i + 1)).filter p).map f = ((xs.take i).filter p).map f ++ (if p x then [f x] else []) := by
      rw [List.take_add_one, e, List.filter_append, List.map_append]
      cases q : p x <;> simp [q]
    subst ec
    cases q : p x with
    | false => exact ⟨hlt, by rw [tk, q, ea]; simp, j1⟩
    | true =>
      refine (w2 q).mono fun y h2 ⟨ey, j2⟩ => ⟨?_, hlt, by rw [tk, q, ea, ey]; simp, j2⟩
      have : ((xs.take i).filter p).length ≤ (xs.take i).length := List.length_filter_le ..
      rw [ea, List.length_map]
      rw [List.length_take] at this
      omega
  · subst ea
    rw [List.take_length]
    exact ⟨h, jh, rfl, rfl⟩
theorem ints_map : ∀ is : List Int, intsP (is.map PV.int) = some is
  | [] => rfl
  | i :: is => by simp [intsP, ints_map is]
theorem sum_last {is : List Int} : bSum (h ++ [.lst (is.map PV.int)]) [.ref h.length] = .ok (.int is.sum) (h ++ [.lst (is.map PV.int)]) := by
  have : lstP (h ++ [PO.lst (is.map PV.int)]) (.ref h.length) = some (is.map PV.int) := by simp [lstP]
  simp only [bSum, this, ints_map]
theorem in_ints {k : Int} {is : List Int} : opIn false h (.int k) (.tup (is.map PV.int)) = .ok (.bl (decide (k ∈ is))) h := by
  have m : ∀ is : List Int, mapO (toD h DEP) (is.map PV.int) = some (is.map PyData.int) := by
    intro is
    induction is with
    | nil => rfl
    | cons i r ih =>
      rw [List.map_cons]
      unfold mapO
      rw [show toD h DEP (.int i) = some (.int i) from rfl, ih]; rfl
  have c : ∀ is : List Int, PyData.canLayAll0 (is.map PyData.int) = true := by
    intro is
    induction is with
    | nil => rfl
    | cons i r ih => simp [PyData.canLayAll0, PyData.canLay0, ih]
  have a : ((is.map PyData.int).any fun z => PyData.eqv z (.int k)) = decide (k ∈ is) := by
    induction is with
    | nil => rfl
    | cons i r ih =>
      rw [List.map_cons, List.any_cons, ih]
      by_cases e : i = k
      · subst e; simp [PyData.eqv]
      · have e2 : ¬ k = i := fun q => e q.symm
        simp [PyData.eqv, e, e2]
  show inItems false h (.int k) (is.map PV.int) = _
  unfold inItems
  rw [m, show toD h DEP (.int k) = some (.int k) from rfl]
  have s : SeqAt.shaped (.int k) = true := by simp [SeqAt.shaped, PyData.canLay0, PyData.depth]
  simp only [s, c, a, Bool.and_self, cond_true, negB, cond_false]
theorem app_c {xs : List PV} {v : PV} (e : h[n]? = some (.lst xs)) (hl : xs.length < LIM) : oAppend h [.ref n, v] = .ok .non (h.set n (.lst (xs ++ [v]))) := by
  simp only [oAppend, e, decide_eq_true hl, cond_true]
theorem len_seqI {n : Nat} : (seqI 0 n).length = n := by unfold seqI; rw [List.length_map, List.length_range]
theorem at_seqI {n t : Nat} {x : PV} (e : (seqI 0 n)[t]? = some x) : t < n ∧ x = .int t := by
  have hl := (List.getElem?_eq_some_iff.mp e).1
  rw [len_seqI] at hl
  unfold seqI at e
  rw [List.getElem?_map, List.getElem?_range hl] at e
  cases e
  exact ⟨hl, by simp⟩
theorem mem_seqI {n : Nat} {x : PV} (h : x ∈ seqI 0 n) : ∃ i : Nat, i < n ∧ x = .int i := by
  unfold seqI at h
  obtain ⟨i, hi, e⟩ := List.mem_map.mp h
  exact ⟨i, List.mem_range.mp hi, by rw [← e]; simp⟩
theorem inR_small {i : Int} (h0 : 0 ≤ i) (h1 : i ≤ 1000) : inR i = true := by unfold inR L62; simp; omega
theorem ix_last {xs : List PV} {x : PV} (e0 : h[n]? = some (.lst (xs ++ [x]))) : opIx h (.ref n) (.int (-1)) = .ok x h := by
  have : opIx h (.ref n) (.int (-1)) = ixL h (xs ++ [x]) (.int (-1)) := by simp [opIx, e0]
  rw [this]
  have z : L2.atI (xs ++ [x]) (-1) = some x := by
    unfold L2.atI
    have : ixN (xs ++ [x]).length (-1) = some xs.length := by unfold ixN; simp; omega
    rw [this]; simp
  show (match L2.atI (xs ++ [x]) (-1) with
    | some v => R.ok v h
    | none => .stuck) = _
  rw [z]
end
end MC
namespace MM
open PySem L2 MC
def ov : Option Nat → PV
  | none => .non
  | some g => .int g
def rowV (r : List (Option Nat)) : PV := .tup (r.map ov)
def rowsV (rs : List (List (Option Nat))) : List PV := rs.map rowV
def enI (es : List Nat) : List Int := es.map fun (e : Nat) => (e : Int)
def gsOf (rs : List (List (Option Nat))) (k : Nat) : List Nat := ((rs[k]?).getD []).filterMap id
/-- how many rows of t letters lead from stand k to an end -/
def Bt (rs : List (List (Option Nat))) (es : List Nat) : Nat → Nat → Nat
  | 0, k => if k ∈ es then 1 else 0
  | t + 1, k => ((gsOf rs k).map (Bt rs es t)).sum
def cnts (rs : List (List (Option Nat))) (es : List Nat) (t : Nat) : List PV := (List.range rs.length).map fun k => .int (Bt rs es t k)
section
variable {L : Nat} {rs : List (List (Option Nat))} {es : List Nat}
theorem rowsV_len : (rowsV rs).length = rs.length := by unfold rowsV; rw [List.length_map]
theorem cnts_noref (t : Nat) : noRefs (cnts rs es t) = true := by
  have := ints_noref ((List.range rs.length).map fun k => (Bt rs es t k : Int))
  unfold cnts
  rw [List.map_map] at this
  exact this
/-- a good machine, as data -/
def TO (L : Nat) (rs : List (List (Option Nat))) (es : List Nat) : Prop := MachOk L (rowsV rs) (enI es)
def mk (L : Nat) (rs : List (List (Option Nat))) (es : List Nat) : PV := mach L (rowsV rs) (enI es)
theorem TO.row (o : TO L rs es) {k : Nat} {r : List (Option Nat)} (e : rs[k]? = some r) : r.length = L ∧ ∀ g, some g ∈ r → g < rs.length := by
  have := o.rws (rowV r) (by unfold rowsV; exact List.mem_map.mpr ⟨r, List.mem_of_getElem? e, rfl⟩)
  obtain ⟨gs, q1, q2, q3⟩ := this
  have q1 : r.map ov = gs := by
    unfold rowV at q1
    exact PV.tup.inj q1
  subst q1
  refine ⟨by simpa using q2, fun g hg => ?_⟩
  have := q3 (ov (some g)) (List.mem_map.mpr ⟨_, hg, rfl⟩)
  rw [rowsV_len] at this
  rcases this with q | ⟨i, q, a, b⟩
  · cases q
  · have : (g : Int) = i := by unfold ov at q; exact PV.int.inj q
    omega
theorem TO.goals (o : TO L rs es) (k : Nat) : (gsOf rs k).length ≤ 5 ∧ ∀ g ∈ gsOf rs k, g < rs.length := by
  unfold gsOf
  cases e : rs[k]? with
  | none => exact ⟨Nat.zero_le _, fun _ h => nomatch h⟩
  | some r =>
    obtain ⟨l, h⟩ := o.row e
    refine ⟨?_, fun g hg => ?_⟩
    · have := List.length_filterMap_le id r
      have := o.l5
      show (r.filterMap id).length ≤ 5
      omega
    · obtain ⟨x, hx, q⟩ := List.mem_filterMap.mp hg
      have : x = some g := q
      exact h g (this ▸ hx)
theorem en_mem {k : Nat} : ((k : Int) ∈ enI es) ↔ k ∈ es := by
  unfold enI
  rw [List.mem_map]
  exact ⟨fun ⟨a, h, e⟩ => by have : a = k := by omega
                             exact this ▸ h, fun h => ⟨k, h, rfl⟩⟩
theorem end_counts_c (o : TO L rs es) (h : PH) : callG takeBack m_end_counts [mk L rs es] h = .ok (.ref h.length) (h ++ [.lst (cnts rs es 0)]) := by
  have nm : noRef (mk L rs es) = true := mach_noref o
  have n8 : rs.length ≤ 8 := by have := o.n8; rw [rowsV_len] at this; exact this
  have w : Ws (m_end_counts [mk L rs es] []) fun v g => v = .ref 0 ∧ g = [.lst (cnts rs es 0)] := by
    unfold m_end_counts
    simp [b_end_counts, mk, mach, cs_arrows, lookF, rowsV_len, inR_small (i := (rs.length : Int)) (by omega) (by omega)]
    refine mapB (fun x => match x with
      | .int i => .int (if i ∈ enI es then 1 else 0)
      | _ => .non) (fun h => h = []) rfl (by rw [len_seqI]; exact lim_of (by omega)) (fun x hx h e => ?_) fun h0 e => ?_
    · subst e
      obtain ⟨k, hk, rfl⟩ := mem_seqI hx
      refine ⟨_, rfl, ?_⟩
      by_cases q : (k : Int) ∈ enI es <;> simp [wipeE, cs_ends, lookF, in_ints, q]
    · subst e
      simp
      unfold seqI cnts
      rw [List.map_map]
      refine List.map_congr_left fun k hk => ?_
      show PV.int (if (0 + (k : Int)) ∈ enI es then 1 else 0) = _
      rw [Int.zero_add]
      unfold Bt
      by_cases q : k ∈ es
      · rw [if_pos (en_mem.mpr q), if_pos q]; rfl
      · rw [if_neg (fun z => q (en_mem.mp z)), if_neg q]; rfl
  obtain ⟨v, g, e, rfl, rfl⟩ := w
  exact call_newl (i := 0) (ys := cnts rs es 0) (by simp [noRefs, nm]) e rfl (cnts_noref 0)
theorem sum_nat (f : Nat → Nat) : ∀ l : List Nat, (l.map fun g => ((f g : Nat) : Int)).sum = (((l.map f).sum : Nat) : Int)
  | [] => rfl
  | a :: l => by simp [sum_nat f l]
theorem filt_row (f : PV → Int) (F : Nat → Nat) (hf : ∀ g : Nat, f (.int g) = F g) : ∀ r : List (Option Nat), (((r.map ov).filter fun x => !MC.isNon x).map f).sum = ((((r.filterMap id).map F).sum : Nat) : Int)
  | [] => rfl
  | none :: r => by
    have := filt_row f F hf r
    simpa [ov] using this
  | some g :: r => by
    have := filt_row f F hf r
    simp [ov, hf, this]
def bI (rs : List (List (Option Nat))) (es : List Nat) (t : Nat) (x : PV) : Int := match x with
  | .int i => ((Bt rs es t i.toNat : Nat) : Int)
  | _ => 0
theorem counts_before_c (o : TO L rs es) {t j : Nat} {h : PH} (hj : h[j]? = some (.lst (cnts rs es t))) : callG takeBack m_counts_before [mk L rs es, .ref j] h = .ok (.ref h.length) (h ++ [.lst (cnts rs es (t + 1))]) := by
  have nm : noRef (mk L rs es) = true := mach_noref o
  have n8 : rs.length ≤ 8 := by have := o.n8; rw [rowsV_len] at this; exact this
  have w : Ws (m_counts_before [mk L rs es, .ref 0] [.lst (cnts rs es t)]) fun v g => v = .ref 1 ∧ g[0]? = some (.lst (cnts rs es t)) ∧ g[1]? = some (.lst (cnts rs es (t + 1))) := by
    unfold m_counts_before
    simp [b_counts_before, mk, mach, cs_arrows, lookF, LIM]
    refine forB (fun i e h => ∃ x y, e = [some (mach L (rowsV rs) (enI es)), some (.ref 0), some (.ref 1), x, y] ∧ h[0]? = some (.lst (cnts rs es t)) ∧ h[1]? = some (.lst ((cnts rs es (t + 1)).take i))) ⟨_, _, rfl, rfl, by simp⟩ (fun _ _ _ _ => rfl) (fun i x env h hx ⟨y, z, ee, h0, h1⟩ => ?_) fun env h ⟨y, z, ee, h0, h1⟩ => ?_
    · subst ee
      unfold rowsV at hx
      rw [List.getElem?_map] at hx
      obtain ⟨r, hr, rfl⟩ := Option.map_eq_some_iff.mp hx
      obtain ⟨lr, hg⟩ := o.row hr
      have hi := (List.getElem?_eq_some_iff.mp hr).1
      simp [ty_lst h1, rowV]
      refine filtW (fun x => !MC.isNon x) (fun x => .int (bI rs es t x)) (fun h => h[0]? = some (.lst (cnts rs es t)) ∧ h[1]? = some (.lst ((cnts rs es (t + 1)).take i))) (fun _ _ => rfl) ⟨h0, h1⟩ (by rw [List.length_map]; exact lim_of (by have := o.l5; omega)) (fun x hx h ⟨g0, g1⟩ => ?_) fun h3 ⟨g0, g1⟩ => ?_
      · obtain ⟨a, ha, rfl⟩ := List.mem_map.mp hx
        refine ⟨_, rfl, ?_⟩
        cases a with
        | none => simp [wipeE, ov, MC.isNon, g0, g1]
        | some a =>
          have hl := hg a ha
          have e1 : (cnts rs es t)[a]? = some (.int (Bt rs es t a)) := by
            unfold cnts
            rw [List.getElem?_map, List.getElem?_range hl]; rfl
          simp [wipeE, ov, MC.isNon, ix_ref g0 e1, g0, g1, bI]
      · have e2 := filt_row (bI rs es t) (Bt rs es t) (fun g => by simp [bI]) r
        have e : (((r.map ov).filter fun x => !MC.isNon x).map fun x => PV.int (bI rs es t x)) = (((r.map ov).filter fun x => !MC.isNon x).map (bI rs es t)).map PV.int := by rw [List.map_map]; rfl
        rw [e]
        have sl := sum_last (h := h3) (is := ((r.map ov).filter fun x => !MC.isNon x).map (bI rs es t))
        rw [e2] at sl
        have es' : gsOf rs i = r.filterMap id := by unfold gsOf; rw [hr]; rfl
        have lt : (List.take i (cnts rs es (t + 1))).length < LIM := by
          rw [List.length_take]
          exact Nat.lt_of_le_of_lt (Nat.min_le_left _ _) (Nat.lt_of_lt_of_le (show i < 1000 by omega) (by decide))
        have nx : (cnts rs es (t + 1)).take (i + 1) = (cnts rs es (t + 1)).take i ++ [.int ((List.map (Bt rs es t) (List.filterMap id r)).sum : Nat)] := by
          rw [List.take_add_one]
          refine congrArg (List.take i (cnts rs es (t + 1)) ++ ·) ?_
          unfold cnts
          rw [List.getElem?_map, List.getElem?_range hi]
          show [PV.int (Bt rs es (t + 1) i)] = _
          unfold Bt
          rw [es']
        simp only [List.map_map] at sl
        have ap : ∀ v, oAppend (h3 ++ [PO.lst (List.map (PV.int ∘ bI rs es t) (List.filter (fun x => !MC.isNon x) (List.map ov r)))]) [.ref 1, v] = _ := fun v => app_c (get_app g1) lt
        have l1 : 1 < h3.length := (List.getElem?_eq_some_iff.mp g1).1
        simp [sl, ap, nx, l1, g0, List.getElem?_append_left, show 0 < h3.length by omega]
        exact (List.getElem?_eq_some_iff.mp g0).2
    · subst ee
      simp
      refine ⟨h0, ?_⟩
      rw [h1, List.take_of_length_le]
      simp [cnts, rowsV_len]
  obtain ⟨v, g, e, rfl, g0, g1⟩ := w
  exact call_1n (i := 1) (by unfold refsVs refsVs; rw [refs_no _ nm]; simp [refsV, refsVs]) (as := [mk L rs es, .ref 0]) (by unfold renVs renVs; rw [ren_no _ _ nm]; simp [renV, idx_hd, renVs]) hj (cnts_noref t) e (by decide) g0 g1 (cnts_noref (t + 1))

theorem n8 (o : TO L rs es) : 1 ≤ rs.length ∧ rs.length ≤ 8 := by
  have h1 := o.n1
  have h8 := o.n8
  rw [rowsV_len] at h1 h8
  exact ⟨h1, h8⟩
def lls (rs : List (List (Option Nat))) (es : List Nat) (n : Nat) : List (List PV) := (List.range n).map (cnts rs es)
/-- the list of lists that grows -/
def AC (rs : List (List (Option Nat))) (es : List Nat) (i : Nat) (h : PH) : Prop := ∃ js : List Nat, h[1]? = some (.lst (js.map PV.ref)) ∧ (1 :: js).Nodup ∧ js.length = i + 1 ∧ ∀ (t j : Nat), js[t]? = some j → h[j]? = some (.lst (cnts rs es t))
theorem AC.more {i : Nat} {h : PH} (hi : i < 300) : AC rs es i h → ∃ j, h[j]? = some (.lst (cnts rs es i)) ∧ isTy h 1 (.ref 1) = true ∧ opIx h (.ref 1) (.int (-1)) = .ok (.ref j) h ∧ ∃ h', oAppend (h ++ [PO.lst (cnts rs es (i + 1))]) [.ref 1, .ref h.length] = .ok .non h' ∧ AC rs es (i + 1) h' := by
  intro ⟨js, h1, nd, lj, hj⟩
  have nn := List.nodup_cons.mp nd
  obtain ⟨j, ej⟩ : ∃ j, js[i]? = some j := ⟨_, List.getElem?_eq_getElem (by omega)⟩
  have sp : js = js.take i ++ [j] := by
    have a : js.take (i + 1) = js := List.take_of_length_le (by omega)
    rw [List.take_add_one, ej] at a
    exact a.symm
  have spm : js.map PV.ref = (js.take i).map PV.ref ++ [.ref j] := by
    have := congrArg (List.map PV.ref) sp
    rw [List.map_append] at this
    exact this
  have l1 := (List.getElem?_eq_some_iff.mp h1).1
  refine ⟨j, hj i j ej, ty_lst h1, ix_last (xs := (js.take i).map PV.ref) (by rw [h1, spm]), _, app_c (get_app h1) (by rw [List.length_map]; exact Nat.lt_of_le_of_lt (show js.length ≤ 301 by omega) (by decide)), js ++ [h.length], ?_, ?_, by simp [lj], fun t k e => ?_⟩
  · rw [List.getElem?_set_self (by rw [List.length_append]; omega)]; simp
  · have lt : ∀ k ∈ js, k < h.length := fun k hk => by
      obtain ⟨t, et⟩ := List.mem_iff_getElem?.mp hk
      exact (List.getElem?_eq_some_iff.mp (hj t k et)).1
    refine List.nodup_cons.mpr ⟨?_, ?_⟩
    · intro q
      rcases List.mem_append.mp q with q | q
      · exact nn.1 q
      · have := List.mem_singleton.mp q
        omega
    · refine List.nodup_append.mpr ⟨nn.2, by simp, fun a ha b hb q => ?_⟩
      have := lt a ha
      rw [List.mem_singleton.mp hb] at q
      omega
  · have ne : ∀ k ∈ js, 1 ≠ k := fun k hk q => nn.1 (q ▸ hk)
    by_cases ht : t < js.length
    · rw [List.getElem?_append_left ht] at e
      rw [List.getElem?_set_ne (ne k (List.mem_of_getElem? e))]
      exact get_app (hj t k e)
    · rw [List.getElem?_append_right (by omega)] at e
      have : t - js.length = 0 := by
        rcases Nat.eq_zero_or_pos (t - js.length) with z | z
        · exact z
        · rw [List.getElem?_eq_none (by simp; omega)] at e; cases e
      rw [this] at e
      have e : h.length = k := by simpa using e
      subst e
      rw [List.getElem?_set_ne (by omega), show t = i + 1 by omega]
      simp
theorem all_counts_w (o : TO L rs es) (n : Nat) (hn : n ≤ 300) : Ws (m_all_counts [mk L rs es, .int n] []) fun v g => LL g v (lls rs es (n + 1)) := by
  unfold m_all_counts
  simp [b_all_counts, end_counts_c o, LIM]
  simp [inR_small (i := (n : Int)) (by omega) (by omega)]
  refine forB (fun i e h => ∃ x, e = [some (mk L rs es), some (.int n), some (.ref 1), x] ∧ AC rs es i h)
    ⟨_, rfl, [0], rfl, by decide, rfl, fun t j e => ?_⟩ (fun _ _ _ _ => rfl) (fun i x env h hx ⟨y, ee, ac⟩ => ?_) fun env h ⟨y, ee, js, h1, nd, lj, hj⟩ => ?_
  · match t with
    | 0 => cases e; rfl
    | t + 1 => simp at e
  · subst ee
    have hi := (at_seqI hx).1
    obtain ⟨j, hj, ty, ex, h', ap, ac'⟩ := ac.more (by omega)
    have cb := counts_before_c o hj
    simp [ty, ex, cb, ap, ac']
  · subst ee
    rw [len_seqI] at lj
    simp
    refine ⟨1, js, rfl, h1, nd, by simp [lls, lj], fun t j e => ⟨cnts rs es t, ?_, hj t j e, cnts_noref t⟩⟩
    have := (List.getElem?_eq_some_iff.mp e).1
    unfold lls
    rw [List.getElem?_map, List.getElem?_range (by omega)]; rfl
theorem all_counts_c (o : TO L rs es) (n : Nat) (hn : n ≤ 300) (h : PH) : ∃ h', callG takeBack m_all_counts [mk L rs es, .int n] h = .ok (.ref h.length) (h ++ h') ∧ LL (h ++ h') (.ref h.length) (lls rs es (n + 1)) := by
  have nm : noRef (mk L rs es) = true := mach_noref o
  obtain ⟨v, g, e, hl⟩ := all_counts_w o n hn
  exact call_ll (by simp [noRefs, nm, noRef]) e hl (by simp [lls]; omega)
theorem _root_.MC.LL.two {h : PH} {v : PV} {zss : List (List PV)} (l : LL h v zss) {t k : Nat} {zs : List PV} {z : PV} (e : zss[t]? = some zs) (e2 : zs[k]? = some z) : ∃ j, opIx h v (.int t) = .ok (.ref j) h ∧ opIx h (.ref j) (.int k) = .ok z h := by
  obtain ⟨i, js, rfl, e0, nd, hlen, he⟩ := l
  have : t < js.length := by rw [hlen]; exact (List.getElem?_eq_some_iff.mp e).1
  obtain ⟨zs', q1, q2, q3⟩ := he t js[t] (List.getElem?_eq_getElem this)
  rw [e] at q1
  cases q1
  exact ⟨js[t], ix_ref e0 (by rw [List.getElem?_map, List.getElem?_eq_getElem this]; rfl), ix_ref q2 e2⟩
theorem lls_at {n t : Nat} (h : t < n) : (lls rs es n)[t]? = some (cnts rs es t) := by
  unfold lls
  rw [List.getElem?_map, List.getElem?_range h]; rfl
theorem cnts_at {t k : Nat} (h : k < rs.length) : (cnts rs es t)[k]? = some (.int (Bt rs es t k)) := by
  unfold cnts
  rw [List.getElem?_map, List.getElem?_range h]; rfl
theorem count_of_c (o : TO L rs es) (n : Nat) (hn : n ≤ 300) (h : PH) : callG takeBack m_count_of [mk L rs es, .int n] h = .ok (.int (Bt rs es n 0)) h := by
  have nm : noRef (mk L rs es) = true := mach_noref o
  refine call_pureW (by simp [noRefs, nm, noRef]) ?_ rfl
  obtain ⟨h', e, l⟩ := all_counts_c o n hn []
  obtain ⟨j, x1, x2⟩ := l.two (t := n) (k := 0) (lls_at (by omega)) (cnts_at (n8 o).1)
  have x2 : opIx ([] ++ h') (.ref j) (.int 0) = _ := x2
  unfold m_count_of
  simp [b_count_of]
  rw [e]
  simp only [bind_ok]
  simp
  have x1 : opIx h' (.ref 0) (.int n) = .ok (.ref j) h' := x1
  have x2 : opIx h' (.ref j) (.int 0) = _ := x2
  simp [x1, x2]
end
end MM

end
section
set_option maxRecDepth 100000
namespace MM
open PySem L2 MC
end MM

end
section
set_option maxRecDepth 100000
set_option maxHeartbeats 4000000
namespace MM
open PySem L2 MC
def dg (n : Int) (v : PV) : Prop := ∃ d, v = .int d ∧ 0 ≤ d ∧ d < n
/-- a plan: letters, rows, ends -/
def plnV (L : Nat) (rows : List PV) (is : List Int) : PV := .tup [.int L, .tup rows, .tup (is.map PV.int)]
def pl (L : Nat) (rs : List (List (Option Nat))) (es : List Nat) : PV := plnV L (rowsV rs) (enI es)
theorem row_of {ys : List PV} {n : Nat} (h : ∀ y ∈ ys, gl n y) : ∃ r : List (Option Nat), ys = r.map ov := by
  induction ys with
  | nil => exact ⟨[], rfl⟩
  | cons y ys ih =>
    obtain ⟨r, e⟩ := ih fun x hx => h x (List.mem_cons_of_mem _ hx)
    rcases h y List.mem_cons_self with q | ⟨i, q, i0, _⟩
    · exact ⟨none :: r, by rw [List.map_cons, ← e, q]; rfl⟩
    · refine ⟨some i.toNat :: r, ?_⟩
      rw [List.map_cons, ← e, q]
      show _ = PV.int (i.toNat : Nat) :: ys
      rw [show ((i.toNat : Nat) : Int) = i by omega]
/-- rows of n stands told as data -/
theorem typed_of {L : Nat} {rows : List PV} {is : List Int} (ok : MachOk L rows is) : ∃ rs es, rows = rowsV rs ∧ is = enI es ∧ TO L rs es := by
  have hr : ∀ rows : List PV, (∀ r ∈ rows, ∃ n, rowOk n L r ∧ n = (rows.length : Int) ∨ ∃ n : Nat, rowOk (n : Int) L r) → True := fun _ _ => trivial
  have h1 : ∀ (n : Nat) (rows : List PV), (∀ r ∈ rows, rowOk (n : Int) L r) → ∃ rs, rows = rowsV rs := by
    intro n rows
    induction rows with
    | nil => exact fun _ => ⟨[], rfl⟩
    | cons r rows ih =>
      intro h
      obtain ⟨rs, e⟩ := ih fun x hx => h x (List.mem_cons_of_mem _ hx)
      obtain ⟨gs, e1, _, hg⟩ := h r List.mem_cons_self
      obtain ⟨t, e2⟩ := row_of hg
      exact ⟨t :: rs, by rw [e1, e2, e]; rfl⟩
  have h2 : ∀ is : List Int, (∀ i ∈ is, 0 ≤ i) → ∃ es, is = enI es := by
    intro is
    induction is with
    | nil => exact fun _ => ⟨[], rfl⟩
    | cons i is ih =>
      intro h
      obtain ⟨es, e⟩ := ih fun x hx => h x (List.mem_cons_of_mem _ hx)
      have := h i List.mem_cons_self
      refine ⟨i.toNat :: es, ?_⟩
      unfold enI
      rw [List.map_cons, show ((i.toNat : Nat) : Int) = i by omega, e]; rfl
  obtain ⟨rs, e1⟩ := h1 rows.length rows ok.rws
  obtain ⟨es, e2⟩ := h2 is fun i hi => (ok.ends.2 i hi).1
  exact ⟨rs, es, e1, e2, by unfold TO; rw [← e1, ← e2]; exact ok⟩
end MM

end
section
set_option maxRecDepth 100000
set_option maxHeartbeats 4000000
namespace MM
open PySem L2 MC
end MM

end
section
set_option maxRecDepth 100000
set_option maxHeartbeats 4000000
namespace MM
open PySem L2 MC
theorem set_c {h : PH} {n : Nat} {xs : List PV} {i : Nat} {v : PV} (e : h[n]? = some (.lst xs)) (hi : i < xs.length) : oSetIx h (.ref n) (.int i) v = .ok () (h.set n (.lst (xs.set i v))) := by
  have z : ixN xs.length (i : Int) = some i := by unfold ixN; simp [hi]
  simp only [oSetIx, e, z]
section
variable {L : Nat} {rs : List (List (Option Nat))} {es : List Nat}
theorem pl0 (h : PH) : opIx h (pl L rs es) (.int 0) = .ok (.int L) h := ix_tup (i := 0) rfl
theorem pl1 (h : PH) : opIx h (pl L rs es) (.int 1) = .ok (.tup (rowsV rs)) h := ix_tup (i := 1) rfl
theorem pl2 (h : PH) : opIx h (pl L rs es) (.int 2) = .ok (.tup ((enI es).map PV.int)) h := ix_tup (i := 2) rfl
theorem pl_noref (o : TO L rs es) : noRef (pl L rs es) = true := by
  simp [pl, plnV, noRef, noRefs, rows_noref o.rws, ints_noref]
end
end MM

end
section
set_option maxRecDepth 100000
set_option maxHeartbeats 4000000
namespace MC
open PySem L2
theorem cut_to {α : Type} (xs : List α) (j : Nat) : cutG xs none (some (j : Int)) = xs.take j := by
  unfold cutG
  rw [show HT.sIx xs.length 0 none = 0 from rfl, HT.sIx_nat]
  simp only [List.drop_zero, Nat.sub_zero]
  rw [← List.take_eq_take_min]
theorem len_scr {xs : List PV} {h : PH} : bLen h [.scr xs] = .ok (.int xs.length) h := by simp only [bLen, seqP]
theorem ix_scr {h : PH} {xs : List PV} {i : Nat} {x : PV} (e : xs[i]? = some x) : opIx h (.scr xs) (.int i) = .ok x h := by
  have z : L2.atI xs (i : Int) = some x := atI_nat e
  simp only [opIx, ixL, z]
theorem sl_scr {h : PH} {xs : List PV} {lo hi : Option Int} : opSl h (.scr xs) lo hi = .ok (.ref h.length) (h ++ [.lst (cutG xs lo hi)]) := by simp only [opSl]
end MC
namespace MM
open PySem L2 MC
theorem m61 (k : Int) (h : PH) : opMul h (.int k) (.int 61) = .ok (.int (k * 61)) h := v_mul (.inr (by decide))
/-- what all laws of this family begin with -/
theorem cases_five (ns : List Int) : ∃ n : Nat, (if 2 < (if (5 : Int) < (ns.length : Int) then 5 else (ns.length : Int)) then (if (5 : Int) < (ns.length : Int) then 5 else (ns.length : Int)) else 2) = (n : Int) ∧ n ≤ 5 := by
  by_cases h5 : (5 : Int) < (ns.length : Int)
  · simp only [h5, if_true]; exact ⟨5, rfl, by omega⟩
  · simp only [h5, if_false]
    by_cases h2 : (2 : Int) < (ns.length : Int)
    · simp only [h2, if_true]; exact ⟨ns.length, rfl, by omega⟩
    · simp only [h2, if_false]; exact ⟨2, rfl, by omega⟩
section
variable {L : Nat} {rs : List (List (Option Nat))} {es : List Nat}
theorem check_length_c (n : Nat) (hn : n ≤ 300) (h : PH) : callG takeBack m_check_length [.int n] h = .ok .non h := by
  refine call_pureW rfl ?_ rfl
  unfold m_check_length
  simp [b_check_length, between_c, show (n : Int) ≤ 300 by omega]
end
end MM

end
section
set_option maxRecDepth 100000
set_option maxHeartbeats 4000000
namespace MC
open PySem L2
end MC
namespace MM
open PySem L2 MC
section
variable {L : Nat} {rs : List (List (Option Nat))} {es : List Nat} {K : Nat}
end
end MM

end
section
set_option maxRecDepth 100000
set_option maxHeartbeats 4000000
namespace MM
open PySem L2 MC
theorem pinch_ok (n : Int) (h0 : 0 < n) (h1 : n < B30) (a b c : Int) : ∃ d a' b' c', 0 ≤ d ∧ d < n ∧ m__law_pinch [.ref 0, .int n] [skd a b c] = .ok (.int d) [skd a' b' c'] := by
  have m1 : ∀ h (i : Int), opMul h (.int i) (.int 53047) = .ok (.int (i * 53047)) h := fun h i => v_mul (.inr (by decide))
  have m2 : ∀ h (i : Int), opMul h (.int i) (.int 80021) = .ok (.int (i * 80021)) h := fun h i => v_mul (.inr (by decide))
  have m3 : ∀ h (i : Int), opMul h (.int i) (.int 83) = .ok (.int (i * 83)) h := fun h i => v_mul (.inr (by decide))
  have ix0 : ∀ (a b c : Int), opIx [skd a b c] (.ref 0) (.int 0) = .ok (.int a) [skd a b c] := fun _ _ _ => rfl
  have ix1 : ∀ (a b c : Int), opIx [skd a b c] (.ref 0) (.int 1) = .ok (.int b) [skd a b c] := fun _ _ _ => rfl
  have ix2 : ∀ (a b c : Int), opIx [skd a b c] (.ref 0) (.int 2) = .ok (.int c) [skd a b c] := fun _ _ _ => rfl
  have p0 : ∀ (a b c x : Int), oSetIx [skd a b c] (.ref 0) (.int 0) (.int x) = .ok () [skd x b c] := fun _ _ _ _ => rfl
  have p1 : ∀ (a b c x : Int), oSetIx [skd a b c] (.ref 0) (.int 1) (.int x) = .ok () [skd a x c] := fun _ _ _ _ => rfl
  have p2 : ∀ (a b c x : Int), oSetIx [skd a b c] (.ref 0) (.int 2) (.int x) = .ok () [skd a b x] := fun _ _ _ _ => rfl
  by_cases hb : 0 < b
  · refine ⟨b % n, a + 4, b / n, c, Int.emod_nonneg _ (by omega), Int.emod_lt_of_pos _ h0, ?_⟩
    unfold m__law_pinch
    simp [b__law_pinch, ix0, ix1, p0, p1, hb, h0, h1]
  · refine ⟨((c * 53047 + (a + 4) * 80021 + c / 14009 * 83) % 1999999417 / 389) % n, a + 4, b, (c * 53047 + (a + 4) * 80021 + c / 14009 * 83) % 1999999417, Int.emod_nonneg _ (by omega), Int.emod_lt_of_pos _ h0, ?_⟩
    unfold m__law_pinch
    simp [b__law_pinch, ix0, ix1, ix2, p0, p1, p2, m1, m2, m3, hb, h0, h1]
theorem pinch_f {n : Int} (h0 : 0 < n) (h1 : n < B30) : Fs m__law_pinch [.int n] (dg n) := fun a b c => by
  obtain ⟨d, a', b', c', d0, d1, e⟩ := pinch_ok n h0 h1 a b c
  exact ⟨_, _, e, ⟨a', b', c', rfl⟩, rfl, d, rfl, d0, d1⟩
theorem pinch_u {α : Type} {n : Int} {h : PH} {j : Nat} {k : PV → PH → R α} {Q : α → PH → Prop} (h0 : 0 < n) (h1 : n < B30) (d : Dr j h) (q : ∀ (i : Int) h', 0 ≤ i → i < n → Dr j h' → But j h h' → Ws (k (.int i) h') Q) : Ws ((callG takeBack m__law_pinch [.ref j, .int n] h).bind k) Q :=
  (pinch_f h0 h1).use rfl d fun v h' _ ⟨i, e, i0, i1⟩ d' b => by subst e; exact q i h' i0 i1 d' b
theorem b30 {n : Int} (h : n ≤ 1000) : n < B30 := by unfold B30; omega
theorem nat_of {i : Int} {n : Nat} (h0 : 0 ≤ i) (h1 : i < n) : ∃ j : Nat, i = j ∧ j < n := ⟨i.toNat, by omega, by omega⟩
def fgl (n : Int) (x : PV) : PV := match x with
  | .int g => bif decide (g < n) then .int g else .non
  | _ => .non
theorem fgl_ok {n m : Int} {x : PV} (h : dg m x) : gl n (fgl n x) := by
  obtain ⟨d, rfl, d0, _⟩ := h
  unfold fgl
  by_cases e : d < n
  · simp only [e, decide_true, cond_true]; exact .inr ⟨d, rfl, d0, e⟩
  · simp only [e, decide_false, cond_false]; exact .inl rfl
theorem m73 (k : Int) (h : PH) : opMul h (.int 73) (.int k) = .ok (.int (73 * k)) h := v_mul (.inl (by decide))
theorem m2311 (k : Int) (h : PH) : opMul h (.int 2311) (.int k) = .ok (.int (2311 * k)) h := v_mul (.inl (by decide))
theorem m50021 (k : Int) (h : PH) : opMul h (.int k) (.int 50021) = .ok (.int (k * 50021)) h := v_mul (.inr (by decide))
theorem pow14 (h : PH) : opPow h (.int 10) (.int 14) = .ok (.int 100000000000000) h := by rfl
theorem sack_w (ns : List Int) (k : Nat) (hk : k ≤ 4) : Ws (m__law_sack [.scr (ns.map PV.int), .int k] []) fun v g => ∃ i a b c, v = .ref i ∧ g[i]? = some (skd a b c) := by
  unfold m__law_sack
  simp [b__law_sack, len_scr]
  refine Ws.bind (P := fun v g => g = [] ∧ ∃ o : Int, v = .int o) ?_ fun v g ⟨eg, o, ev⟩ => ?_
  · by_cases hl : k < ns.length
    · have e : ∀ h, opIx h (.scr (ns.map PV.int)) (.int (k : Int)) = .ok (.int ns[k]) h := fun h => ix_scr (by rw [List.getElem?_map, List.getElem?_eq_getElem hl]; rfl)
      simp [hl, e]
    · simp [hl, m73]
  · subst eg; subst ev
    have c14 : cutG (ns.map PV.int) none (some 14) = (ns.take 14).map PV.int := by
      have := cut_to (ns.map PV.int) 14
      rw [List.map_take]
      exact this
    simp [m2311, sl_scr, c14]
    simp only [← List.map_take]
    rw [src_ref (h := [PO.lst (List.map PV.int (ns.take 14))]) (n := 0) rfl]
    simp
    simp only [← List.map_take]
    refine forB (fun t e h => ∃ m x, e = [some (.scr (ns.map PV.int)), some (.int k), some (.int o), some (.int m), x] ∧ h = [PO.lst (List.map PV.int (ns.take 14))]) ⟨_, _, rfl, rfl⟩ (fun _ _ _ ⟨_, _, _, q⟩ => by rw [q]; exact watch_mk rfl) (fun t x env h hx ⟨m, y, ee, eh⟩ => ?_) fun env h ⟨m, y, ee, eh⟩ => ?_
    · subst ee; subst eh
      rw [List.getElem?_map] at hx
      obtain ⟨z, _, rfl⟩ := Option.map_eq_some_iff.mp hx
      simp [m50021]
    · subst ee; subst eh
      simp [pow14, m61]
      by_cases h1 : o < 0
      · simp [h1, LIM, pow14, m61]
        exact ⟨_, _, _, rfl⟩
      · simp [h1]
        by_cases h2 : 100000000000000 ≤ o
        · simp [h2, LIM, pow14, m61]
          exact ⟨_, _, _, rfl⟩
        · simp [h2, LIM, pow14, m61]
          exact ⟨_, _, _, rfl⟩
theorem sack_c (ns : List Int) (k : Nat) (hk : k ≤ 4) (h : PH) : ∃ a b c, callG takeBack m__law_sack [.scr (ns.map PV.int), .int k] h = .ok (.ref h.length) (h ++ [skd a b c]) := by
  obtain ⟨v, g, e, i, a, b, c, rfl, hg⟩ := sack_w ns k hk
  exact ⟨a, b, c, call_newl (ys := [.int a, .int b, .int c]) (by simp [noRefs, noRef, ints_noref]) e hg (by rfl)⟩
end MM

end
section
set_option maxRecDepth 100000
set_option maxHeartbeats 4000000
namespace MC
open PySem L2
section
variable {m : MF} {xs as : List PV} {h g : PH} {v : PV}
end
end MC
namespace MM
open PySem L2 MC
def smp : PV → Bool
  | .non => true
  | .bl _ => true
  | .int _ => true
  | .str _ => true
  | .tup xs => noRefs xs
  | _ => false
theorem smp_no {x : PV} (h : smp x = true) : noRef x = true := by
  cases x <;> first | rfl | (unfold smp at h; unfold noRef; exact h) | cases h
def okA : PV → Bool
  | .int i => decide (0 ≤ i) && decide (i ≤ 300)
  | _ => false
section
variable {L : Nat} {rs : List (List (Option Nat))} {es : List Nat}
end
end MM

end
section
set_option maxRecDepth 100000
set_option maxHeartbeats 4000000
namespace MC
open PySem L2

mutual
theorem ren_tot {f : Nat → Option Nat} : ∀ x : PV, (∀ n ∈ refsV x, ∃ m, f n = some m) → ∃ y, renV f x = some y
  | .non, _ | .bl _, _ | .int _, _ | .str _, _ | .gl _, _ => by unfold renV; exact ⟨_, rfl⟩
  | .tup xs, h => by
    obtain ⟨ys, e⟩ := rens_tot xs (by unfold refsV at h; exact h)
    unfold renV; rw [e]; exact ⟨_, rfl⟩
  | .scr xs, h => by
    obtain ⟨ys, e⟩ := rens_tot xs (by unfold refsV at h; exact h)
    unfold renV; rw [e]; exact ⟨_, rfl⟩
  | .rdic xs, h => by
    obtain ⟨ys, e⟩ := renk_tot xs (by unfold refsV at h; exact h)
    unfold renV; rw [e]; exact ⟨_, rfl⟩
  | .ins c fs, h => by
    obtain ⟨ys, e⟩ := renf_tot fs (by unfold refsV at h; exact h)
    unfold renV; rw [e]; exact ⟨_, rfl⟩
  | .ref n, h => by
    obtain ⟨m, e⟩ := h n (by unfold refsV; exact List.mem_singleton.mpr rfl)
    unfold renV; rw [e]; exact ⟨_, rfl⟩
theorem rens_tot {f : Nat → Option Nat} : ∀ x : List PV, (∀ n ∈ refsVs x, ∃ m, f n = some m) → ∃ y, renVs f x = some y
  | [], _ => by unfold renVs; exact ⟨_, rfl⟩
  | x :: xs, h => by
    unfold refsVs at h
    obtain ⟨y, e1⟩ := ren_tot x fun n hn => h n (List.mem_append_left _ hn)
    obtain ⟨ys, e2⟩ := rens_tot xs fun n hn => h n (List.mem_append_right _ hn)
    unfold renVs; rw [e1, e2]; exact ⟨_, rfl⟩
theorem renk_tot {f : Nat → Option Nat} : ∀ x : List (PV × PV), (∀ n ∈ refsK x, ∃ m, f n = some m) → ∃ y, renK f x = some y
  | [], _ => by unfold renK; exact ⟨_, rfl⟩
  | (k, x) :: xs, h => by
    unfold refsK at h
    obtain ⟨y, e1⟩ := ren_tot x fun n hn => h n (List.mem_append_left _ hn)
    obtain ⟨ys, e2⟩ := renk_tot xs fun n hn => h n (List.mem_append_right _ hn)
    unfold renK; rw [e1, e2]; exact ⟨_, rfl⟩
theorem renf_tot {f : Nat → Option Nat} : ∀ x : List (Nm × PV), (∀ n ∈ refsF x, ∃ m, f n = some m) → ∃ y, renF f x = some y
  | [], _ => by unfold renF; exact ⟨_, rfl⟩
  | (k, x) :: xs, h => by
    unfold refsF at h
    obtain ⟨y, e1⟩ := ren_tot x fun n hn => h n (List.mem_append_left _ hn)
    obtain ⟨ys, e2⟩ := renf_tot xs fun n hn => h n (List.mem_append_right _ hn)
    unfold renF; rw [e1, e2]; exact ⟨_, rfl⟩
end
mutual
/-- what was renamed leads to renamed objects, comes back, and leads to as many -/
theorem ren_back {f b : Nat → Option Nat} (hb : ∀ n m, f n = some m → b m = some n) : ∀ (x y : PV), renV f x = some y → renV b y = some x ∧ (∀ m ∈ refsV y, ∃ n ∈ refsV x, f n = some m) ∧ (refsV y).length = (refsV x).length
  | .non, y, e | .bl _, y, e | .int _, y, e | .str _, y, e | .gl _, y, e => by unfold renV at e; cases e; exact ⟨by unfold renV; rfl, fun m hm => (by unfold refsV at hm; cases hm), rfl⟩
  | .tup xs, y, e => by
    unfold renV at e
    cases q : renVs f xs with
    | none => rw [q] at e; cases e
    | some ys =>
      rw [q] at e; cases e
      obtain ⟨a, c, d⟩ := rens_back hb xs ys q
      exact ⟨by unfold renV; rw [a], by unfold refsV; exact c, by unfold refsV; exact d⟩
  | .scr xs, y, e => by
    unfold renV at e
    cases q : renVs f xs with
    | none => rw [q] at e; cases e
    | some ys =>
      rw [q] at e; cases e
      obtain ⟨a, c, d⟩ := rens_back hb xs ys q
      exact ⟨by unfold renV; rw [a], by unfold refsV; exact c, by unfold refsV; exact d⟩
  | .rdic xs, y, e => by
    unfold renV at e
    cases q : renK f xs with
    | none => rw [q] at e; cases e
    | some ys =>
      rw [q] at e; cases e
      obtain ⟨a, c, d⟩ := renk_back hb xs ys q
      exact ⟨by unfold renV; rw [a], by unfold refsV; exact c, by unfold refsV; exact d⟩
  | .ins k xs, y, e => by
    unfold renV at e
    cases q : renF f xs with
    | none => rw [q] at e; cases e
    | some ys =>
      rw [q] at e; cases e
      obtain ⟨a, c, d⟩ := renf_back hb xs ys q
      exact ⟨by unfold renV; rw [a], by unfold refsV; exact c, by unfold refsV; exact d⟩
  | .ref n, y, e => by
    unfold renV at e
    cases q : f n with
    | none => rw [q] at e; cases e
    | some m =>
      rw [q] at e; cases e
      refine ⟨by unfold renV; rw [hb n m q], fun k hk => ?_, by unfold refsV; rfl⟩
      unfold refsV at hk ⊢
      rw [List.mem_singleton.mp hk]
      exact ⟨n, List.mem_singleton.mpr rfl, q⟩
theorem rens_back {f b : Nat → Option Nat} (hb : ∀ n m, f n = some m → b m = some n) : ∀ (x y : List PV), renVs f x = some y → renVs b y = some x ∧ (∀ m ∈ refsVs y, ∃ n ∈ refsVs x, f n = some m) ∧ (refsVs y).length = (refsVs x).length
  | [], y, e => by unfold renVs at e; cases e; exact ⟨by unfold renVs; rfl, fun m hm => (by unfold refsVs at hm; cases hm), rfl⟩
  | x :: xs, y, e => by
    unfold renVs at e
    cases q1 : renV f x with
    | none => rw [q1] at e; cases e
    | some y1 =>
      cases q2 : renVs f xs with
      | none => rw [q1, q2] at e; cases e
      | some ys =>
        rw [q1, q2] at e; cases e
        obtain ⟨a1, c1, d1⟩ := ren_back hb x y1 q1
        obtain ⟨a2, c2, d2⟩ := rens_back hb xs ys q2
        refine ⟨by unfold renVs; rw [a1, a2], fun m hm => ?_, by unfold refsVs; rw [List.length_append, List.length_append, d1, d2]⟩
        unfold refsVs at hm ⊢
        rcases List.mem_append.mp hm with z | z
        · obtain ⟨n, h1, h2⟩ := c1 m z; exact ⟨n, List.mem_append_left _ h1, h2⟩
        · obtain ⟨n, h1, h2⟩ := c2 m z; exact ⟨n, List.mem_append_right _ h1, h2⟩
theorem renk_back {f b : Nat → Option Nat} (hb : ∀ n m, f n = some m → b m = some n) : ∀ (x y : List (PV × PV)), renK f x = some y → renK b y = some x ∧ (∀ m ∈ refsK y, ∃ n ∈ refsK x, f n = some m) ∧ (refsK y).length = (refsK x).length
  | [], y, e => by unfold renK at e; cases e; exact ⟨by unfold renK; rfl, fun m hm => (by unfold refsK at hm; cases hm), rfl⟩
  | (k, x) :: xs, y, e => by
    unfold renK at e
    cases q1 : renV f x with
    | none => rw [q1] at e; cases e
    | some y1 =>
      cases q2 : renK f xs with
      | none => rw [q1, q2] at e; cases e
      | some ys =>
        rw [q1, q2] at e; cases e
        obtain ⟨a1, c1, d1⟩ := ren_back hb x y1 q1
        obtain ⟨a2, c2, d2⟩ := renk_back hb xs ys q2
        refine ⟨by unfold renK; rw [a1, a2], fun m hm => ?_, by unfold refsK; rw [List.length_append, List.length_append, d1, d2]⟩
        unfold refsK at hm ⊢
        rcases List.mem_append.mp hm with z | z
        · obtain ⟨n, h1, h2⟩ := c1 m z; exact ⟨n, List.mem_append_left _ h1, h2⟩
        · obtain ⟨n, h1, h2⟩ := c2 m z; exact ⟨n, List.mem_append_right _ h1, h2⟩
theorem renf_back {f b : Nat → Option Nat} (hb : ∀ n m, f n = some m → b m = some n) : ∀ (x y : List (Nm × PV)), renF f x = some y → renF b y = some x ∧ (∀ m ∈ refsF y, ∃ n ∈ refsF x, f n = some m) ∧ (refsF y).length = (refsF x).length
  | [], y, e => by unfold renF at e; cases e; exact ⟨by unfold renF; rfl, fun m hm => (by unfold refsF at hm; cases hm), rfl⟩
  | (k, x) :: xs, y, e => by
    unfold renF at e
    cases q1 : renV f x with
    | none => rw [q1] at e; cases e
    | some y1 =>
      cases q2 : renF f xs with
      | none => rw [q1, q2] at e; cases e
      | some ys =>
        rw [q1, q2] at e; cases e
        obtain ⟨a1, c1, d1⟩ := ren_back hb x y1 q1
        obtain ⟨a2, c2, d2⟩ := renf_back hb xs ys q2
        refine ⟨by unfold renF; rw [a1, a2], fun m hm => ?_, by unfold refsF; rw [List.length_append, List.length_append, d1, d2]⟩
        unfold refsF at hm ⊢
        rcases List.mem_append.mp hm with z | z
        · obtain ⟨n, h1, h2⟩ := c1 m z; exact ⟨n, List.mem_append_left _ h1, h2⟩
        · obtain ⟨n, h1, h2⟩ := c2 m z; exact ⟨n, List.mem_append_right _ h1, h2⟩
end
theorem sum_sub {F : Nat → Nat} : ∀ {fp S : List Nat}, fp.Nodup → (∀ n ∈ fp, n ∈ S) → (fp.map F).sum ≤ (S.map F).sum
  | [], _, _, _ => Nat.zero_le _
  | n :: fp, S, nd, hs => by
    have nd2 := List.nodup_cons.mp nd
    have hn := hs n List.mem_cons_self
    have p := List.perm_cons_erase hn
    have e : (S.map F).sum = F n + ((S.erase n).map F).sum := by
      have := (p.map F).sum_nat
      simpa using this
    have ih := sum_sub (F := F) (fp := fp) (S := S.erase n) nd2.2 fun m hm => by
      have hne : m ≠ n := fun e => nd2.1 (e ▸ hm)
      exact (List.mem_erase_of_ne hne).mpr (hs m (List.mem_cons_of_mem _ hm))
    rw [List.map_cons, List.sum_cons, e]
    omega
theorem sum_one : ∀ l : List Nat, (l.map fun _ => 1).sum = l.length
  | [] => rfl
  | _ :: l => by rw [List.map_cons, List.sum_cons, sum_one l, List.length_cons]; omega
theorem len_sub {fp S : List Nat} (nd : fp.Nodup) (hs : ∀ n ∈ fp, n ∈ S) : fp.length ≤ S.length := by
  have := sum_sub (F := fun _ => 1) nd hs
  rwa [sum_one, sum_one] at this
end MC

end
section
set_option maxRecDepth 100000
set_option maxHeartbeats 4000000
namespace MC
open PySem L2
end MC
namespace MM
open PySem L2 MC
end MM

end
section
set_option maxRecDepth 100000
set_option maxHeartbeats 4000000
namespace MC
open PySem L2
/-- an object that leads to no other -/
def Flat (o : PO) : Prop := refsO o = [] ∧ ∀ f, renO f o = some o
theorem flat_l {ys : List PV} (hy : noRefs ys = true) : Flat (.lst ys) := flatO_of hy
section
variable {m : MF} {xs as : List PV} {h g hc : PH} {u v : PV}
end
end MC

end
section
set_option maxRecDepth 100000
set_option maxHeartbeats 4000000
namespace MM
open PySem L2 MC
def letS : List Nat := [97, 98, 99, 100, 101]
def stepG (rs : List (List (Option Nat))) (k p : Nat) : Option Nat := ((((rs[k]?).getD [])[p]?).getD none)
def goalF (rs : List (List (Option Nat))) : Option Nat → List Nat → Option Nat
  | k, [] => k
  | none, _ :: _ => none
  | some k, c :: s => goalF rs (stepG rs k (c - 97)) s
theorem goalF_none (rs : List (List (Option Nat))) : ∀ s, goalF rs none s = none
  | [] => rfl
  | _ :: _ => rfl
theorem goalF_app (rs : List (List (Option Nat))) : ∀ (s t : List Nat) (k : Option Nat), goalF rs k (s ++ t) = goalF rs (goalF rs k s) t
  | [], t, k => by simp [goalF]
  | c :: s, t, none => by rw [goalF_none, goalF_none, goalF_none]
  | c :: s, t, some k => by
    show goalF rs (stepG rs k (c - 97)) (s ++ t) = goalF rs (goalF rs (stepG rs k (c - 97)) s) t
    exact goalF_app rs s t _
section
variable {L : Nat} {rs : List (List (Option Nat))} {es : List Nat}
theorem stepG_lt (o : TO L rs es) {k p j : Nat} (e : stepG rs k p = some j) : j < rs.length := by
  unfold stepG at e
  cases h : rs[k]? with
  | none => rw [h] at e; simp at e
  | some r =>
    rw [h] at e
    have e : (r[p]?).getD none = some j := e
    cases h2 : r[p]? with
    | none => rw [h2] at e; cases e
    | some g =>
      rw [h2] at e
      have e : g = some j := e
      subst e
      exact (o.row h).2 j (List.mem_of_getElem? h2)
theorem goalF_lt (o : TO L rs es) : ∀ (s : List Nat) (k : Option Nat) (j : Nat), (∀ i, k = some i → i < rs.length) → goalF rs k s = some j → j < rs.length
  | [], k, j, hk, e => hk j e
  | c :: s, none, j, hk, e => by cases e
  | c :: s, some k, j, hk, e => goalF_lt o s (stepG rs k (c - 97)) j (fun i e => stepG_lt o e) e
theorem bls_of {α : Type} (f : α → Bool) : ∀ l : List α, blsP (l.map fun x => PV.bl (f x)) = some (l.map f)
  | [] => rfl
  | x :: l => by
    rw [List.map_cons, List.map_cons]
    unfold blsP
    rw [bls_of f l]
/-- whether a row of letters is a text -/
def ltE (rs : List (List (Option Nat))) (es : List Nat) (s : List Nat) : Bool := s.all (fun c => decide (c ∈ letS)) && (match goalF rs (some 0) s with
  | some j => decide (j ∈ es)
  | none => false)
/-- the version of a row of letters -/
def wd (ws : List (List Nat)) (c : Nat) : List Nat := (ws[c - 97]?).getD []
def sd (ws : List (List Nat)) (t : List Nat) : List Nat := (t.map (wd ws)).flatten
def bk (ws : List (List Nat)) : PV := .tup (ws.map PV.str)
end
end MM

end
section
set_option maxRecDepth 100000
set_option maxHeartbeats 4000000
namespace MM
open PySem L2 MC
section
variable {L : Nat} {rs : List (List (Option Nat))} {es : List Nat}
theorem goalF_in (o : TO L rs es) : ∀ (s : List Nat) (k j : Nat), goalF rs (some k) s = some j → ∀ c ∈ s, c - 97 < L
  | [], _, _, _, _, h => by cases h
  | d :: s, k, j, e, c, h => by
    have e : goalF rs (stepG rs k (d - 97)) s = some j := e
    cases g : stepG rs k (d - 97) with
    | none => rw [g, goalF_none] at e; cases e
    | some i =>
      rw [g] at e
      rcases List.mem_cons.mp h with rfl | h
      · unfold stepG at g
        cases q : rs[k]? with
        | none => rw [q] at g; simp at g
        | some r =>
          rw [q] at g
          have g : (r[c - 97]?).getD none = some i := g
          cases q2 : r[c - 97]? with
          | none => rw [q2] at g; cases g
          | some x => have := (List.getElem?_eq_some_iff.mp q2).1; rw [(o.row q).1] at this; exact this
      · exact goalF_in o s i j e c h
/-- a book of L words -/
def BkO (L : Nat) (ws : List (List Nat)) : Prop := ws.length = L ∧ ∀ w ∈ ws, w.length ≤ 6 ∧ ∀ c ∈ w, c ∈ [120, 121, 122]
theorem wd_ok {ws : List (List Nat)} (b : BkO L ws) (c : Nat) : (wd ws c).length ≤ 6 ∧ ∀ d ∈ wd ws c, d ∈ [120, 121, 122] := by
  unfold wd
  cases e : ws[c - 97]? with
  | none => exact ⟨Nat.zero_le _, fun _ h => by cases h⟩
  | some w => exact b.2 w (List.mem_of_getElem? e)
theorem sd_ok {ws : List (List Nat)} (b : BkO L ws) : ∀ s : List Nat, (sd ws s).length ≤ 6 * s.length ∧ ∀ d ∈ sd ws s, d ∈ [120, 121, 122]
  | [] => ⟨Nat.le_refl _, fun _ h => by simp [sd] at h⟩
  | c :: s => by
    obtain ⟨i1, i2⟩ := sd_ok b s
    obtain ⟨w1, w2⟩ := wd_ok b c
    have e : sd ws (c :: s) = wd ws c ++ sd ws s := by simp [sd]
    rw [e]
    refine ⟨by rw [List.length_append, List.length_cons]; omega, fun d hd => ?_⟩
    rcases List.mem_append.mp hd with q | q
    · exact w2 d q
    · exact i2 d q
end
def dsL (xs : List PV) : List PyData := (pds xs).getD []
def eqTL (xs ys : List PV) : Bool := PyData.eqv (.list (dsL xs)) (.list (dsL ys))
def gdL (xs : List PV) : Bool := (pds xs).isSome && decide (pdps xs < 19) && SeqAt.shaped (.list (dsL xs))
theorem toD_ls {h : PH} {n : Nat} {xs : List PV} (e : h[n]? = some (.lst xs)) (g : gdL xs = true) : toD h DEP (.ref n) = some (.list (dsL xs)) := by
  have z : toD h (19 + 1) (.ref n) = _ := toD.eq_def ..
  unfold gdL at g
  simp at g
  obtain ⟨⟨g1, g2⟩, _⟩ := g
  obtain ⟨ds, e1⟩ := Option.isSome_iff_exists.mp g1
  have : dsL xs = ds := by unfold dsL; rw [e1]; rfl
  rw [show DEP = 19 + 1 from rfl, z, this]
  simp only [e, mapO_pds h 19 xs ds e1 g2]; rfl
theorem eq_lls {h : PH} {n m : Nat} {xs ys : List PV} (e1 : h[n]? = some (.lst xs)) (e2 : h[m]? = some (.lst ys)) (g1 : gdL xs = true) (g2 : gdL ys = true) : opEq h (.ref n) (.ref m) = .ok (.bl (eqTL xs ys)) h := by
  have s1 : SeqAt.shaped (.list (dsL xs)) = true := by unfold gdL at g1; simp at g1; exact g1.2
  have s2 : SeqAt.shaped (.list (dsL ys)) = true := by unfold gdL at g2; simp at g2; exact g2.2
  unfold opEq by2
  rw [toD_ls e1 g1, toD_ls e2 g2]
  simp [s1, s2, eqTL]
end MM

end
section
set_option maxRecDepth 100000
set_option maxHeartbeats 4000000
namespace MM
open PySem L2 MC
end MM

end
section
set_option maxRecDepth 100000
set_option maxHeartbeats 4000000
namespace MM
open PySem L2 MC
theorem ne_of_eq {h : PH} {x y : PV} {b : Bool} (e : opEq h x y = .ok (.bl b) h) : opNe h x y = .ok (.bl (!b)) h := by
  unfold opEq by2 at e
  unfold opNe by2
  split at e
  · rename_i d1 d2 q1 q2
    cases c : (SeqAt.shaped d1 && SeqAt.shaped d2) with
    | false => rw [c] at e; cases e
    | true =>
      rw [c] at e
      simp only [cond_true] at e ⊢
      cases e
      rfl
  · cases e
end MM

end
section
set_option maxRecDepth 100000
set_option maxHeartbeats 4000000
namespace MM
open PySem L2 MC
end MM

end
section
set_option maxRecDepth 100000
set_option maxHeartbeats 4000000
namespace MM
open PySem L2 MC
theorem let_ix {g : Nat} (hg : g < 5) (h : PH) : opIx h (.str [97, 98, 99, 100, 101]) (.int g) = .ok (.str [97 + g]) h ∧ 97 + g ∈ letS := by
  rcases (show g = 0 ∨ g = 1 ∨ g = 2 ∨ g = 3 ∨ g = 4 by omega) with rfl | rfl | rfl | rfl | rfl <;> exact ⟨rfl, by decide⟩
end MM

end
section
set_option maxRecDepth 100000
set_option maxHeartbeats 4000000
namespace MM
open PySem L2 MC
section
variable {L : Nat} {rs : List (List (Option Nat))} {es : List Nat}
end
end MM

end
section
set_option maxRecDepth 100000
set_option maxHeartbeats 4000000
namespace MC
open PySem L2
end MC
namespace MM
open PySem L2 MC
section
variable {L : Nat} {rs : List (List (Option Nat))} {es : List Nat}
theorem numbered_len : ∀ (xs : List PV) (i : Nat), (MC.numbered i xs).length = xs.length
  | [], _ => rfl
  | x :: xs, i => by
    unfold MC.numbered
    rw [List.length_cons, List.length_cons, numbered_len xs]
/-- rows found by a search from k -/
def Snd (rs : List (List (Option Nat))) (k : Nat) (kvs : List (Nat × List Nat)) : Prop := ∀ p ∈ kvs, goalF rs (some k) p.2 = some p.1 ∧ (∀ c ∈ p.2, c ∈ letS) ∧ p.2.length < kvs.length
/-- the goals of a stand -/
def succ (rs : List (List (Option Nat))) (j g : Nat) : Prop := ∃ p, stepG rs j p = some g
theorem keys_len {n : Nat} {ks : List Nat} (nd : ks.Nodup) (h : ∀ j ∈ ks, j < n) : ks.length ≤ n := by
  have := len_sub (S := List.range n) nd fun j hj => List.mem_range.mpr (h j hj)
  rwa [List.length_range] at this
def keysF (kvs : List (Nat × List Nat)) : List Nat := kvs.map (·.1)
end
end MM
namespace MC
open PySem L2
end MC
namespace MM
open PySem L2 MC
end MM

end
section
set_option maxRecDepth 100000
set_option maxHeartbeats 4000000
namespace MM
open PySem L2 MC
section
variable {L : Nat} {rs : List (List (Option Nat))} {es : List Nat}
/-- a useful stand -/
def Usf (rs : List (List (Option Nat))) (es : List Nat) (j : Nat) : Prop := (∃ s, (∀ c ∈ s, c ∈ letS) ∧ goalF rs (some 0) s = some j) ∧ ∃ s i, (∀ c ∈ s, c ∈ letS) ∧ goalF rs (some j) s = some i ∧ i ∈ es
end
end MM

end
section
set_option maxRecDepth 100000
set_option maxHeartbeats 4000000
namespace MM
open PySem L2 MC
theorem any_last {h : PH} {ys : List PV} {bs : List Bool} (e : blsP ys = some bs) : bAny (h ++ [PO.lst ys]) [PV.ref h.length] = .ok (PV.bl (bs.any id)) (h ++ [PO.lst ys]) := by
  have : lstP (h ++ [PO.lst ys]) (.ref h.length) = some ys := by simp [lstP]
  simp only [bAny, this, e]
section
variable {L : Nat} {rs : List (List (Option Nat))} {es : List Nat}
end
end MM

end
section
set_option maxRecDepth 100000
set_option maxHeartbeats 4000000
namespace MM
open PySem L2 MC
section
variable {L : Nat} {rs : List (List (Option Nat))} {es : List Nat}
def tA (x : Nat × Nat × Nat) : PV := .tup [.int x.1, .int x.2.1, .int x.2.2]
end
end MM

end
section
set_option maxRecDepth 100000
set_option maxHeartbeats 4000000
namespace MM
open PySem L2 MC
end MM

end
section
set_option maxRecDepth 100000
set_option maxHeartbeats 4000000
namespace MM
open PySem L2 MC
section
variable {L : Nat} {rs : List (List (Option Nat))} {es : List Nat}
end
end MM

end
section
set_option maxRecDepth 100000
set_option maxHeartbeats 4000000
namespace MM
open PySem L2 MC
section
variable {L : Nat} {rs : List (List (Option Nat))} {es : List Nat}
theorem smps_no {xs : List PV} (hx : ∀ x ∈ xs, smp x = true) : noRefs xs = true := by
  induction xs with
  | nil => rfl
  | cons x xs ih =>
    show (noRef x && noRefs xs) = true
    rw [smp_no (hx x List.mem_cons_self), ih fun y hy => hx y (List.mem_cons_of_mem _ hy)]; rfl
end
end MM

end
section
set_option maxRecDepth 100000
set_option maxHeartbeats 4000000
namespace MC
open PySem L2
section
variable {m : MF} {xs as : List PV} {h g hc : PH} {u v : PV}
end
end MC

end
section
set_option maxRecDepth 100000
set_option maxHeartbeats 4000000
namespace MM
open PySem L2 MC
/-- a plain list -/
def LF (h : PH) (n : Nat) : Prop := ∃ ys, h[n]? = some (.lst ys) ∧ noRefs ys = true
section
variable {L : Nat} {rs : List (List (Option Nat))} {es : List Nat}
/-- a page that is no tuple -/
def NT (z : PV) (h : PH) : Prop := z = .non ∨ ∃ n o k, z = .ref n ∧ h[n]? = some o ∧ Flat o ∧ (k = 5 ∨ k = 6) ∧ kindP [o] (.ref 0) = some (.inl k)
end
end MM

end
section
set_option maxRecDepth 100000
set_option maxHeartbeats 4000000
namespace MM
open PySem L2 MC
def iv (xs : List PV) (j : Nat) : Int := match xs[j]? with
  | some (.int i) => i
  | _ => 0
section
variable {L : Nat} {rs : List (List (Option Nat))} {es : List Nat}
end
end MM

end
section
set_option maxRecDepth 100000
set_option maxHeartbeats 4000000
namespace MM
open PySem L2 MC
/-- a dict of numbers with values -/
def dv (kvs : List (Nat × PV)) : List (PV × PV) := kvs.map fun p => (.int p.1, p.2)
end MM
namespace MM
open PySem L2 MC
end MM

end
section
set_option maxRecDepth 100000
set_option maxHeartbeats 4000000
namespace MM
open PySem L2 MC
def smps (xs : List PV) : Prop := ∀ x ∈ xs, smp x = true
/-- a page: a plain tuple, one with an empty list in it, or no tuple -/
def PgX (z : PV) (h : PH) : Prop := (∃ ys, z = .tup ys ∧ smps ys) ∨ (∃ pre post n, z = .tup (pre ++ .ref n :: post) ∧ smps pre ∧ smps post ∧ LF h n) ∨ NT z h
/-- the same, at no place of the draws -/
def PgN (z : PV) (h : PH) : Prop := PgX z h ∧ ∀ i ∈ refsV z, i ≠ 0
theorem refss_app : ∀ xs ys : List PV, refsVs (xs ++ ys) = refsVs xs ++ refsVs ys
  | [], _ => rfl
  | x :: xs, ys => by
    show refsV x ++ refsVs (xs ++ ys) = (refsV x ++ refsVs xs) ++ refsVs ys
    rw [refss_app xs ys, List.append_assoc]
theorem ref_mid {pre post : List PV} {n : Nat} (p : smps pre) (q : smps post) : refsV (.tup (pre ++ .ref n :: post)) = [n] := by
  unfold refsV
  rw [refss_app, refss_no pre (smps_no p)]
  show [] ++ (refsV (.ref n) ++ refsVs post) = _
  rw [refss_no post (smps_no q)]
  simp [refsV]
theorem PgN.ok {v : PV} {g : PH} (p : PgN v g) : (refsV v).length ≤ 100 ∧ ∀ i ∈ refsV v, i ≠ 0 ∧ ∃ o, g[i]? = some o ∧ Flat o := by
  obtain ⟨q, nz⟩ := p
  rcases q with ⟨ys, rfl, h⟩ | ⟨pre, post, n, rfl, h1, h2, h3⟩ | rfl | ⟨n, o, k, rfl, e, fo, _⟩
  · have : refsV (.tup ys) = [] := refs_no _ (by show noRefs ys = true; exact smps_no h)
    rw [this]
    exact ⟨Nat.zero_le _, fun _ z => nomatch z⟩
  · rw [ref_mid h1 h2] at nz ⊢
    exact ⟨by simp, fun i hi => ⟨nz i hi, by rw [List.mem_singleton.mp hi]; obtain ⟨ys, h3, ny⟩ := h3; exact ⟨_, h3, flat_l ny⟩⟩⟩
  · exact ⟨Nat.zero_le _, fun _ z => nomatch z⟩
  · have : refsV (.ref n) = [n] := by simp [refsV]
    rw [this] at nz ⊢
    exact ⟨by simp, fun i hi => ⟨nz i hi, by rw [List.mem_singleton.mp hi]; exact ⟨_, e, fo⟩⟩⟩
/-- a page stays one when objects are laid behind -/
theorem PgX.app {z : PV} {h : PH} (os : List PO) (p : PgX z h) : PgX z (h ++ os) := by
  rcases p with p | ⟨pre, post, n, e, h1, h2, h3⟩ | e | ⟨n, o, k, e, e0, q⟩
  · exact .inl p
  · obtain ⟨ys, h3, ny⟩ := h3
    exact .inr (.inl ⟨pre, post, n, e, h1, h2, ys, get_app h3, ny⟩)
  · exact .inr (.inr (.inl e))
  · exact .inr (.inr (.inr ⟨n, o, k, e, get_app e0, q⟩))
theorem PgX.same {z : PV} {h h' : PH} (p : PgX z h) (s : ∀ i ∈ refsV z, h'[i]? = h[i]?) : PgX z h' := by
  rcases p with p | ⟨pre, post, n, rfl, h1, h2, h3⟩ | e | ⟨n, o, k, rfl, e0, q⟩
  · exact .inl p
  · obtain ⟨ys, h3, ny⟩ := h3
    exact .inr (.inl ⟨pre, post, n, rfl, h1, h2, ys, (s n (by rw [ref_mid h1 h2]; simp)).trans h3, ny⟩)
  · exact .inr (.inr (.inl e))
  · exact .inr (.inr (.inr ⟨n, o, k, rfl, (s n (by simp [refsV])).trans e0, q⟩))
end MM

end
section
set_option maxRecDepth 100000
set_option maxHeartbeats 4000000
namespace MM
open PySem L2 MC
section
variable {L : Nat} {rs : List (List (Option Nat))} {es : List Nat}
end
end MM

end
section
set_option maxRecDepth 100000
set_option maxHeartbeats 4000000
namespace MM
open PySem L2 MC
end MM

end
section
set_option maxRecDepth 100000
set_option maxHeartbeats 4000000
namespace MM
open PySem L2 MC
section
variable {L : Nat} {rs : List (List (Option Nat))} {es : List Nat}
end
end MM

end
section
set_option maxRecDepth 100000
set_option maxHeartbeats 4000000
namespace MC
open PySem L2
mutual
def nbl : PV → Bool
  | .non => true
  | .int _ => true
  | .str _ => true
  | .tup xs => nbls xs
  | _ => false
def nbls : List PV → Bool
  | [] => true
  | x :: xs => nbl x && nbls xs
end
mutual
theorem pd_lay {K : Nat} : ∀ x : PV, pok K x = true → ∀ d, pd x = some d → d.canLay0 = true
  | .non, _, d, e => by cases e; rfl
  | .bl _, _, d, e => by cases e; rfl
  | .int _, _, d, e => by cases e; rfl
  | .str s, h, d, e => by
    cases e
    have h1 : ∀ c ∈ s, c < 1114112 := by unfold pok at h; simpa using h
    show PyData.strOk (S s) = true
    exact okA.mpr (by simpa [S] using h1)
  | .tup xs, h, d, e => by
    unfold pd at e
    cases e1 : pds xs with
    | none => rw [e1] at e; cases e
    | some ds =>
      rw [e1] at e
      cases e
      unfold PyData.canLay0
      exact pds_lay xs (by unfold pok at h; exact h) ds e1
theorem pds_lay {K : Nat} : ∀ xs : List PV, poks K xs = true → ∀ ds, pds xs = some ds → PyData.canLayAll0 ds = true
  | [], _, ds, e => by cases e; rfl
  | x :: xs, h, ds, e => by
    unfold poks at h
    rw [Bool.and_eq_true] at h
    unfold pds at e
    cases e1 : pd x with
    | none => rw [e1] at e; cases e
    | some d =>
      cases e2 : pds xs with
      | none => simp only [e1, e2] at e; cases e
      | some ds' =>
        simp only [e1, e2] at e
        cases e
        unfold PyData.canLayAll0
        rw [pd_lay x h.1 d e1, pds_lay xs h.2 ds' e2]; rfl
end
mutual
theorem eqv_nb : ∀ x y : PV, nbl x = true → nbl y = true → ∀ d e, pd x = some d → pd y = some e → (PyData.eqv d e = true ↔ x = y)
  | .tup xs, .tup ys, hx, hy, d, e, e1, e2 => by
    unfold pd at e1 e2
    cases q1 : pds xs with
    | none => rw [q1] at e1; cases e1
    | some ds =>
      cases q2 : pds ys with
      | none => rw [q2] at e2; cases e2
      | some es =>
        rw [q1] at e1; rw [q2] at e2
        cases e1; cases e2
        have := eqvs_nb xs ys (by unfold nbl at hx; exact hx) (by unfold nbl at hy; exact hy) ds es q1 q2
        unfold PyData.eqv
        rw [this]
        exact ⟨fun h => by rw [h], fun h => PV.tup.inj h⟩
  | .tup xs, .non, _, _, d, e, e1, e2 => by
    unfold pd at e1
    cases q1 : pds xs with
    | none => rw [q1] at e1; cases e1
    | some ds => rw [q1] at e1; cases e1; cases e2; simp [PyData.eqv]
  | .tup xs, .int _, _, _, d, e, e1, e2 => by
    unfold pd at e1
    cases q1 : pds xs with
    | none => rw [q1] at e1; cases e1
    | some ds => rw [q1] at e1; cases e1; cases e2; simp [PyData.eqv]
  | .tup xs, .str _, _, _, d, e, e1, e2 => by
    unfold pd at e1
    cases q1 : pds xs with
    | none => rw [q1] at e1; cases e1
    | some ds => rw [q1] at e1; cases e1; cases e2; simp [PyData.eqv]
  | .non, .tup ys, _, _, d, e, e1, e2 => by
    unfold pd at e2
    cases q2 : pds ys with
    | none => rw [q2] at e2; cases e2
    | some ds => rw [q2] at e2; cases e1; cases e2; simp [PyData.eqv]
  | .int _, .tup ys, _, _, d, e, e1, e2 => by
    unfold pd at e2
    cases q2 : pds ys with
    | none => rw [q2] at e2; cases e2
    | some ds => rw [q2] at e2; cases e1; cases e2; simp [PyData.eqv]
  | .str _, .tup ys, _, _, d, e, e1, e2 => by
    unfold pd at e2
    cases q2 : pds ys with
    | none => rw [q2] at e2; cases e2
    | some ds => rw [q2] at e2; cases e1; cases e2; simp [PyData.eqv]
  | .non, .non, _, _, d, e, e1, e2 => by cases e1; cases e2; simp [PyData.eqv]
  | .non, .int _, _, _, d, e, e1, e2 => by cases e1; cases e2; simp [PyData.eqv]
  | .non, .str _, _, _, d, e, e1, e2 => by cases e1; cases e2; simp [PyData.eqv]
  | .int _, .non, _, _, d, e, e1, e2 => by cases e1; cases e2; simp [PyData.eqv]
  | .int i, .int j, _, _, d, e, e1, e2 => by cases e1; cases e2; simp [PyData.eqv]
  | .int _, .str _, _, _, d, e, e1, e2 => by cases e1; cases e2; simp [PyData.eqv]
  | .str _, .non, _, _, d, e, e1, e2 => by cases e1; cases e2; simp [PyData.eqv]
  | .str _, .int _, _, _, d, e, e1, e2 => by cases e1; cases e2; simp [PyData.eqv]
  | .str s, .str t, _, _, d, e, e1, e2 => by
    cases e1; cases e2
    simp only [PyData.eqv, beq_iff_eq, PV.str.injEq]
    exact ⟨fun h => S_inj h, fun h => by rw [h]⟩
  | .bl _, _, h, _, _, _, _, _ => by cases h
  | .scr _, _, h, _, _, _, _, _ => by cases h
  | .rdic _, _, h, _, _, _, _, _ => by cases h
  | .ins _ _, _, h, _, _, _, _, _ => by cases h
  | .ref _, _, h, _, _, _, _, _ => by cases h
  | .gl _, _, h, _, _, _, _, _ => by cases h
  | _, .bl _, _, h, _, _, _, _ => by cases h
  | _, .scr _, _, h, _, _, _, _ => by cases h
  | _, .rdic _, _, h, _, _, _, _ => by cases h
  | _, .ins _ _, _, h, _, _, _, _ => by cases h
  | _, .ref _, _, h, _, _, _, _ => by cases h
  | _, .gl _, _, h, _, _, _, _ => by cases h
theorem eqvs_nb : ∀ xs ys : List PV, nbls xs = true → nbls ys = true → ∀ ds es, pds xs = some ds → pds ys = some es → (PyData.eqvAll ds es = true ↔ xs = ys)
  | [], [], _, _, ds, es, e1, e2 => by cases e1; cases e2; simp [PyData.eqvAll]
  | [], y :: ys, _, _, ds, es, e1, e2 => by
    unfold pds at e2
    split at e2
    · cases e1; cases e2; simp [PyData.eqvAll]
    · cases e2
  | x :: xs, [], _, _, ds, es, e1, e2 => by
    unfold pds at e1
    split at e1
    · cases e1; cases e2; simp [PyData.eqvAll]
    · cases e1
  | x :: xs, y :: ys, hx, hy, ds, es, e1, e2 => by
    unfold nbls at hx hy
    rw [Bool.and_eq_true] at hx hy
    unfold pds at e1 e2
    split at e1
    · rename_i d1 d2 q1 q2
      split at e2
      · rename_i d3 d4 q3 q4
        cases e1; cases e2
        have a := eqv_nb x y hx.1 hy.1 d1 d3 q1 q3
        have b := eqvs_nb xs ys hx.2 hy.2 d2 d4 q2 q4
        unfold PyData.eqvAll
        rw [Bool.and_eq_true, a, b, List.cons.injEq]
      · cases e2
    · cases e1
end
section
variable {h : PH} {K : Nat} {x y : PV}
end
end MC

end
section
set_option maxRecDepth 100000
set_option maxHeartbeats 4000000
namespace MM
open PySem L2 MC
/-- two rows without what is common at their fronts -/
def cutP : List Nat → List Nat → List Nat × List Nat
  | c :: a, d :: b => if c = d then cutP a b else (c :: a, d :: b)
  | a, b => (a, b)
/-- the lag of two rows: its side and its rest -/
def lagP (a b : List Nat) : Nat × List Nat := if isPre b a = true then (0, a.drop b.length) else if isPre a b = true then (1, b.drop a.length) else (2, [])
def xyz (s : List Nat) : Prop := ∀ c ∈ s, c ∈ [120, 121, 122]
theorem xyz_drop {s : List Nat} (h : xyz s) (n : Nat) : xyz (s.drop n) := fun c hc => h c (List.mem_of_mem_drop hc)
/-- a lag -/
def lagV (p : Nat × List Nat) : PV := .tup [.int p.1, .str p.2]
/-- the lag behind a lag -/
def nextP (p : Nat × List Nat) (one two : List Nat) : Nat × List Nat := if p.1 = 0 then lagP (p.2 ++ one) two else lagP one (p.2 ++ two)
theorem lagP_ok {a b : List Nat} (ha : xyz a) (hb : xyz b) : (lagP a b).1 ≤ 2 ∧ xyz (lagP a b).2 := by
  unfold lagP
  split
  · exact ⟨Nat.zero_le _, xyz_drop ha _⟩
  · split
    · exact ⟨(by decide : (1 : Nat) ≤ 2), xyz_drop hb _⟩
    · exact ⟨Nat.le_refl 2, fun _ z => nomatch z⟩
end MM

end
section
set_option maxRecDepth 100000
set_option maxHeartbeats 4000000
namespace MM
open PySem L2 MC
/-- a kind of pages, the same whatever place a list has -/
structure KOk (K : PV → Prop) : Prop where
  mid : ∀ pre post n m, K (.tup (pre ++ .ref n :: post)) → K (.tup (pre ++ .ref m :: post))
section
variable {L : Nat} {rs : List (List (Option Nat))} {es : List Nat}
end
/-- what may stand in a page of lags -/
def LE (x : PV) : Prop := x = .non ∨ (∃ p : Nat × List Nat, x = lagV p ∧ p.1 ≤ 2 ∧ xyz p.2 ∧ p.2.length ≤ 200) ∨ x = .tup [.bl false, .str []] ∨ x = .tup [.int 0, .str [], .str []] ∨ x = .str [120] ∨ x = .tup [.int 0, .non]
theorem LE.smp {x : PV} (h : LE x) : smp x = true := by
  rcases h with rfl | ⟨p, rfl, _⟩ | rfl | rfl | rfl | rfl <;> rfl
end MM

end
section
set_option maxRecDepth 100000
set_option maxHeartbeats 4000000
namespace MM
open PySem L2 MC
def wdp (ws : List (List Nat)) (p : Nat) : List Nat := (ws[p]?).getD []
section
variable {L : Nat} {rs : List (List (Option Nat))} {es : List Nat}
end
end MM

end
section
set_option maxRecDepth 100000
set_option maxHeartbeats 4000000
namespace MM
open PySem L2 MC
end MM

end
section
set_option maxRecDepth 100000
set_option maxHeartbeats 4000000
namespace MM
open PySem L2 MC
theorem isPre_iff : ∀ (p s : List Nat), isPre p s = true ↔ ∃ t, s = p ++ t
  | [], s => ⟨fun _ => ⟨s, rfl⟩, fun _ => rfl⟩
  | x :: xs, [] => ⟨fun h => (by cases h), fun ⟨t, e⟩ => (by cases e)⟩
  | x :: xs, y :: ys => by
    unfold isPre
    rw [Bool.and_eq_true, beq_iff_eq, isPre_iff xs ys]
    constructor
    · rintro ⟨rfl, t, rfl⟩; exact ⟨t, rfl⟩
    · rintro ⟨t, e⟩
      rw [List.cons_append, List.cons.injEq] at e
      exact ⟨e.1.symm, t, e.2⟩
/-- what a lag of two rows is -/
inductive LagIs (a b : List Nat) : Nat × List Nat → Prop where
  | left (r : List Nat) : a = b ++ r → LagIs a b (0, r)
  | right (r : List Nat) : b = a ++ r → r ≠ [] → LagIs a b (1, r)
  | broken : (∀ r, a ≠ b ++ r) → (∀ r, b ≠ a ++ r) → LagIs a b (2, [])
theorem lagP_is (a b : List Nat) : LagIs a b (lagP a b) := by
  unfold lagP
  by_cases h1 : isPre b a = true
  · rw [if_pos h1]
    obtain ⟨t, rfl⟩ := (isPre_iff b a).mp h1
    rw [List.drop_left]
    exact .left t rfl
  · rw [if_neg h1]
    by_cases h2 : isPre a b = true
    · rw [if_pos h2]
      obtain ⟨t, rfl⟩ := (isPre_iff a b).mp h2
      rw [List.drop_left]
      refine .right t rfl fun e => ?_
      subst e
      exact h1 ((isPre_iff _ _).mpr ⟨[], by simp⟩)
    · rw [if_neg h2]
      exact .broken (fun r e => h1 ((isPre_iff _ _).mpr ⟨r, e⟩)) fun r e => h2 ((isPre_iff _ _).mpr ⟨r, e⟩)
theorem lag_uniq {a b : List Nat} {p q : Nat × List Nat} (h1 : LagIs a b p) (h2 : LagIs a b q) : p = q := by
  cases h1 with
  | left r e =>
    cases h2 with
    | left s e2 => rw [e] at e2; rw [List.append_cancel_left e2]
    | right s e2 n =>
      exfalso
      rw [e, List.append_assoc] at e2
      have := congrArg List.length e2
      rw [List.length_append, List.length_append] at this
      exact n (List.length_eq_zero_iff.mp (by omega))
    | broken c _ => exact absurd e (c r)
  | right r e n =>
    cases h2 with
    | left s e2 =>
      exfalso
      rw [e, List.append_assoc] at e2
      have := congrArg List.length e2
      rw [List.length_append, List.length_append] at this
      exact n (List.length_eq_zero_iff.mp (by omega))
    | right s e2 _ => rw [e] at e2; rw [List.append_cancel_left e2]
    | broken _ c => exact absurd e (c r)
  | broken c d =>
    cases h2 with
    | left s e2 => exact absurd e2 (c s)
    | right s e2 _ => exact absurd e2 (d s)
    | broken _ _ => rfl
theorem lagP_eq {a b : List Nat} {p : Nat × List Nat} (h : LagIs a b p) : lagP a b = p := lag_uniq (lagP_is a b) h
theorem lag_zero {a b : List Nat} : lagP a b = (0, []) ↔ a = b := by
  constructor
  · intro h
    have := lagP_is a b
    rw [h] at this
    cases this with
    | left _ e => rw [e]; simp
  · rintro rfl; exact lagP_eq (.left [] (by simp))
/-- a common front does not count -/
theorem lag_front (c a b : List Nat) : lagP (c ++ a) (c ++ b) = lagP a b := by
  refine lagP_eq ?_
  have := lagP_is a b
  generalize lagP a b = p at this
  cases this with
  | left r e => exact .left r (by rw [e, List.append_assoc])
  | right r e n => exact .right r (by rw [e, List.append_assoc]) n
  | broken h1 h2 =>
    exact .broken (fun r e => h1 r (by rw [List.append_assoc] at e; exact List.append_cancel_left e)) fun r e => h2 r (by rw [List.append_assoc] at e; exact List.append_cancel_left e)
theorem next_lag_eq {a b : List Nat} (h : (lagP a b).1 ≤ 1) (w v : List Nat) : nextP (lagP a b) w v = lagP (a ++ w) (b ++ v) := by
  have := lagP_is a b
  generalize lagP a b = p at this h
  cases this with
  | left r e =>
    subst e
    show lagP (r ++ w) v = _
    rw [List.append_assoc, lag_front]
  | right r e n =>
    subst e
    show lagP w (r ++ v) = _
    rw [List.append_assoc, lag_front]
  | broken _ _ => exact absurd h (by decide)
/-- the lag of the two versions of a row -/
def lagR (ws vs : List (List Nat)) (s : List Nat) : Nat × List Nat := lagP (sd ws s) (sd vs s)
theorem sd_app (ws : List (List Nat)) (s t : List Nat) : sd ws (s ++ t) = sd ws s ++ sd ws t := by
  unfold sd
  rw [List.map_append, List.flatten_append]
theorem lagR_next {ws vs : List (List Nat)} {s : List Nat} (h : (lagR ws vs s).1 ≤ 1) (c : Nat) : nextP (lagR ws vs s) (wd ws c) (wd vs c) = lagR ws vs (s ++ [c]) := by
  unfold lagR at h ⊢
  rw [next_lag_eq h, sd_app, sd_app]
  simp [sd]
theorem lagR_zero {ws vs : List (List Nat)} {s : List Nat} : lagR ws vs s = (0, []) ↔ sd ws s = sd vs s := lag_zero
theorem lagR_nil (ws vs : List (List Nat)) : lagR ws vs [] = (0, []) := lagR_zero.mpr rfl
section
variable {L : Nat} {rs : List (List (Option Nat))} {es : List Nat}
/-- two books agree on a machine -/
def Agr (rs : List (List (Option Nat))) (es : List Nat) (ws vs : List (List Nat)) : Prop := ∀ s, ltE rs es s = true → sd ws s = sd vs s
/-- a text shorter than twice the stands that differs -/
def Dif (rs : List (List (Option Nat))) (es : List Nat) (ws vs : List (List Nat)) : Prop := ∃ s, ltE rs es s = true ∧ sd ws s ≠ sd vs s ∧ s.length < 2 * rs.length
theorem Dif.not {ws vs : List (List Nat)} (d : Dif rs es ws vs) : ¬ Agr rs es ws vs := fun a => by
  obtain ⟨s, h1, h2, _⟩ := d
  exact h2 (a s h1)
/-- a row to a useful stand can be ended -/
theorem ltE_of {s z : List Nat} {j e : Nat} (h1 : ∀ c ∈ s, c ∈ letS) (h2 : goalF rs (some 0) s = some j) (h3 : ∀ c ∈ z, c ∈ letS) (h4 : goalF rs (some j) z = some e) (h5 : e ∈ es) : ltE rs es (s ++ z) = true := by
  unfold ltE
  rw [goalF_app, h2, h4]
  have : (s ++ z).all (fun c => decide (c ∈ letS)) = true := by
    rw [List.all_eq_true]
    intro c hc
    exact decide_eq_true ((List.mem_append.mp hc).elim (h1 c) (h3 c))
  rw [this, Bool.true_and]
  exact decide_eq_true h5
/-- lags at the useful stands that go on along all arrows, nothing at ends -/
structure Cons (rs : List (List (Option Nat))) (es : List Nat) (ws vs : List (List Nat)) (f : Nat → Nat × List Nat) : Prop where
  root : Usf rs es 0 → f 0 = (0, [])
  ok : ∀ j, Usf rs es j → (f j).1 ≤ 1
  next : ∀ j p q, Usf rs es j → stepG rs j p = some q → Usf rs es q → nextP (f j) (wdp ws p) (wdp vs p) = f q
  ends : ∀ j, Usf rs es j → j ∈ es → f j = (0, [])
/-- stands on the way to a useful one are useful -/
theorem usf_pre {s t : List Nat} {j k : Nat} (h1 : ∀ c ∈ s, c ∈ letS) (e1 : goalF rs (some 0) s = some k) (h2 : ∀ c ∈ t, c ∈ letS) (e2 : goalF rs (some k) t = some j) (u : Usf rs es j) : Usf rs es k := by
  obtain ⟨_, z, i, z1, z2, z3⟩ := u
  refine ⟨⟨s, h1, e1⟩, t ++ z, i, fun c hc => (List.mem_append.mp hc).elim (h2 c) (z1 c), ?_, z3⟩
  rw [goalF_app, e2]; exact z2
theorem cons_rows {ws vs : List (List Nat)} {f : Nat → Nat × List Nat} (c : Cons rs es ws vs f) : ∀ (n : Nat) (s : List Nat), s.length = n → (∀ c ∈ s, c ∈ letS) → ∀ j, goalF rs (some 0) s = some j → Usf rs es j → lagR ws vs s = f j
  | 0, s, hs, h1, j, e, u => by
    rw [List.length_eq_zero_iff.mp hs] at e ⊢
    cases e
    rw [lagR_nil, c.root u]
  | n + 1, s, hs, h1, j, e, u => by
    obtain ⟨t, d, rfl⟩ : ∃ t d, s = t ++ [d] := ⟨s.dropLast, s.getLast (by intro e; rw [e] at hs; cases hs), (List.dropLast_concat_getLast _).symm⟩
    have lt : t.length = n := by rw [List.length_append] at hs; simpa using hs
    have ht : ∀ c ∈ t, c ∈ letS := fun c hc => h1 c (List.mem_append_left _ hc)
    rw [goalF_app] at e
    cases g : goalF rs (some 0) t with
    | none => rw [g] at e; cases e
    | some k =>
      rw [g] at e
      have e' : stepG rs k (d - 97) = some j := e
      have uk : Usf rs es k := usf_pre ht g (t := [d]) (fun c hc => by rw [List.mem_singleton.mp hc]; exact h1 d (List.mem_append_right _ (List.mem_singleton.mpr rfl))) e u
      have ih := cons_rows c n t lt ht k g uk
      rw [← lagR_next (by rw [ih]; exact c.ok k uk), ih]
      exact c.next k (d - 97) j uk e' u
end
end MM

end
section
set_option maxRecDepth 100000
set_option maxHeartbeats 4000000
namespace MM
open PySem L2 MC
end MM

end
section
set_option maxRecDepth 100000
set_option maxHeartbeats 4000000
namespace MM
open PySem L2 MC
end MM

end
section
set_option maxRecDepth 100000
set_option maxHeartbeats 4000000
namespace MM
open PySem L2 MC
theorem plan_g (M W : Nat) (hM : 1 ≤ M ∧ M ≤ 8) (hW : 1 ≤ W ∧ W ≤ 5) : Fs m__law_plan [.int M, .int W] (fun v => ∃ L rows is, v = plnV L rows is ∧ MachOk L rows is ∧ L ≤ W ∧ rows.length ≤ M) := fun a b c => by
  unfold m__law_plan
  simp [b__law_plan]
  refine pinch_u (by omega) (b30 (by omega)) ⟨a, b, c, rfl⟩ fun i h1 i0 i1 d1 b1 => ?_
  simp
  refine pinch_u (by omega) (b30 (by omega)) d1 fun l h2 l0 l1 d2 b2 => ?_
  simp
  refine pinch_u (by omega) (b30 (by omega)) d2 fun w h3 w0 w1 d3 b3 => ?_
  obtain ⟨N, eN, n1, n5, nM⟩ : ∃ N : Nat, 1 + i = (N : Int) ∧ 1 ≤ N ∧ N ≤ 8 ∧ N ≤ M := ⟨(1 + i).toNat, by omega, by omega, by omega, by omega⟩
  obtain ⟨L, eL, L1, L5, LW⟩ : ∃ L : Nat, 1 + l = (L : Int) ∧ 1 ≤ L ∧ L ≤ 5 ∧ L ≤ W := ⟨(1 + l).toNat, by omega, by omega, by omega, by omega⟩
  have l3 : h3.length = 1 := by rw [b3.1, b2.1, b1.1]; rfl
  rw [eN, eL]
  simp [LIM, inR_small (i := (N : Int)) (by omega) (by omega), l3]
  refine forB (fun t e h => ∃ x7 x8 rs, e = [some (.ref 0), some (.int M), some (.int W), some (.int N), some (.int L), some (.int w), some (.ref 1), x7, x8, none, none, none] ∧ Dr 0 h ∧ h[1]? = some (.lst rs) ∧ rs.length = t ∧ ∀ r ∈ rs, rowOk N L r)
    ⟨_, _, [], rfl, d3.app, by rw [← l3]; exact last_at, rfl, fun _ z => nomatch z⟩ (fun _ _ _ _ => rfl) (fun t x env h hx ⟨x7, x8, rs, ee, dh, hr, lr, pr⟩ => ?_) fun env h ⟨x7, x8, rs, ee, dh, hr, lr, pr⟩ => ?_
  · subst ee
    obtain ⟨t', _, rfl⟩ := mem_seqI (List.mem_of_getElem? hx)
    have ht : t < 8 := by have := (List.getElem?_eq_some_iff.mp hx).1; rw [len_seqI] at this; omega
    simp [inR_small (i := (L : Int)) (by omega) (by omega)]
    refine mapPB (fun y => dg (N + 1 + w) y) (fun h => Dr 0 h ∧ h[1]? = some (.lst rs)) ⟨dh, hr⟩ (by rw [len_seqI]; exact lim_of (by omega)) (fun y hy h dh => ⟨_, rfl, ?_⟩) fun h4 ys d4 ly py => ?_
    · simp [wipeE]
      exact ((pinch_f (by omega) (b30 (by omega))).call rfl dh.1).mono fun v h' ⟨_, p, d, b'⟩ => ⟨p, d, by rw [b'.2 1 (by decide)]; exact dh.2⟩
    · rw [len_seqI] at ly
      have k1 : (h4 ++ [PO.lst ys])[h4.length]? = some (.lst ys) := last_at
      simp [src_ref k1]
      refine mapW (fgl N) (fun h => Dr 0 h ∧ h[1]? = some (.lst rs) ∧ h[h4.length]? = some (.lst ys)) (fun h q => watch_mk q.2.2) ⟨d4.1.app, get_app d4.2, k1⟩ (lim_of (by omega)) (fun y hy h dh => ⟨_, rfl, ?_⟩) fun h5 d5 => ?_
      · obtain ⟨d, rfl, d0, _⟩ := py y hy
        by_cases e : d < N
        · simp [wipeE, fgl, e]; exact dh
        · simp [wipeE, fgl, e]; exact dh
      · have k2 : (h5 ++ [PO.lst (ys.map (fgl N))])[h5.length]? = some (.lst (ys.map (fgl N))) := last_at
        have g0 : ∀ g ∈ ys.map (fgl N), gl N g := fun g hg => by
          obtain ⟨y, hy, rfl⟩ := List.mem_map.mp hg
          exact fgl_ok (py y hy)
        have h50 : h5.length ≠ 0 := by have := d5.1.lt; omega
        have h51 : h5.length ≠ 1 := by have := (List.getElem?_eq_some_iff.mp d5.2.1).1; omega
        -- the row is laid down
        have lay : ∀ (h : PH) (gs : List PV), Dr 0 h → h[1]? = some (.lst rs) → h[h5.length]? = some (.lst gs) → gs.length = L → (∀ g ∈ gs, gl N g) →
            ∃ h', oAppend h [.ref 1, .tup gs] = .ok .non h' ∧ Dr 0 h' ∧ h'[1]? = some (.lst (rs ++ [.tup gs])) ∧ ∀ r ∈ rs ++ [.tup gs], rowOk N L r := fun h gs dh h1 h2 lg pg => by
          refine ⟨_, app_c h1 (Nat.lt_of_le_of_lt (show rs.length ≤ 8 by omega) (by decide)), ?_, ?_, fun r hr => ?_⟩
          · obtain ⟨a', b', c', ea⟩ := dh
            exact ⟨a', b', c', by rw [List.getElem?_set_ne (by decide)]; exact ea⟩
          · rw [List.getElem?_set_self (List.getElem?_eq_some_iff.mp h1).1]
          · rcases List.mem_append.mp hr with q | q
            · exact pr r q
            · rw [List.mem_singleton.mp q]; exact ⟨gs, rfl, lg, pg⟩
        have lz : (ys.map (fgl N)).length = L := by rw [List.length_map]; omega
        have nm : ∀ (gs : List PV), gs.length = L → (∀ g ∈ gs, gl N g) → ∀ (q : Nat) (v : PV), gl N v → (gs.set q v).length = L ∧ ∀ g ∈ gs.set q v, gl N g := fun gs lg pg q v gv => by
          refine ⟨by rw [List.length_set]; exact lg, fun g hg => ?_⟩
          rcases List.mem_or_eq_of_mem_set hg with z | z
          · exact pg g z
          · rw [z]; exact gv
        by_cases e3 : w = 3
        · subst e3
          simp [show 0 < N by omega]
          refine pinch_u (by omega) (b30 (by omega)) d5.1.app fun q h6 q0 q1 d6 b6 => ?_
          obtain ⟨q', rfl, hq⟩ := nat_of q0 q1
          have r6 : h6[1]? = some (.lst rs) := by rw [b6.2 1 (by decide)]; exact get_app d5.2.1
          have k6 : h6[h5.length]? = some (.lst (ys.map (fgl N))) := by rw [b6.2 _ h50]; exact k2
          obtain ⟨m1, m2⟩ := nm _ lz g0 q' (.int (((t' : Int) + 1) % N)) (.inr ⟨_, rfl, Int.emod_nonneg _ (by omega), Int.emod_lt_of_pos _ (by omega)⟩)
          have st := set_c (v := .int (((t' : Int) + 1) % N)) k6 (by rw [lz]; exact hq)
          generalize hgs : (ys.map (fgl N)).set q' (.int (((t' : Int) + 1) % N)) = gs at st m1 m2
          generalize hh7 : h6.set h5.length (.lst gs) = h7 at st
          have k7 : h7[h5.length]? = some (.lst gs) := by rw [← hh7, List.getElem?_set_self (List.getElem?_eq_some_iff.mp k6).1]
          have r7 : h7[1]? = some (.lst rs) := by rw [← hh7, List.getElem?_set_ne h51]; exact r6
          have d7 : Dr 0 h7 := by
            obtain ⟨a', b', c', ea⟩ := d6
            exact ⟨a', b', c', by rw [← hh7, List.getElem?_set_ne h50]; exact ea⟩
          obtain ⟨h', ea, da, ra, pa⟩ := lay h7 gs d7 r7 k7 m1 m2
          simp only [st, bind_ok]
          simp [ty_lst r7, v_btupR k7, ea]
          exact ⟨da, _, ra, by simp [lr], pa⟩
        · simp [e3]
          obtain ⟨h', ea, da, ra, pa⟩ := lay _ _ d5.1.app (get_app d5.2.1) k2 lz g0
          have ty := ty_lst (h := h5 ++ [PO.lst (ys.map (fgl N))]) (n := 1) (get_app d5.2.1)
          simp [ty, ea]
          exact ⟨da, _, ra, by simp [lr], pa⟩
  · subst ee
    simp [inR_small (i := (N : Int)) (by omega) (by omega)]
    rw [len_seqI] at lr
    refine Ws.bind (Ws_lc (Q := fun v h' => ∃ h0 is, Dr 0 h0 ∧ h0[1]? = some (.lst rs) ∧ endsOk N is ∧ v = .ref h0.length ∧ h' = h0 ++ [.lst (is.map PV.int)]) (fun t acc h => Dr 0 h ∧ h[1]? = some (.lst rs) ∧ acc.length ≤ t ∧ ∃ is : List Int, acc = is.map PV.int ∧ is.Pairwise (· < ·) ∧ ∀ i ∈ is, 0 ≤ i ∧ i < t)
      ⟨dh, hr, Nat.le_refl _, [], rfl, .nil, fun _ z => nomatch z⟩ (fun _ _ _ _ => rfl) (fun t x acc h e ⟨dh, hr, la, is, ea, pw, bd⟩ => ?_) fun acc h ⟨dh, hr, la, is, ea, pw, bd⟩ => ⟨h, is, dh, hr, ⟨pw, by rw [len_seqI] at bd; exact bd⟩, rfl, by rw [ea]⟩) fun v h' ⟨h0, is, d0, r0, oke, ev, eh⟩ => ?_
    · obtain ⟨ht, rfl⟩ := at_seqI e
      refine ⟨_, rfl, ?_⟩
      simp [wipeE]
      refine pinch_u (by omega) (b30 (by omega)) dh fun q h6 q0 q1 d6 b6 => ?_
      have r6 : h6[1]? = some (.lst rs) := by rw [b6.2 1 (by decide)]; exact hr
      by_cases e0 : q = 0
      · simp [e0]
        refine ⟨Nat.lt_of_le_of_lt (show acc.length ≤ 8 by omega) (by decide), d6, r6, la, is ++ [(t : Int)], by rw [ea]; simp, ?_, fun j hj => ?_⟩
        · refine List.pairwise_append.mpr ⟨pw, List.pairwise_singleton _ _, fun x hx y hy => ?_⟩
          rw [List.mem_singleton.mp hy]
          exact (bd x hx).2
        · rcases List.mem_append.mp hj with z | z
          · have := bd j z; omega
          · rw [List.mem_singleton.mp z]; omega
      · simp [e0]
        exact ⟨d6, r6, by omega, is, ea, pw, fun j hj => by have := bd j hj; omega⟩
    · subst ev; subst eh
      have mok : ∀ is, endsOk N is → MachOk L rs is := fun is q => ⟨L1, L5, by omega, by omega, by rw [lr]; exact pr, by rw [lr]; exact q⟩
      have fin : ∀ (is : List Int), endsOk N is → noRef (PV.tup [.int L, .tup rs, .tup (is.map PV.int)]) = true ∧ ∃ L' rows is', PV.tup [.int L, .tup rs, .tup (is.map PV.int)] = plnV L' rows is' ∧ MachOk L' rows is' ∧ L' ≤ W ∧ rows.length ≤ M := fun is q =>
        ⟨by simp [noRef, noRefs, rows_noref pr, ints_noref], L, rs, is, rfl, mok is q, LW, by omega⟩
      have e1 : (h0 ++ [PO.lst (is.map PV.int), PO.lst []])[h0.length]? = some (.lst (is.map PV.int)) := by simp
      have e2 : (h0 ++ [PO.lst (is.map PV.int), PO.lst []])[h0.length + 1]? = some (.lst []) := by simp
      have d1' : Dr 0 (h0 ++ [PO.lst (is.map PV.int), PO.lst []]) := d0.app
      have r1 : (h0 ++ [PO.lst (is.map PV.int), PO.lst []])[1]? = some (.lst rs) := get_app r0
      simp [eq_nil e1 e2]
      cases is with
      | cons i0' r =>
        simp [-List.map_cons, v_btupR r1, v_btupR e1, LIM]
        exact ⟨d1', fin _ oke⟩
      | nil =>
        simp
        refine pinch_u (by omega) (b30 (by omega)) d1' fun q h6 q0 q1 d6 b6 => ?_
        have r6 : h6[1]? = some (.lst rs) := by rw [b6.2 1 (by decide)]; exact r1
        have h00 : h0.length ≠ 0 := by have := d0.lt; omega
        have k6 : h6[h0.length]? = some (.lst (([] : List Int).map PV.int)) := by rw [b6.2 _ h00]; exact e1
        by_cases e0 : 0 < q
        · simp [e0]
          refine pinch_u (by omega) (b30 (by omega)) d6 fun u h7 u0 u1 d7 b7 => ?_
          have r7 : h7[1]? = some (.lst rs) := by rw [b7.2 1 (by decide)]; exact r6
          simp [v_btupR (h := h7 ++ [.lst [.int u]]) (n := 1) (get_app r7), v_btupR (h := h7 ++ [.lst [.int u]]) (n := h7.length) last_at, LIM]
          refine ⟨d7.app, fin [u] ⟨List.pairwise_singleton _ _, fun x hx => by rw [List.mem_singleton.mp hx]; exact ⟨u0, u1⟩⟩⟩
        · simp [e0]
          simp [v_btupR r6, v_btupR k6, LIM]
          exact ⟨d6, fin [] oke⟩
end MM

end
section
set_option maxRecDepth 100000
set_option maxHeartbeats 4000000
namespace MM
open PySem L2 MC
theorem look_of {j : Nat} {s : List Nat} : ∀ {kvs : List (Nat × List Nat)}, (keysF kvs).Nodup → (j, s) ∈ kvs → kvs.lookup j = some s
  | [], _, h => nomatch h
  | (k, t) :: r, nd, h => by
    unfold keysF at nd
    rw [List.map_cons, List.nodup_cons] at nd
    rw [List.lookup_cons]
    rcases List.mem_cons.mp h with e | e
    · cases e; simp
    · have : j ∈ keysF r := List.mem_map.mpr ⟨_, e, rfl⟩
      have ne : j ≠ k := fun q => nd.1 (q ▸ this)
      rw [beq_eq_false_iff_ne.mpr ne]
      exact look_of nd.2 e
theorem keyF_get {j : Nat} {kvs : List (Nat × List Nat)} (h : j ∈ keysF kvs) : ∃ s, (j, s) ∈ kvs := by
  obtain ⟨⟨k, s⟩, hp, rfl⟩ := List.mem_map.mp h
  exact ⟨s, hp⟩
theorem keyF_of {j : Nat} {s : List Nat} {kvs : List (Nat × List Nat)} (h : (j, s) ∈ kvs) : j ∈ keysF kvs := List.mem_map.mpr ⟨_, h, rfl⟩
section
variable {L : Nat} {rs : List (List (Option Nat))} {es : List Nat} {ws vs : List (List Nat)}
theorem usf_lt (o : TO L rs es) {j : Nat} (u : Usf rs es j) : j < rs.length := by
  obtain ⟨⟨s, _, h⟩, _⟩ := u
  have := n8 o
  exact goalF_lt o s (some 0) j (fun i e => by cases e; omega) h
/-- found rows to useful stands, none with a broken lag -/
structure Fo (rs : List (List (Option Nat))) (es : List Nat) (ws vs : List (List Nat)) (kvs : List (Nat × List Nat)) : Prop where
  nd : (keysF kvs).Nodup
  us : ∀ j ∈ keysF kvs, Usf rs es j
  sn : Snd rs 0 kvs
  ok : ∀ e ∈ kvs, (lagR ws vs e.2).1 ≤ 1
  root : Usf rs es 0 → (0, []) ∈ kvs
/-- all goals of an entry are found, with the lags that are due -/
def Cl (rs : List (List (Option Nat))) (es : List Nat) (ws vs : List (List Nat)) (kvs : List (Nat × List Nat)) (j : Nat) (s : List Nat) : Prop := ∀ p q, stepG rs j p = some q → Usf rs es q → ∃ t, (q, t) ∈ kvs ∧ lagR ws vs (s ++ [97 + p]) = lagR ws vs t
theorem Cl.app {kvs ad : List (Nat × List Nat)} {j : Nat} {s : List Nat} (c : Cl rs es ws vs kvs j s) : Cl rs es ws vs (kvs ++ ad) j s := fun p q h1 h2 => by
  obtain ⟨t, h3, h4⟩ := c p q h1 h2
  exact ⟨t, List.mem_append_left _ h3, h4⟩
/-- a finished search -/
structure Dn2 (rs : List (List (Option Nat))) (es : List Nat) (ws vs : List (List Nat)) (kvs : List (Nat × List Nat)) : Prop where
  fo : Fo rs es ws vs kvs
  cl : ∀ j s, (j, s) ∈ kvs → Cl rs es ws vs kvs j s
theorem step_p5 (o : TO L rs es) {j p q : Nat} (h : stepG rs j p = some q) : p < L := by
  have := goalF_in o [97 + p] j q (by show stepG rs j (97 + p - 97) = some q; rw [Nat.add_sub_cancel_left]; exact h) (97 + p) (by simp)
  rwa [Nat.add_sub_cancel_left] at this
theorem goal_snoc {s : List Nat} {j p q : Nat} (h1 : goalF rs (some 0) s = some j) (h2 : stepG rs j p = some q) : goalF rs (some 0) (s ++ [97 + p]) = some q := by
  rw [goalF_app, h1]
  show stepG rs j (97 + p - 97) = some q
  rw [Nat.add_sub_cancel_left]; exact h2
theorem let_snoc {s : List Nat} {p : Nat} (h : ∀ c ∈ s, c ∈ letS) (hp : p < 5) : ∀ c ∈ s ++ [97 + p], c ∈ letS := fun c hc => by
  rcases List.mem_append.mp hc with w | w
  · exact h c w
  · rw [List.mem_singleton.mp w]; exact (let_ix hp []).2
theorem Fo.len (o : TO L rs es) {kvs : List (Nat × List Nat)} (f : Fo rs es ws vs kvs) : kvs.length ≤ rs.length := by
  have := keys_len f.nd fun j hj => usf_lt o (f.us j hj)
  unfold keysF at this
  rwa [List.length_map] at this
/-- a finished search has found all useful stands -/
theorem Dn2.all {kvs : List (Nat × List Nat)} (d : Dn2 rs es ws vs kvs) : ∀ (n : Nat) (s : List Nat), s.length = n → (∀ c ∈ s, c ∈ letS) → ∀ j, goalF rs (some 0) s = some j → Usf rs es j → j ∈ keysF kvs
  | 0, s, hs, h1, j, e, u => by
    rw [List.length_eq_zero_iff.mp hs] at e
    cases e
    exact keyF_of (d.fo.root u)
  | n + 1, s, hs, h1, j, e, u => by
    obtain ⟨t, c, rfl⟩ : ∃ t c, s = t ++ [c] := ⟨s.dropLast, s.getLast (by intro e; rw [e] at hs; cases hs), (List.dropLast_concat_getLast _).symm⟩
    have lt : t.length = n := by rw [List.length_append] at hs; simpa using hs
    have ht : ∀ c ∈ t, c ∈ letS := fun c hc => h1 c (List.mem_append_left _ hc)
    rw [goalF_app] at e
    cases g : goalF rs (some 0) t with
    | none => rw [g] at e; cases e
    | some k =>
      rw [g] at e
      have e' : stepG rs k (c - 97) = some j := e
      have uk : Usf rs es k := usf_pre ht g (t := [c]) (fun x hx => by rw [List.mem_singleton.mp hx]; exact h1 c (List.mem_append_right _ (List.mem_singleton.mpr rfl))) e u
      obtain ⟨r, hr⟩ := keyF_get (Dn2.all d n t lt ht k g uk)
      obtain ⟨w, hw, _⟩ := d.cl k r hr _ _ e' u
      exact keyF_of hw
theorem Dn2.key {kvs : List (Nat × List Nat)} (d : Dn2 rs es ws vs kvs) {j : Nat} (u : Usf rs es j) : ∃ s, (j, s) ∈ kvs := by
  obtain ⟨⟨s, h1, h2⟩, _⟩ := id u
  exact keyF_get (d.all _ s rfl h1 j h2 u)
/-- the lags of a search -/
def lgF (ws vs : List (List Nat)) (kvs : List (Nat × List Nat)) (j : Nat) : Nat × List Nat := lagR ws vs ((kvs.lookup j).getD [])
theorem lgF_of {kvs : List (Nat × List Nat)} (nd : (keysF kvs).Nodup) {j : Nat} {s : List Nat} (h : (j, s) ∈ kvs) : lgF ws vs kvs j = lagR ws vs s := by
  unfold lgF
  rw [look_of nd h]; rfl
theorem Dn2.cons (o : TO L rs es) {kvs : List (Nat × List Nat)} (d : Dn2 rs es ws vs kvs) (en : ∀ j s, (j, s) ∈ kvs → j ∈ es → lagR ws vs s = (0, [])) : Cons rs es ws vs (lgF ws vs kvs) where
  root := fun u => by rw [lgF_of d.fo.nd (d.fo.root u), lagR_nil]
  ok := fun j u => by
    obtain ⟨s, h⟩ := d.key u
    rw [lgF_of d.fo.nd h]
    exact d.fo.ok _ h
  next := fun j p q u st uq => by
    obtain ⟨s, h⟩ := d.key u
    obtain ⟨t, h1, h2⟩ := d.cl j s h p q st uq
    rw [lgF_of d.fo.nd h, lgF_of d.fo.nd h1, ← h2]
    have := lagR_next (d.fo.ok _ h) (97 + p)
    unfold wd at this
    rw [Nat.add_sub_cancel_left] at this
    exact this
  ends := fun j u je => by
    obtain ⟨s, h⟩ := d.key u
    rw [lgF_of d.fo.nd h]
    exact en j s h je
/-- the lags are one -/
theorem cons_uniq {f g : Nat → Nat × List Nat} (c : Cons rs es ws vs f) (d : Cons rs es ws vs g) {j : Nat} (u : Usf rs es j) : f j = g j := by
  obtain ⟨⟨s, h1, h2⟩, _⟩ := id u
  rw [← cons_rows c _ s rfl h1 j h2 u, cons_rows d _ s rfl h1 j h2 u]
theorem Fo.start (o : TO L rs es) {us : List Nat} (hu : ∀ j, j ∈ us ↔ Usf rs es j) : Fo rs es ws vs (if 0 ∈ us then [(0, [])] else []) := by
  by_cases z : 0 ∈ us
  · rw [if_pos z]
    refine ⟨by simp [keysF], fun j hj => ?_, fun p hp => ?_, fun e he => ?_, fun _ => by simp⟩
    · simp [keysF] at hj; rw [hj]; exact (hu 0).mp z
    · rw [List.mem_singleton.mp hp]; exact ⟨rfl, fun _ z => (nomatch z), by decide⟩
    · rw [List.mem_singleton.mp he]
      show (lagR ws vs []).1 ≤ 1
      rw [lagR_nil]; decide
  · rw [if_neg z]
    exact ⟨by simp [keysF], fun j hj => (nomatch hj), fun p hp => (nomatch hp), fun e he => (nomatch he), fun u => absurd ((hu 0).mpr u) z⟩
/-- found lags as a dict -/
def lk (ws vs : List (List Nat)) (kvs : List (Nat × List Nat)) : List (Nat × PV) := kvs.map fun p => (p.1, lagV (lagR ws vs p.2))
theorem lagR_ok {ws vs : List (List Nat)} (b1 : BkO L ws) (b2 : BkO L vs) (s : List Nat) : (lagR ws vs s).1 ≤ 2 ∧ xyz (lagR ws vs s).2 ∧ (lagR ws vs s).2.length ≤ 6 * s.length := by
  obtain ⟨l1, x1⟩ := sd_ok b1 s
  obtain ⟨l2, x2⟩ := sd_ok b2 s
  obtain ⟨a, b⟩ := lagP_ok (a := sd ws s) (b := sd vs s) x1 x2
  refine ⟨a, b, ?_⟩
  unfold lagR lagP
  split
  · show (List.drop _ _).length ≤ _
    rw [List.length_drop]; omega
  · split
    · show (List.drop _ _).length ≤ _
      rw [List.length_drop]; omega
    · exact Nat.zero_le _
end
end MM

end
section
set_option maxRecDepth 100000
set_option maxHeartbeats 4000000
namespace MM
open PySem L2 MC
section
variable {L : Nat} {rs : List (List (Option Nat))} {es : List Nat} {ws vs : List (List Nat)}
/-- the state of the search -/
structure Sst (rs : List (List (Option Nat))) (es : List Nat) (ws vs : List (List Nat)) (kvs : List (Nat × List Nat)) (ls : List Nat) (h : PH) : Prop where
  fo : Fo rs es ws vs kvs
  k0 : h[0]? = some (.dic false (dv (lk ws vs kvs)))
  k1 : h[1]? = some (.lst ((enI ls).map PV.int))
  hl : h.length = 2
  lk : ∀ j ∈ ls, j ∈ keysF kvs
/-- what the loop of goals keeps -/
structure Sin (rs : List (List (Option Nat))) (es : List Nat) (ws vs : List (List Nat)) (kvs kvs' : List (Nat × List Nat)) (ls ls' : List Nat) (s : List Nat) (x t : Nat) : Prop where
  le : ls'.length + kvs.length = ls.length + kvs'.length
  ad : ∃ ad, kvs' = kvs ++ ad ∧ ls' = ls ++ keysF ad
  dn : ∀ p < t, ∀ q, stepG rs x p = some q → Usf rs es q → ∃ u, (q, u) ∈ kvs' ∧ lagR ws vs (s ++ [97 + p]) = lagR ws vs u
/-- the lags of all stands, None for others -/
structure LX (rs : List (List (Option Nat))) (es : List Nat) (ws vs : List (List Nat)) (xs : List PV) (f : Nat → Nat × List Nat) : Prop where
  cons : Cons rs es ws vs f
  len : xs.length = rs.length
  us : ∀ j, Usf rs es j → xs[j]? = some (lagV (f j))
  non : ∀ j < rs.length, ¬ Usf rs es j → xs[j]? = some .non
  row : ∀ j, Usf rs es j → ∃ s : List Nat, s.length ≤ 8 ∧ f j = lagR ws vs s
theorem LX.uniq (o : TO L rs es) {xs ys : List PV} {f g : Nat → Nat × List Nat} (h : LX rs es ws vs xs f) (k : LX rs es ws vs ys g) : xs = ys := by
  refine List.ext_getElem? fun j => ?_
  by_cases l : j < rs.length
  · by_cases u : Usf rs es j
    · rw [h.us j u, k.us j u, cons_uniq h.cons k.cons u]
    · rw [h.non j l u, k.non j l u]
  · rw [List.getElem?_eq_none (by rw [h.len]; omega), List.getElem?_eq_none (by rw [k.len]; omega)]
end
end MM

end
section
set_option maxRecDepth 100000
set_option maxHeartbeats 4000000
namespace MM
open PySem L2 MC
def cutR (ws vs : List (List Nat)) (s : List Nat) : List Nat × List Nat := cutP (sd ws s) (sd vs s)
def cV (p : List Nat × List Nat) : PV := .tup [.str p.1, .str p.2]
section
variable {L : Nat} {rs : List (List (Option Nat))} {es : List Nat} {ws vs : List (List Nat)}
/-- found lags as the law's dict -/
def ck (ws vs : List (List Nat)) (kvs : List (Nat × List Nat)) : List (Nat × PV) := kvs.map fun p => (p.1, cV (cutR ws vs p.2))
end
end MM

end
section
set_option maxRecDepth 100000
set_option maxHeartbeats 4000000
namespace MM
open PySem L2 MC
/-- putting into a dict of numbers -/
def putN (j : Nat) (x : PV) (E : List (Nat × PV)) : List (Nat × PV) := bif (E.lookup j).isSome then E.map (fun p => bif j == p.1 then (p.1, x) else p) else E ++ [(j, x)]
theorem putN_len (j : Nat) (x : PV) (E : List (Nat × PV)) : (putN j x E).length ≤ E.length + 1 := by
  unfold putN
  cases (E.lookup j).isSome with
  | true => rw [cond_true, List.length_map]; omega
  | false => rw [cond_false, List.length_append]; exact Nat.le_refl _
theorem putN_map (i j : Nat) (x : PV) : ∀ E : List (Nat × PV), (E.map (fun p => bif j == p.1 then (p.1, x) else p)).lookup i = if i = j then (E.lookup j).map (fun _ => x) else E.lookup i
  | [] => by split <;> rfl
  | (k, v) :: r => by
    have ih := putN_map i j x r
    rw [List.map_cons]
    show List.lookup i ((bif j == k then (k, x) else (k, v)) :: _) = _
    by_cases e : j = k
    · subst e
      rw [beq_self_eq_true, cond_true, List.lookup_cons, List.lookup_cons, List.lookup_cons, ih, beq_self_eq_true]
      by_cases q : i = j
      · subst q; simp
      · rw [beq_eq_false_iff_ne.mpr q, if_neg q]
        simp [q]
    · rw [beq_eq_false_iff_ne.mpr e, cond_false, List.lookup_cons, List.lookup_cons, List.lookup_cons, ih, beq_eq_false_iff_ne.mpr e]
      by_cases q : i = j
      · subst q
        rw [beq_eq_false_iff_ne.mpr e]
        try simp
      · simp [q]
theorem look_app (i : Nat) (k : Nat) (x : PV) : ∀ E : List (Nat × PV), (E ++ [(k, x)]).lookup i = match E.lookup i with
    | some v => some v
    | none => if i = k then some x else none
  | [] => by
    show List.lookup i [(k, x)] = _
    rw [List.lookup_cons]
    by_cases q : i = k
    · subst q; simp
    · rw [beq_eq_false_iff_ne.mpr q]; simp [q]
  | (a, v) :: r => by
    rw [List.cons_append, List.lookup_cons, List.lookup_cons, look_app i k x r]
    cases i == a <;> rfl
theorem putN_look (i j : Nat) (x : PV) (E : List (Nat × PV)) : (putN j x E).lookup i = if i = j then some x else E.lookup i := by
  unfold putN
  cases c : (E.lookup j).isSome with
  | true =>
    rw [cond_true, putN_map]
    obtain ⟨v, e⟩ := Option.isSome_iff_exists.mp c
    rw [e]; rfl
  | false =>
    rw [cond_false, look_app]
    have e : E.lookup j = none := by
      cases z : E.lookup j with
      | none => rfl
      | some v => rw [z] at c; cases c
    by_cases q : i = j
    · subst q; rw [e]; try simp
    · cases E.lookup i <;> simp [q]
section
variable {L : Nat} {rs : List (List (Option Nat))} {es : List Nat} {ws vs : List (List Nat)}
/-- the rows kept at a stand -/
def ks (al : List (Nat × List Nat)) (j : Nat) : List (List Nat) := (al.filter fun p => p.1 == j).map (·.2)
theorem ks_app (al : List (Nat × List Nat)) (i : Nat) (s : List Nat) (j : Nat) : ks (al ++ [(i, s)]) j = ks al j ++ (if j = i then [s] else []) := by
  unfold ks
  rw [List.filter_append, List.map_append]
  by_cases q : j = i
  · subst q; simp
  · have : (i == j) = false := beq_eq_false_iff_ne.mpr (Ne.symm q)
    simp [this, q]
/-- a lag is kept, or two are -/
def Sat (ws vs : List (List Nat)) (al : List (Nat × List Nat)) (q : Nat) (l : Nat × List Nat) : Prop := l ∈ (ks al q).map (lagR ws vs) ∨ 2 ≤ (ks al q).length
theorem Sat.app {al : List (Nat × List Nat)} {q : Nat} {l : Nat × List Nat} (h : Sat ws vs al q l) (i : Nat) (s : List Nat) : Sat ws vs (al ++ [(i, s)]) q l := by
  unfold Sat at h ⊢
  rw [ks_app]
  rcases h with h | h
  · left; rw [List.map_append]; exact List.mem_append_left _ h
  · right; rw [List.length_append]; omega
structure Kp (rs : List (List (Option Nat))) (es : List Nat) (ws vs : List (List Nat)) (al : List (Nat × List Nat)) : Prop where
  rw : ∀ j s, (j, s) ∈ al → Usf rs es j ∧ (∀ c ∈ s, c ∈ letS) ∧ goalF rs (some 0) s = some j
  nd : ∀ j, ((ks al j).map (lagR ws vs)).Nodup
  two : ∀ j, (ks al j).length ≤ 2
  en : ∀ j s, (j, s) ∈ al → j ∈ es → lagR ws vs s = (0, [])
/-- what al0 leads to is kept, or pending -/
structure Kn (rs : List (List (Option Nat))) (es : List Nat) (ws vs : List (List Nat)) (al0 al pen : List (Nat × List Nat)) : Prop where
  root : Usf rs es 0 → Sat ws vs al 0 (0, []) ∨ (0, []) ∈ pen
  next : ∀ j s, (j, s) ∈ al0 → ∀ p q, stepG rs j p = some q → Usf rs es q → Sat ws vs al q (lagR ws vs (s ++ [97 + p])) ∨ (q, s ++ [97 + p]) ∈ pen
theorem Kn.more {al0 al pen pen2 : List (Nat × List Nat)} (k : Kn rs es ws vs al0 al pen) (h : ∀ x ∈ pen, x ∈ pen2) : Kn rs es ws vs al0 al pen2 where
  root := fun u => (k.root u).imp id (h _)
  next := fun i t hi p q h1 h2 => (k.next i t hi p q h1 h2).imp id (h _)
theorem Kn.grow {al0 al pen : List (Nat × List Nat)} (k : Kn rs es ws vs al0 al pen) (j : Nat) (s : List Nat) : Kn rs es ws vs al0 (al ++ [(j, s)]) pen where
  root := fun u => (k.root u).imp (fun z => z.app j s) id
  next := fun i t hi p q h1 h2 => (k.next i t hi p q h1 h2).imp (fun z => z.app j s) id
/-- at most two rows for each stand -/
theorem cnt_two : ∀ (n : Nat) (al : List (Nat × List Nat)), (∀ p ∈ al, p.1 < n) → (∀ j, (ks al j).length ≤ 2) → al.length ≤ 2 * n
  | 0, al, h, _ => by
    cases al with
    | nil => exact Nat.le_refl _
    | cons p r => exact absurd (h p List.mem_cons_self) (Nat.not_lt_zero _)
  | n + 1, al, h, t => by
    have ih := cnt_two n (al.filter fun p => !(p.1 == n)) (fun p hp => by
      obtain ⟨h1, h2⟩ := List.mem_filter.mp hp
      have := h p h1
      have : p.1 ≠ n := by simpa using h2
      omega) fun j => by
        refine Nat.le_trans ?_ (t j)
        unfold ks
        rw [List.length_map, List.length_map, List.filter_filter]
        have : ∀ l : List (Nat × List Nat), (l.filter fun a => (a.1 == j) && !(a.1 == n)).length ≤ (l.filter fun a => a.1 == j).length := by
          intro l
          induction l with
          | nil => exact Nat.le_refl _
          | cons a l ih =>
            rw [List.filter_cons, List.filter_cons]
            cases a.1 == j <;> cases a.1 == n <;> simp <;> omega
        exact this al
    have e : ∀ l : List (Nat × List Nat), l.length = (l.filter fun p => p.1 == n).length + (l.filter fun p => !(p.1 == n)).length := by
      intro l
      induction l with
      | nil => rfl
      | cons a l ih =>
        rw [List.filter_cons, List.filter_cons]
        cases a.1 == n <;> simp <;> omega
    have := t n
    unfold ks at this
    rw [List.length_map] at this
    rw [e al]
    omega
theorem Kp.len (o : TO L rs es) {al : List (Nat × List Nat)} (k : Kp rs es ws vs al) : al.length ≤ 16 := by
  have := cnt_two rs.length al (fun p hp => usf_lt o (k.rw p.1 p.2 hp).1) k.two
  have := n8 o
  omega
end
end MM

end
section
set_option maxRecDepth 100000
set_option maxHeartbeats 4000000
namespace MM
open PySem L2 MC
section
variable {L : Nat} {rs : List (List (Option Nat))} {es : List Nat} {ws vs : List (List Nat)}
/-- a pending row -/
def ent (ws vs : List (List Nat)) (p : Nat × List Nat) : PV := .tup [.str p.2, .int p.1, lagV (lagR ws vs p.2)]
/-- the lags kept, as a dict -/
def Kdic (ws vs : List (List Nat)) (al : List (Nat × List Nat)) (E : List (Nat × PV)) : Prop := E.length ≤ al.length ∧ ∀ j, E.lookup j = if ks al j = [] then none else some (.tup (((ks al j).map (lagR ws vs)).map lagV))
theorem Kdic.get {al : List (Nat × List Nat)} {E : List (Nat × PV)} (k : Kdic ws vs al E) (j : Nat) : (E.lookup j).getD (.tup []) = .tup (((ks al j).map (lagR ws vs)).map lagV) := by
  rw [k.2 j]
  by_cases c : ks al j = []
  · rw [if_pos c, c]; rfl
  · rw [if_neg c]; rfl
theorem Kdic.put {al : List (Nat × List Nat)} {E : List (Nat × PV)} (k : Kdic ws vs al E) (j : Nat) (s : List Nat) : Kdic ws vs (al ++ [(j, s)]) (putN j (.tup (((ks al j).map (lagR ws vs)).map lagV ++ [lagV (lagR ws vs s)])) E) := by
  refine ⟨?_, fun i => ?_⟩
  · have := putN_len j (.tup (((ks al j).map (lagR ws vs)).map lagV ++ [lagV (lagR ws vs s)])) E
    have := k.1
    rw [List.length_append]; show _ ≤ al.length + 1; omega
  · rw [putN_look, ks_app]
    by_cases q : i = j
    · subst q
      rw [if_pos rfl, if_pos rfl, if_neg (by simp), List.map_append, List.map_append]; rfl
    · rw [if_neg q, if_neg q, List.append_nil]; exact k.2 i
/-- rows of one length to useful stands -/
def Rw (rs : List (List (Option Nat))) (es : List Nat) (d : Nat) (pen : List (Nat × List Nat)) : Prop := ∀ j s, (j, s) ∈ pen → Usf rs es j ∧ (∀ c ∈ s, c ∈ letS) ∧ goalF rs (some 0) s = some j ∧ s.length = d
/-- the state of the search -/
structure Dst (rs : List (List (Option Nat))) (es : List Nat) (ws vs : List (List Nat)) (al : List (Nat × List Nat)) (h : PH) : Prop where
  kp : Kp rs es ws vs al
  kd : ∃ E, h[0]? = some (.dic false (dv E)) ∧ Kdic ws vs al E
/-- the state within a layer: al0 before it, lat the later rows -/
structure Lay (rs : List (List (Option Nat))) (es : List Nat) (ws vs : List (List Nat)) (d : Nat) (pen al0 al lat : List (Nat × List Nat)) (t i a : Nat) (h : PH) : Prop where
  st : Dst rs es ws vs al h
  ki : h[i]? = some (.lst (pen.map (ent ws vs)))
  ka : h[a]? = some (.lst (lat.map (ent ws vs)))
  i0 : i ≠ 0
  a0 : a ≠ 0
  ia : i ≠ a
  kn : Kn rs es ws vs al al (pen.drop t ++ lat)
  rl : Rw rs es (d + 1) lat
  le : al0.length ≤ al.length
  gr : lat ≠ [] → al0.length < al.length
  ll : lat.length ≤ 5 * al.length
end
end MM

end
section
set_option maxRecDepth 100000
set_option maxHeartbeats 4000000
namespace MM
open PySem L2 MC
section
variable {L : Nat} {rs : List (List (Option Nat))} {es : List Nat}
end
end MM

end
section
set_option maxRecDepth 100000
set_option maxHeartbeats 4000000
namespace MM
open PySem L2 MC
def ixN (od : List Nat) (g : Nat) : Nat := (idxOfI g (enI od)).getD 0
section
variable {L : Nat} {rs : List (List (Option Nat))} {es : List Nat}
end
end MM

end
section
set_option maxRecDepth 100000
set_option maxHeartbeats 4000000
namespace MM
open PySem L2 MC
section
variable {L : Nat} {rs : List (List (Option Nat))} {es : List Nat}
end
end MM

end
section
set_option maxRecDepth 100000
set_option maxHeartbeats 4000000
namespace MC
open PySem L2
end MC
namespace MM
open PySem L2 MC
abbrev Pr := Option Nat × Option Nat
def prV (p : Pr) : PV := .tup [ov p.1, ov p.2]
def dp (kvs : List (Pr × List Nat)) : List (PV × PV) := kvs.map fun p => (prV p.1, .str p.2)
def keysP (kvs : List (Pr × List Nat)) : List Pr := kvs.map (·.1)
section
variable {h : PH} {n : Nat} {lk : Bool} {kvs : List (Pr × List Nat)} {p : Pr}
end
def prOk (p : Pr) : Prop := (∀ k, p.1 = some k → k < 100) ∧ ∀ k, p.2 = some k → k < 100
end MM

end
section
set_option maxRecDepth 100000
set_option maxHeartbeats 4000000
namespace MM
open PySem L2 MC
/-- the pair to which a row leads -/
def gp (r1 r2 : List (List (Option Nat))) (s : List Nat) : Pr := (goalF r1 (some 0) s, goalF r2 (some 0) s)
def NN : Pr := (none, none)
section
variable {L : Nat} {rs : List (List (Option Nat))} {es : List Nat}
end
/-- what a search of pairs has -/
structure Bst (r1 r2 : List (List (Option Nat))) (kvs : List (Pr × List Nat)) : Prop where
  nd : (keysP kvs).Nodup
  lt : ∀ p ∈ keysP kvs, (∀ k, p.1 = some k → k < r1.length) ∧ ∀ k, p.2 = some k → k < r2.length
  rows : ∀ e ∈ kvs, (∀ c ∈ e.2, c ∈ letS) ∧ gp r1 r2 e.2 = e.1 ∧ e.2.length < kvs.length
  root : (some 0, some 0) ∈ keysP kvs
  nn : NN ∉ keysP kvs
def encO (g : Option Nat) : Nat := match g with
  | none => 0
  | some k => k + 1
def encP (p : Pr) : Nat := encO p.1 * 9 + encO p.2
theorem encO_inj {a b : Option Nat} (h : encO a = encO b) : a = b := by
  cases a <;> cases b <;> simp [encO] at h ⊢
  exact h
theorem Bst.len {r1 r2 : List (List (Option Nat))} {kvs : List (Pr × List Nat)} (b : Bst r1 r2 kvs) (h1 : r1.length ≤ 8) (h2 : r2.length ≤ 8) : kvs.length ≤ 81 := by
  have bd : ∀ p ∈ keysP kvs, encO p.1 < 9 ∧ encO p.2 < 9 := fun p hp => by
    obtain ⟨l1, l2⟩ := b.lt p hp
    constructor
    · cases e : p.1 with
      | none => exact (by decide : (0 : Nat) < 9)
      | some k => have := l1 k e; show k + 1 < 9; omega
    · cases e : p.2 with
      | none => exact (by decide : (0 : Nat) < 9)
      | some k => have := l2 k e; show k + 1 < 9; omega
  have nd : ((keysP kvs).map encP).Nodup := by
    refine List.pairwise_map.mpr (b.nd.imp_of_mem fun {x y} hx hy hne e => hne ?_)
    obtain ⟨x1, x2⟩ := bd x hx
    obtain ⟨y1, y2⟩ := bd y hy
    unfold encP at e
    exact Prod.ext (encO_inj (by omega)) (encO_inj (by omega))
  have := keys_len (n := 81) nd fun j hj => by
    obtain ⟨p, hp, rfl⟩ := List.mem_map.mp hj
    obtain ⟨x1, x2⟩ := bd p hp
    unfold encP; omega
  unfold keysP at this
  rwa [List.length_map, List.length_map] at this
end MM

end
section
set_option maxRecDepth 100000
set_option maxHeartbeats 4000000
namespace MM
open PySem L2 MC
section
variable {L M : Nat} {rs qs : List (List (Option Nat))} {es fs : List Nat}
/-- the state of the search: its queue ls, since kvs and ls0 -/
structure Qst (r1 r2 : List (List (Option Nat))) (kvs : List (Pr × List Nat)) (ls : List Pr) (i : Nat) (h : PH) : Prop where
  b : Bst r1 r2 kvs
  k0 : h[0]? = some (.dit false (dp kvs))
  ki : h[i]? = some (.lst (ls.map prV))
  ls : ∀ p ∈ ls, p ∈ keysP kvs
  i0 : i ≠ 0
theorem Bst.ok {r1 r2 : List (List (Option Nat))} {kvs : List (Pr × List Nat)} (b : Bst r1 r2 kvs) (h1 : r1.length ≤ 8) (h2 : r2.length ≤ 8) : ∀ p ∈ keysP kvs, prOk p := fun p hp => by
  obtain ⟨l1, l2⟩ := b.lt p hp
  exact ⟨fun k e => by have := l1 k e; omega, fun k e => by have := l2 k e; omega⟩
end
end MM

end
section
set_option maxRecDepth 100000
set_option maxHeartbeats 4000000
namespace MM
open PySem L2 MC
def inE (es : List Nat) (g : Option Nat) : Bool := match g with
  | some k => decide (k ∈ es)
  | none => false
section
variable {L M : Nat} {rs qs : List (List (Option Nat))} {es fs : List Nat}
end
end MM

end
section
set_option maxRecDepth 100000
set_option maxHeartbeats 4000000
namespace MM
open PySem L2 MC
section
variable {L M : Nat} {rs qs : List (List (Option Nat))} {es fs : List Nat}
end
end MM

end
section
set_option maxRecDepth 100000
set_option maxHeartbeats 4000000
namespace MM
open PySem L2 MC
section
variable {L M : Nat} {rs qs : List (List (Option Nat))} {es fs : List Nat}
end
end MM

end
section
set_option maxRecDepth 100000
set_option maxHeartbeats 4000000
namespace MM
open PySem L2 MC
section
variable {L M : Nat} {rs qs : List (List (Option Nat))} {es fs : List Nat}
end
end MM

end
section
set_option maxRecDepth 100000
set_option maxHeartbeats 4000000
namespace MM
open PySem L2 MC
section
variable {L M : Nat} {rs qs : List (List (Option Nat))} {es fs : List Nat}
theorem mk_no (o : TO L rs es) : noRef (mk L rs es) = true := mach_noref o
end
end MM

end
section
set_option maxRecDepth 100000
set_option maxHeartbeats 4000000
namespace MM
open PySem L2 MC
section
variable {L : Nat} {rs : List (List (Option Nat))} {es : List Nat} {ws vs : List (List Nat)}
/-- the lags are accepted -/
theorem LX.lag (o : TO L rs es) (b1 : BkO L ws) (b2 : BkO L vs) {xs : List PV} {f : Nat → Nat × List Nat} (h : LX rs es ws vs xs f) {j : Nat} (u : Usf rs es j) : (f j).1 ≤ 1 ∧ ((f j).1 = 0 ∨ (f j).2 ≠ []) ∧ xyz (f j).2 ∧ (f j).2.length ≤ 48 := by
  obtain ⟨s, hs, e⟩ := h.row j u
  obtain ⟨q1, q2, q3⟩ := lagR_ok b1 b2 s
  refine ⟨h.cons.ok j u, ?_, by rw [e]; exact q2, by rw [e]; omega⟩
  rw [e]
  have := lagP_is (sd ws s) (sd vs s)
  have k := h.cons.ok j u
  rw [e] at k
  unfold lagR at k ⊢
  generalize lagP (sd ws s) (sd vs s) = p at *
  cases this with
  | left r _ => exact .inl rfl
  | right r _ n => exact .inr n
  | broken _ _ => exact absurd k (by decide)
theorem LX.LE (o : TO L rs es) (b1 : BkO L ws) (b2 : BkO L vs) {xs : List PV} {f : Nat → Nat × List Nat} (h : LX rs es ws vs xs f) : ∀ x ∈ xs, MM.LE x := fun x hx => by
  obtain ⟨j, hj⟩ := List.mem_iff_getElem?.mp hx
  by_cases u : Usf rs es j
  · rw [h.us j u] at hj
    cases hj
    obtain ⟨k1, k2, k3, k4⟩ := h.lag o b1 b2 u
    exact .inr (.inl ⟨f j, rfl, by omega, k3, by omega⟩)
  · have l := (List.getElem?_eq_some_iff.mp hj).1
    rw [h.len] at l
    rw [h.non j l u] at hj
    cases hj; exact .inl rfl
end
end MM

end
section
set_option maxRecDepth 100000
set_option maxHeartbeats 4000000
namespace MM
open PySem L2 MC
end MM

end
section
set_option maxRecDepth 100000
set_option maxHeartbeats 4000000
namespace MM
open PySem L2 MC
section
variable {L : Nat} {rs : List (List (Option Nat))} {es : List Nat}
end
end MM

end
section
set_option maxRecDepth 100000
set_option maxHeartbeats 4000000
namespace MM
open PySem L2 MC
section
variable {L : Nat} {rs : List (List (Option Nat))} {es : List Nat}
end
end MM

end
section
set_option maxRecDepth 100000
set_option maxHeartbeats 4000000
namespace MM
open PySem L2 MC
def rwV (p : List Nat × Nat) : PV := .tup [.str p.1, .int p.2]
def p5 : Nat → Nat
  | 0 => 1
  | t + 1 => 5 * p5 t
theorem p5_s (t : Nat) : p5 (t + 1) = 5 * p5 t := rfl
def RwP (rs : List (List (Option Nat))) (t : Nat) (l : List (List Nat × Nat)) : Prop := ∀ s j, (s, j) ∈ l → (∀ c ∈ s, c ∈ letS) ∧ goalF rs (some 0) s = some j ∧ s.length = t
section
variable {L : Nat} {rs : List (List (Option Nat))} {es : List Nat}
end
end MM

end
section
set_option maxRecDepth 100000
set_option maxHeartbeats 4000000
namespace MM
open PySem L2 MC
def nxF (rs : List (List (Option Nat))) (p : List Nat × Nat) (k : Nat) : Option (List Nat × Nat) := (stepG rs p.2 k).map fun g => (p.1 ++ [97 + k], g)
def nxL (L : Nat) (rs : List (List (Option Nat))) (p : List Nat × Nat) : List (List Nat × Nat) := (List.range L).filterMap (nxF rs p)
def rowsL (L : Nat) (rs : List (List (Option Nat))) : Nat → List (List Nat × Nat)
  | 0 => [([], 0)]
  | t + 1 => (rowsL L rs t).flatMap (nxL L rs)
theorem rowsL_s (L : Nat) (rs : List (List (Option Nat))) (t : Nat) : rowsL L rs (t + 1) = (rowsL L rs t).flatMap (nxL L rs) := rfl
theorem p5_le8 {t : Nat} (h : t ≤ 8) : p5 t ≤ 390625 := by
  rcases (show t = 0 ∨ t = 1 ∨ t = 2 ∨ t = 3 ∨ t = 4 ∨ t = 5 ∨ t = 6 ∨ t = 7 ∨ t = 8 by omega) with rfl | rfl | rfl | rfl | rfl | rfl | rfl | rfl | rfl <;> decide
theorem nxL_len {L : Nat} {rs : List (List (Option Nat))} (p : List Nat × Nat) : (nxL L rs p).length ≤ L := by
  have := List.length_filterMap_le (nxF rs p) (List.range L)
  rw [List.length_range] at this
  exact this
theorem flat_len {α β : Type} (f : α → List β) (n : Nat) (h : ∀ a, (f a).length ≤ n) : ∀ l : List α, (l.flatMap f).length ≤ n * l.length
  | [] => by simp
  | a :: l => by
    rw [List.flatMap_cons, List.length_append, List.length_cons, Nat.mul_add]
    have := flat_len f n h l
    have := h a
    omega
theorem rowsL_len {L : Nat} {rs : List (List (Option Nat))} (hL : L ≤ 5) : ∀ t, (rowsL L rs t).length ≤ p5 t
  | 0 => Nat.le_refl 1
  | t + 1 => by
    have h1 := flat_len (nxL L rs) 5 (fun a => Nat.le_trans (nxL_len a) hL) (rowsL L rs t)
    have := rowsL_len (rs := rs) hL t
    rw [rowsL_s, p5_s]
    omega
section
variable {L : Nat} {rs : List (List (Option Nat))} {es : List Nat}
theorem rowsL_ok (o : TO L rs es) : ∀ t, RwP rs t (rowsL L rs t)
  | 0 => fun s j h => by cases List.mem_singleton.mp h; exact ⟨fun _ z => (nomatch z), rfl, rfl⟩
  | t + 1 => fun s j h => by
    obtain ⟨p, hp, h2⟩ := List.mem_flatMap.mp h
    obtain ⟨k, hk, h3⟩ := List.mem_filterMap.mp h2
    obtain ⟨g, hg, e⟩ := Option.map_eq_some_iff.mp h3
    cases e
    obtain ⟨s1, s2, s3⟩ := rowsL_ok o t p.1 p.2 hp
    have := List.mem_range.mp hk
    have := o.l5
    exact ⟨let_snoc s1 (by omega), goal_snoc s2 hg, by rw [List.length_append, s3]; rfl⟩
/-- all rows are there -/
theorem rowsL_all (o : TO L rs es) : ∀ (t : Nat) (s : List Nat) (j : Nat), (∀ c ∈ s, c ∈ letS) → goalF rs (some 0) s = some j → s.length = t → (s, j) ∈ rowsL L rs t
  | 0, s, j, h1, h2, h3 => by
    rw [List.length_eq_zero_iff.mp h3] at h2 ⊢
    cases h2
    exact List.mem_singleton.mpr rfl
  | t + 1, s, j, h1, h2, h3 => by
    obtain ⟨r, c, rfl⟩ : ∃ r c, s = r ++ [c] := ⟨s.dropLast, s.getLast (by intro e; rw [e] at h3; cases h3), (List.dropLast_concat_getLast _).symm⟩
    rw [goalF_app] at h2
    cases g : goalF rs (some 0) r with
    | none => rw [g] at h2; cases h2
    | some k =>
      rw [g] at h2
      have e' : stepG rs k (c - 97) = some j := h2
      have hc := h1 c (List.mem_append_right _ (List.mem_singleton.mpr rfl))
      have d97 : 97 + (c - 97) = c := by
        have q : c ∈ [97, 98, 99, 100, 101] := hc
        simp at q
        omega
      refine List.mem_flatMap.mpr ⟨(r, k), rowsL_all o t r k (fun x hx => h1 x (List.mem_append_left _ hx)) g (by rw [List.length_append] at h3; simpa using h3), List.mem_filterMap.mpr ⟨c - 97, List.mem_range.mpr (step_p5 o e'), ?_⟩⟩
      show (stepG rs k (c - 97)).map _ = _
      rw [e', d97]; rfl
theorem srows_xw (o : TO L rs es) {k : Nat} (hk : k ≤ 8) : Ws (m__law_rows [pl L rs es, .int k] []) fun v g => ∃ (i : Nat), v = .ref i ∧ g[i]? = some (.lst ((rowsL L rs k).map rwV)) := by
  have nn := n8 o
  have L15 : 1 ≤ L ∧ L ≤ 5 := ⟨o.l1, o.l5⟩
  have q0 : ∀ h, opIx h (pl L rs es) (.int 0) = .ok (.int L) h := fun h => pl0 h
  have q1 : ∀ h, opIx h (pl L rs es) (.int 1) = .ok (.tup (rowsV rs)) h := fun h => pl1 h
  unfold m__law_rows
  simp [b__law_rows, LIM, inR_small (i := (k : Int)) (by omega) (by omega)]
  refine forB (fun t e h => ∃ (i : Nat) (x3 x4 x5 x6 x7 : Option PV), e = [some (pl L rs es), some (.int k), some (.ref i), x3, x4, x5, x6, x7] ∧ h[i]? = some (.lst ((rowsL L rs t).map rwV)))
    ⟨0, _, _, _, _, _, rfl, rfl⟩ (fun _ _ _ _ => rfl) (fun t v env h hv ⟨i, x3, x4, x5, x6, x7, ee, ki⟩ => ?_) fun env h ⟨i, x3, x4, x5, x6, x7, ee, ki⟩ => ?_
  · subst ee
    obtain ⟨ht, rfl⟩ := at_seqI hv
    have b5 := p5_le8 (t := t) (by omega)
    have ll := rowsL_len (rs := rs) L15.2 t
    have rp := rowsL_ok o t
    rw [rowsL_s]
    generalize rowsL L rs t = l at *
    simp
    have ki2 := get_app (os := [PO.lst []]) ki
    have il : i < h.length := (List.getElem?_eq_some_iff.mp ki).1
    obtain ⟨a, ea⟩ : ∃ a, a = h.length := ⟨_, rfl⟩
    have ka : (h ++ [PO.lst []])[a]? = some (.lst (([] : List (List Nat × Nat)).map rwV)) := by rw [ea]; exact last_at
    rw [src_ref ki2, ← ea]
    simp
    refine forB (fun u e h => ∃ (lat : List (List Nat × Nat)) (x5 x6 x7 : Option PV), e = [some (pl L rs es), some (.int k), some (.ref i), some (.int (t : Int)), some (.ref a), x5, x6, x7] ∧ h[i]? = some (.lst (l.map rwV)) ∧ h[a]? = some (.lst (lat.map rwV)) ∧ lat = (l.take u).flatMap (nxL L rs))
      ⟨[], _, _, _, rfl, ki2, ka, by simp⟩ (fun _ _ _ ⟨_, _, _, _, _, q, _⟩ => watch_mk q) (fun u v env h hv ⟨lat, x5, x6, x7, ee, ki, ka, rl⟩ => ?_) fun env h ⟨lat, x5, x6, x7, ee, ki, ka, rl⟩ => ?_
    · subst ee
      rw [List.getElem?_map] at hv
      obtain ⟨s, j, hp, rfl⟩ : ∃ s j, l[u]? = some (s, j) ∧ v = rwV (s, j) := by
        cases e : l[u]? with
        | none => rw [e] at hv; cases hv
        | some p => rw [e] at hv; cases hv; exact ⟨p.1, p.2, rfl, rfl⟩
      have ulen := (List.getElem?_eq_some_iff.mp hp).1
      obtain ⟨s1, s2, s3⟩ := rp s j (List.mem_of_getElem? hp)
      have ul : lat.length ≤ 5 * u := by
        have h1 := flat_len (nxL L rs) 5 (fun a => Nat.le_trans (nxL_len a) L15.2) (l.take u)
        rw [← rl, List.length_take] at h1
        omega
      have tk : (l.take (u + 1)).flatMap (nxL L rs) = lat ++ nxL L rs (s, j) := by
        rw [List.take_add_one, hp, List.flatMap_append, ← rl]
        simp
      have jl : j < rs.length := goalF_lt o s (some 0) j (fun i e => by cases e; omega) s2
      obtain ⟨r, hr⟩ : ∃ r, rs[j]? = some r := ⟨_, List.getElem?_eq_getElem jl⟩
      have qr : ∀ h, opIx h (.tup (rowsV rs)) (.int j) = .ok (rowV r) h := fun h => ix_tup (by unfold rowsV; rw [List.getElem?_map, hr]; rfl)
      have lr := (o.row hr).1
      have st : ∀ p, stepG rs j p = (r[p]?).getD none := fun p => by unfold stepG; rw [hr]; rfl
      have ev : rwV (s, j) = .tup [.str s, .int j] := rfl
      rw [tk]
      clear rl
      simp [ev, q0, inR_small (i := (L : Int)) (by omega) (by omega)]
      refine forB (fun w e h => ∃ (x7 : Option PV), e = [some (pl L rs es), some (.int k), some (.ref i), some (.int (t : Int)), some (.ref a), some (.str s), some (.int j), x7] ∧ h[i]? = some (.lst (l.map rwV)) ∧ h[a]? = some (.lst ((lat ++ (List.range w).filterMap (nxF rs (s, j))).map rwV)))
        ⟨_, rfl, ki, by simpa using ka⟩ (fun _ _ _ _ => rfl) (fun w v env h hv ⟨x7, ee, ki, ka⟩ => ?_) fun env h ⟨x7, ee, ki, ka⟩ => ?_
      · subst ee
        obtain ⟨wl, rfl⟩ := at_seqI hv
        have e3 : r[w]? = some r[w] := List.getElem?_eq_getElem (by omega)
        have qc : ∀ h, opIx h (rowV r) (.int w) = .ok (ov r[w]) h := fun h => ix_tup (by rw [List.getElem?_map, e3]; rfl)
        have sg : stepG rs j w = r[w] := by rw [st, e3]; rfl
        have nn1 : ∀ h, opIs true h .non .non = .ok (.bl false) h := fun h => rfl
        have nn2 : ∀ h (i : Int), opIs true h (.int i) .non = .ok (.bl true) h := fun h i => rfl
        have rsx : (List.range (w + 1)).filterMap (nxF rs (s, j)) = (List.range w).filterMap (nxF rs (s, j)) ++ (nxF rs (s, j) w).toList := by
          rw [List.range_succ, List.filterMap_append]
          cases e : nxF rs (s, j) w <;> simp [List.filterMap_cons, e]
        have nf : nxF rs (s, j) w = (stepG rs j w).map fun g => (s ++ [97 + w], g) := rfl
        have lw := List.length_filterMap_le (nxF rs (s, j)) (List.range w)
        rw [List.length_range] at lw
        rw [rsx, nf, ← List.append_assoc]
        clear rsx
        generalize hM : lat ++ (List.range w).filterMap (nxF rs (s, j)) = M at *
        have lM : M.length ≤ 5 * u + w := by rw [← hM, List.length_append]; omega
        obtain ⟨gv, egv⟩ : ∃ gv, gv = r[w] := ⟨_, rfl⟩
        rw [← egv] at qc sg
        rw [sg]
        cases gv with
        | none =>
          simp [q1, qr, qc, ov, nn1]
          exact ⟨ki, ka⟩
        | some g =>
          have li := let_ix (g := w) (by omega)
          have ap := app_c (v := rwV (s ++ [97 + w], g)) ka (Nat.lt_of_le_of_lt (show (M.map rwV).length ≤ 1953125 by rw [List.length_map]; omega) (by decide))
          have el : M.map rwV ++ [rwV (s ++ [97 + w], g)] = (M ++ [(s ++ [97 + w], g)]).map rwV := by rw [List.map_append]; rfl
          rw [el] at ap
          have e4 : PV.tup [.str (s ++ [97 + w]), .int (g : Int)] = rwV (s ++ [97 + w], g) := rfl
          have ia : i ≠ a := by omega
          simp [-List.map_append, q1, qr, qc, ov, nn2, (li _).1, LIM, show s.length ≤ 16777215 by omega, show s.length + 1 ≤ 16777216 by omega, ty_lst ka, e4, ap]
          exact ⟨by rw [List.getElem?_set_ne (Ne.symm ia)]; exact ki, List.getElem?_set_self (List.getElem?_eq_some_iff.mp ka).1⟩
      · subst ee
        rw [len_seqI] at ka
        simp [-List.map_append]
        exact ⟨ki, ka⟩
    · subst ee
      rw [List.length_map, List.take_length] at rl
      subst rl
      simp
      exact ka
  · subst ee
    rw [len_seqI] at ki
    simp
    exact ki
theorem rwV_noref (l : List (List Nat × Nat)) : noRefs (l.map rwV) = true := by
  induction l with
  | nil => rfl
  | cons a l ih => rw [List.map_cons]; unfold noRefs; rw [ih]; rfl
theorem srows_x (o : TO L rs es) {k : Nat} (hk : k ≤ 8) (h : PH) : callG takeBack m__law_rows [pl L rs es, .int k] h = .ok (.ref h.length) (h ++ [.lst ((rowsL L rs k).map rwV)]) := by
  obtain ⟨v, g, e, i, rfl, hi⟩ := srows_xw o hk
  exact call_newl (by simp [noRefs, noRef, pl_noref o]) e hi (rwV_noref _)
end
end MM

end
section
set_option maxRecDepth 100000
set_option maxHeartbeats 4000000
namespace MM
open PySem L2 MC
/-- the texts of t letters, in order -/
def txL (L : Nat) (rs : List (List (Option Nat))) (es : List Nat) (t : Nat) : List (List Nat) := ((rowsL L rs t).filter fun p => decide (p.2 ∈ es)).map (·.1)
def isEnd (es : List Nat) (x : PV) : Bool := match x with
  | .tup [_, .int j] => decide (j.toNat ∈ es)
  | _ => false
def fstV (x : PV) : PV := match x with
  | .tup [.str s, _] => .str s
  | _ => .non
theorem txV (es : List Nat) (l : List (List Nat × Nat)) : ((l.map rwV).filter (isEnd es)).map fstV = ((l.filter fun p => decide (p.2 ∈ es)).map (·.1)).map PV.str := by
  rw [List.filter_map, List.map_map, List.map_map]
  rfl
section
variable {L : Nat} {rs : List (List (Option Nat))} {es : List Nat}
theorem _root_.MC.LL.keep {h h' : PH} {v : PV} {zss : List (List PV)} (l : LL h v zss) (k : ∀ n < h.length, h'[n]? = h[n]?) : LL h' v zss := by
  obtain ⟨i, js, e, e1, nd, ln, at_⟩ := l
  refine ⟨i, js, e, by rw [k i (List.getElem?_eq_some_iff.mp e1).1]; exact e1, nd, ln, fun t j hj => ?_⟩
  obtain ⟨zs, z1, z2, z3⟩ := at_ t j hj
  exact ⟨zs, z1, by rw [k j (List.getElem?_eq_some_iff.mp z2).1]; exact z2, z3⟩
def prL (L : Nat) (rs : List (List (Option Nat))) (es : List Nat) (n : Nat) : Nat → List (List Nat × Nat)
  | 0 => [([], 0)]
  | t + 1 => (prL L rs es n t).flatMap fun p => (nxL L rs p).filter fun q => decide (0 < Bt rs es (n - t - 1) q.2)
theorem prL_len (hL : L ≤ 5) (n : Nat) : ∀ t, (prL L rs es n t).length ≤ p5 t
  | 0 => Nat.le_refl 1
  | t + 1 => by
    have h1 := flat_len (fun p => (nxL L rs p).filter fun q => decide (0 < Bt rs es (n - t - 1) q.2)) 5 (fun a => Nat.le_trans (List.length_filter_le _ _) (Nat.le_trans (nxL_len a) hL)) (prL L rs es n t)
    have := prL_len hL n t
    rw [p5_s]
    show ((prL L rs es n t).flatMap _).length ≤ _
    omega
theorem Bt_child {l k p g : Nat} (h : stepG rs k p = some g) (hb : 0 < Bt rs es l g) : 0 < Bt rs es (l + 1) k := by
  have hg : g ∈ gsOf rs k := by
    unfold gsOf
    refine List.mem_filterMap.mpr ⟨some g, ?_, rfl⟩
    unfold stepG at h
    cases e : ((rs[k]?).getD [])[p]? with
    | none => rw [e] at h; cases h
    | some x =>
      rw [e] at h
      have : x = some g := h
      rw [← this]
      exact List.mem_of_getElem? e
  have hs : Bt rs es (l + 1) k = ((gsOf rs k).map (Bt rs es l)).sum := rfl
  rw [hs]
  have : ∀ ls : List Nat, g ∈ ls → Bt rs es l g ≤ (ls.map (Bt rs es l)).sum := by
    intro ls
    induction ls with
    | nil => intro z; cases z
    | cons a ls ih =>
      intro z
      rw [List.map_cons, List.sum_cons]
      rcases List.mem_cons.mp z with e | e
      · subst e; omega
      · have := ih e; omega
  exact Nat.lt_of_lt_of_le hb (this _ hg)
theorem flatMap_filt {α β : Type} (f : α → List β) (q : α → Bool) : ∀ l : List α, (∀ a ∈ l, q a = false → f a = []) → l.flatMap f = (l.filter q).flatMap f
  | [], _ => rfl
  | a :: l, h => by
    have ih := flatMap_filt f q l fun b hb => h b (List.mem_cons_of_mem _ hb)
    rw [List.flatMap_cons, List.filter_cons]
    cases e : q a with
    | true => simp [ih]
    | false => rw [h a List.mem_cons_self e]; simp [ih]
theorem filt_flatMap {α β : Type} (f : α → List β) (q : β → Bool) (l : List α) : (l.flatMap f).filter q = l.flatMap fun a => (f a).filter q := by
  induction l with
  | nil => rfl
  | cons a l ih => rw [List.flatMap_cons, List.filter_append, ih, List.flatMap_cons]
theorem prL_eq (n : Nat) : ∀ t, t ≤ n → (rowsL L rs t).filter (fun p => decide (0 < Bt rs es (n - t) p.2)) = (prL L rs es n t).filter fun p => decide (0 < Bt rs es (n - t) p.2)
  | 0, _ => rfl
  | t + 1, ht => by
    have ih := prL_eq n t (by omega)
    have e1 : n - t - 1 = n - (t + 1) := by omega
    have e2 : n - t = n - (t + 1) + 1 := by omega
    have dead : ∀ p : List Nat × Nat, decide (0 < Bt rs es (n - t) p.2) = false → (nxL L rs p).filter (fun q => decide (0 < Bt rs es (n - (t + 1)) q.2)) = [] := fun p hp => by
      refine List.filter_eq_nil_iff.mpr fun q hq hb => ?_
      obtain ⟨k, _, h3⟩ := List.mem_filterMap.mp hq
      obtain ⟨g, hg, e⟩ := Option.map_eq_some_iff.mp h3
      subst e
      have := Bt_child hg (of_decide_eq_true hb)
      rw [← e2] at this
      exact absurd this (of_decide_eq_false hp)
    rw [rowsL_s, filt_flatMap, flatMap_filt _ (fun p => decide (0 < Bt rs es (n - t) p.2)) _ fun p _ hp => dead p hp, ih, ← flatMap_filt _ (fun p => decide (0 < Bt rs es (n - t) p.2)) _ fun p _ hp => dead p hp]
    show _ = ((prL L rs es n t).flatMap fun p => (nxL L rs p).filter fun q => decide (0 < Bt rs es (n - t - 1) q.2)).filter _
    rw [filt_flatMap, e1]
    congr 1
    funext p
    rw [List.filter_filter]
    congr 1
    funext q
    simp
theorem prL_txt (n : Nat) : ((prL L rs es n n).filter fun p => decide (p.2 ∈ es)).map (·.1) = txL L rs es n := by
  have e := prL_eq (L := L) (rs := rs) (es := es) n n (Nat.le_refl n)
  rw [Nat.sub_self] at e
  have b0 : ∀ k, decide (0 < Bt rs es 0 k) = decide (k ∈ es) := fun k => by
    have : Bt rs es 0 k = if k ∈ es then 1 else 0 := rfl
    rw [this]
    by_cases q : k ∈ es <;> simp [q]
  simp only [b0] at e
  unfold txL
  rw [e]
end
end MM

end
section
set_option maxRecDepth 100000
set_option maxHeartbeats 4000000
namespace MM
open PySem L2 MC
theorem numb_at : ∀ (ys : List PV) (i k : Nat), (MC.numbered i ys)[k]? = (ys[k]?).map fun y => PV.tup [.int ((i + k : Nat) : Int), y]
  | [], i, k => by simp [MC.numbered]
  | y :: ys, i, 0 => by simp [MC.numbered]
  | y :: ys, i, k + 1 => by
    have := numb_at ys (i + 1) k
    rw [show i + 1 + k = i + (k + 1) by omega] at this
    simpa [MC.numbered] using this
section
variable {L : Nat} {rs : List (List (Option Nat))} {es : List Nat}
theorem numb_row (o : TO L rs es) {j : Nat} {r : List (Option Nat)} (hr : rs[j]? = some r) : MC.numbered 0 (r.map ov) = (List.range L).map fun (k : Nat) => PV.tup [.int (k : Int), ov (stepG rs j k)] := by
  refine List.ext_getElem? fun k => ?_
  have lr := (o.row hr).1
  rw [numb_at, List.getElem?_map, List.getElem?_map]
  by_cases h : k < L
  · have e1 : r[k]? = some r[k] := List.getElem?_eq_getElem (by omega)
    have sg : stepG rs j k = r[k] := by unfold stepG; rw [hr]; show (r[k]?).getD none = _; rw [e1]; rfl
    rw [e1, List.getElem?_range h]
    simp [sg]
  · rw [List.getElem?_eq_none (by omega), List.getElem?_eq_none (by rw [List.length_range]; omega)]; rfl
/-- a goal from which enough rows lead on -/
def okG (rs : List (List (Option Nat))) (es : List Nat) (l j k : Nat) : Bool := match stepG rs j k with
  | some g => decide (0 < Bt rs es l g)
  | none => false
theorem plc_eq (l : Nat) (s : List Nat) (j : Nat) : ∀ ks : List Nat, ((ks.filter (okG rs es l j)).map fun k => (s ++ [97 + k], (stepG rs j k).getD 0)) = (ks.filterMap (nxF rs (s, j))).filter fun q => decide (0 < Bt rs es l q.2)
  | [] => rfl
  | k :: ks => by
    have ih := plc_eq l s j ks
    rw [List.filter_cons, List.filterMap_cons]
    have nf : nxF rs (s, j) k = (stepG rs j k).map fun g => (s ++ [97 + k], g) := rfl
    cases e : stepG rs j k with
    | none =>
      rw [nf, e]
      have : okG rs es l j k = false := by unfold okG; rw [e]
      rw [this]
      simpa using ih
    | some g =>
      rw [nf, e]
      have og : okG rs es l j k = decide (0 < Bt rs es l g) := by unfold okG; rw [e]
      rw [og]
      by_cases q : 0 < Bt rs es l g
      · simp [q, e, ih]
      · simp [q, ih]
theorem ge_set {h : PH} {n m : Nat} {o : PO} (hm : n < m) : (h.set m o)[n]? = h[n]? := List.getElem?_set_ne (by omega)
theorem listed_w (o : TO L rs es) {n : Nat} (hn : n ≤ 8) : Ws (m_listed [mk L rs es, .int n] []) fun v _ => v = .tup ((txL L rs es n).map PV.str) := by
  have nn := n8 o
  have l1 := o.l1
  have l5 := o.l5
  obtain ⟨hC, ac, ll⟩ := all_counts_c o n (by omega) []
  rw [List.nil_append] at ac ll
  have ac : callG takeBack m_all_counts [mk L rs es, .int n] [] = .ok (.ref 0) hC := ac
  have ll : LL hC (.ref 0) (lls rs es (n + 1)) := ll
  have f1 : lookF [97, 114, 114, 111, 119, 115] [([108, 101, 116, 116, 101, 114, 115], PV.int L), ([97, 114, 114, 111, 119, 115], PV.tup (rowsV rs)), ([101, 110, 100, 115], PV.tup ((enI es).map PV.int))] = some (.tup (rowsV rs)) := rfl
  have f2 : lookF [101, 110, 100, 115] [([108, 101, 116, 116, 101, 114, 115], PV.int L), ([97, 114, 114, 111, 119, 115], PV.tup (rowsV rs)), ([101, 110, 100, 115], PV.tup ((enI es).map PV.int))] = some (.tup ((enI es).map PV.int)) := rfl
  have mf : ∀ h, fldsOf h (mk L rs es) = some (0, [([108, 101, 116, 116, 101, 114, 115], PV.int L), ([97, 114, 114, 111, 119, 115], PV.tup (rowsV rs)), ([101, 110, 100, 115], PV.tup ((enI es).map PV.int))]) := fun h => rfl
  unfold m_listed
  simp [b_listed, ac, LIM, inR_small (i := (n : Int)) (by omega) (by omega)]
  refine forB (fun t e h => ∃ (i : Nat) (x4 x5 x6 x7 x8 x9 x10 x11 x12 : Option PV), e = [some (mk L rs es), some (.int n), some (.ref 0), some (.ref i), x4, x5, x6, x7, x8, x9, x10, x11, x12] ∧ (∀ m < hC.length, h[m]? = hC[m]?) ∧ hC.length ≤ h.length ∧ h[i]? = some (.lst ((prL L rs es n t).map rwV)))
    ⟨_, _, _, _, _, _, _, _, _, _, rfl, fun m hm => List.getElem?_append_left hm, by simp, by simp; rfl⟩ (fun _ _ _ _ => rfl) (fun t v env h hv ⟨i, x4, x5, x6, x7, x8, x9, x10, x11, x12, ee, kc, lc, ki⟩ => ?_) fun env h ⟨i, x4, x5, x6, x7, x8, x9, x10, x11, x12, ee, kc, lc, ki⟩ => ?_
  · subst ee
    obtain ⟨ht, rfl⟩ := at_seqI hv
    have b5 := p5_le8 (t := t) (by omega)
    have pl := prL_len (L := L) (rs := rs) (es := es) l5 n t
    have rp : ∀ s j, (s, j) ∈ prL L rs es n t → (∀ c ∈ s, c ∈ letS) ∧ goalF rs (some 0) s = some j ∧ s.length = t := by
      have sub : ∀ t, ∀ p ∈ prL L rs es n t, p ∈ rowsL L rs t := by
        intro t
        induction t with
        | zero => exact fun p hp => hp
        | succ t ih =>
          intro p hp
          obtain ⟨q, hq, h2⟩ := List.mem_flatMap.mp hp
          exact List.mem_flatMap.mpr ⟨q, ih q hq, (List.mem_filter.mp h2).1⟩
      exact fun s j hs => rowsL_ok o t s j (sub t _ hs)
    have pe : prL L rs es n (t + 1) = (prL L rs es n t).flatMap fun p => (nxL L rs p).filter fun q => decide (0 < Bt rs es (n - t - 1) q.2) := rfl
    rw [pe]
    generalize prL L rs es n t = l at *
    obtain ⟨lf, elf⟩ : ∃ lf, lf = n - t - 1 := ⟨_, rfl⟩
    have el : (n : Int) - (t : Int) - 1 = (lf : Int) := by omega
    rw [← elf]
    simp
    rw [el]
    simp [LIM]
    have ki2 := get_app (os := [PO.lst []]) ki
    have il : i < h.length := (List.getElem?_eq_some_iff.mp ki).1
    obtain ⟨a, ea⟩ : ∃ a, a = h.length := ⟨_, rfl⟩
    have ka : (h ++ [PO.lst []])[a]? = some (.lst (([] : List (List Nat × Nat)).map rwV)) := by rw [ea]; exact last_at
    rw [src_ref ki2, ← ea]
    simp
    refine forB (fun u e h => ∃ (lat : List (List Nat × Nat)) (x7 x8 x9 x10 x11 x12 : Option PV), e = [some (mk L rs es), some (.int n), some (.ref 0), some (.ref i), some (.int (t : Int)), some (.int (lf : Int)), some (.ref a), x7, x8, x9, x10, x11, x12] ∧ (∀ m < hC.length, h[m]? = hC[m]?) ∧ hC.length ≤ h.length ∧ h[i]? = some (.lst (l.map rwV)) ∧ h[a]? = some (.lst (lat.map rwV)) ∧ lat = (l.take u).flatMap fun p => (nxL L rs p).filter fun q => decide (0 < Bt rs es lf q.2))
      ⟨[], _, _, _, _, _, _, rfl, fun m hm => by rw [List.getElem?_append_left (by omega)]; exact kc m hm, by simp; omega, ki2, ka, by simp⟩ (fun _ _ _ ⟨_, _, _, _, _, _, _, _, _, _, q, _⟩ => watch_mk q) (fun u v env h hv ⟨lat, x7, x8, x9, x10, x11, x12, ee, kc, lc, ki, ka, rl⟩ => ?_) fun env h ⟨lat, x7, x8, x9, x10, x11, x12, ee, kc, lc, ki, ka, rl⟩ => ?_
    · subst ee
      rw [List.getElem?_map] at hv
      obtain ⟨s, j, hp, rfl⟩ : ∃ s j, l[u]? = some (s, j) ∧ v = rwV (s, j) := by
        cases e : l[u]? with
        | none => rw [e] at hv; cases hv
        | some p => rw [e] at hv; cases hv; exact ⟨p.1, p.2, rfl, rfl⟩
      have ulen := (List.getElem?_eq_some_iff.mp hp).1
      obtain ⟨s1, s2, s3⟩ := rp s j (List.mem_of_getElem? hp)
      have ul : lat.length ≤ 5 * u := by
        have h1 := flat_len (fun p => (nxL L rs p).filter fun q => decide (0 < Bt rs es lf q.2)) 5 (fun a => Nat.le_trans (List.length_filter_le _ _) (Nat.le_trans (nxL_len a) l5)) (l.take u)
        rw [← rl, List.length_take] at h1
        omega
      have tk : (l.take (u + 1)).flatMap (fun p => (nxL L rs p).filter fun q => decide (0 < Bt rs es lf q.2)) = lat ++ (nxL L rs (s, j)).filter fun q => decide (0 < Bt rs es lf q.2) := by
        rw [List.take_add_one, hp, List.flatMap_append, ← rl]
        simp
      rw [tk]
      clear rl tk
      have jl : j < rs.length := goalF_lt o s (some 0) j (fun i e => by cases e; omega) s2
      obtain ⟨r, hr⟩ : ∃ r, rs[j]? = some r := ⟨_, List.getElem?_eq_getElem jl⟩
      have qr : ∀ h, opIx h (.tup (rowsV rs)) (.int j) = .ok (rowV r) h := fun h => ix_tup (by unfold rowsV; rw [List.getElem?_map, hr]; rfl)
      have lr := (o.row hr).1
      have st : ∀ p, stepG rs j p = (r[p]?).getD none := fun p => by unfold stepG; rw [hr]; rfl
      have ev : rwV (s, j) = .tup [.str s, .int j] := rfl
      have sq : ∀ h, seqP h (rowV r) = some (r.map ov) := fun h => rfl
      have wt : ∀ ys, wtOf ys (rowV r) = [] := fun ys => rfl
      have nn1 : ∀ h, opIs true h .non .non = .ok (.bl false) h := fun h => rfl
      have nn2 : ∀ h (i : Int), opIs true h (.int i) .non = .ok (.bl true) h := fun h i => rfl
      have lk := ll.keep kc
      simp [ev, mf, cs_arrows, f1, qr, sq, wt]
      rw [numb_row o hr]
      refine filtW (fun x => match x with
        | .tup [.int k, _] => okG rs es lf j k.toNat
        | _ => false) (fun x => match x with
        | .tup [.int k, _] => .int k
        | _ => .non) (fun g => g = h) (fun _ _ => rfl) rfl (lim_of (by rw [List.length_map, List.length_range]; omega)) (fun x hx g hg => ?_) fun g hg => ?_
      · subst hg
        obtain ⟨k, hk, rfl⟩ := List.mem_map.mp hx
        refine ⟨_, rfl, ?_⟩
        cases e : stepG rs j k with
        | none =>
          have og : okG rs es lf j k = false := by unfold okG; rw [e]
          simp [wipeE, ov, nn1, og]
        | some y =>
          have yl : y < rs.length := by
            have := goalF_lt o [97 + k] (some j) y (fun i e => by cases e; exact jl) (by show stepG rs j (97 + k - 97) = some y; rw [Nat.add_sub_cancel_left]; exact e)
            exact this
          obtain ⟨q, z1, z2⟩ := lk.two (lls_at (rs := rs) (es := es) (n := n + 1) (t := lf) (by omega)) (cnts_at (rs := rs) (es := es) (t := lf) yl)
          have og : okG rs es lf j k = decide (0 < Bt rs es lf y) := by unfold okG; rw [e]
          have oz : decide ((0 : Int) < (Bt rs es lf y : Nat)) = decide (0 < Bt rs es lf y) := decide_eq_decide.mpr (by omega)
          simp [wipeE, ov, nn2, z1, z2, og, oz]
      · subst hg
        obtain ⟨ps, eps⟩ : ∃ ps, ps = (List.range L).filter (okG rs es lf j) := ⟨_, rfl⟩
        have ef : (((List.range L).map fun (k : Nat) => PV.tup [.int (k : Int), ov (stepG rs j k)]).filter fun x => match x with
          | .tup [.int k, _] => okG rs es lf j k.toNat
          | _ => false).map (fun x => match x with
          | .tup [.int k, _] => .int k
          | _ => .non) = (enI ps).map PV.int := by
          rw [List.filter_map, List.map_map, eps]
          unfold enI
          rw [List.map_map]; rfl
        rw [ef]
        have pl5 : ps.length ≤ 5 := by
          rw [eps]
          have := List.length_filter_le (okG rs es lf j) (List.range L)
          rw [List.length_range] at this
          omega
        have k1 : (g ++ [PO.lst ((enI ps).map PV.int)])[g.length]? = some (.lst ((enI ps).map PV.int)) := last_at
        simp
        rw [src_ref k1]
        simp
        refine mapW (fun x => match x with
          | .int k => rwV (s ++ [97 + k.toNat], (stepG rs j k.toNat).getD 0)
          | _ => .non) (fun h => h = g ++ [PO.lst ((enI ps).map PV.int)]) (fun h hh => by rw [hh]; exact watch_mk k1) rfl (lim_of (by rw [List.length_map]; unfold enI; rw [List.length_map]; omega)) (fun x hx h hh => ?_) fun h hh => ?_
        · subst hh
          obtain ⟨y, hy, rfl⟩ := List.mem_map.mp hx
          obtain ⟨k, hk, rfl⟩ := List.mem_map.mp hy
          rw [eps] at hk
          obtain ⟨hk1, hk2⟩ := List.mem_filter.mp hk
          have kl := List.mem_range.mp hk1
          obtain ⟨y, hy⟩ : ∃ y, stepG rs j k = some y := by
            unfold okG at hk2
            cases e : stepG rs j k with
            | none => rw [e] at hk2; cases hk2
            | some y => exact ⟨y, rfl⟩
          have e3 : r[k]? = some r[k] := List.getElem?_eq_getElem (by omega)
          have qc : ∀ h, opIx h (rowV r) (.int k) = .ok (.int y) h := fun h => ix_tup (by
            rw [List.getElem?_map, e3]
            have : stepG rs j k = r[k] := by rw [st, e3]; rfl
            rw [hy] at this
            rw [← this]; rfl)
          have li := let_ix (g := k) (by omega)
          refine ⟨_, rfl, ?_⟩
          simp [wipeE, (li _).1, qc, hy, LIM, show s.length ≤ 16777215 by omega, show s.length + 1 ≤ 16777216 by omega]
          rfl
        · subst hh
          have em : ((enI ps).map PV.int).map (fun x => match x with
            | .int k => rwV (s ++ [97 + k.toNat], (stepG rs j k.toNat).getD 0)
            | _ => .non) = ((nxL L rs (s, j)).filter fun q => decide (0 < Bt rs es lf q.2)).map rwV := by
            have := plc_eq (rs := rs) (es := es) lf s j (List.range L)
            rw [← eps] at this
            unfold nxL
            rw [← this]
            unfold enI
            rw [List.map_map, List.map_map, List.map_map]; rfl
          rw [em]
          have lq : ((nxL L rs (s, j)).filter fun q => decide (0 < Bt rs es lf q.2)).length ≤ 5 := Nat.le_trans (List.length_filter_le _ _) (Nat.le_trans (nxL_len _) l5)
          generalize (nxL L rs (s, j)).filter (fun q => decide (0 < Bt rs es lf q.2)) = N at lq ⊢
          have ka' : (g ++ [PO.lst ((enI ps).map PV.int)] ++ [PO.lst (N.map rwV)])[a]? = some (.lst (lat.map rwV)) := get_app (get_app ka)
          have k2 : (g ++ [PO.lst ((enI ps).map PV.int)] ++ [PO.lst (N.map rwV)])[(g ++ [PO.lst ((enI ps).map PV.int)]).length]? = some (.lst (N.map rwV)) := last_at
          have ki' : (g ++ [PO.lst ((enI ps).map PV.int)] ++ [PO.lst (N.map rwV)])[i]? = some (.lst (l.map rwV)) := get_app (get_app ki)
          have kc' : ∀ m < hC.length, (g ++ [PO.lst ((enI ps).map PV.int)] ++ [PO.lst (N.map rwV)])[m]? = hC[m]? := fun m hm => by
            rw [List.getElem?_append_left (by rw [List.length_append]; omega), List.getElem?_append_left (by omega)]
            exact kc m hm
          have la : a < (g ++ [PO.lst ((enI ps).map PV.int)] ++ [PO.lst (N.map rwV)]).length := (List.getElem?_eq_some_iff.mp ka').1
          have lG : hC.length ≤ (g ++ [PO.lst ((enI ps).map PV.int)] ++ [PO.lst (N.map rwV)]).length := by rw [List.length_append, List.length_append]; omega
          have lM : (g ++ [PO.lst ((enI ps).map PV.int)]).length = g.length + 1 := by simp
          rw [lM] at k2
          generalize g ++ [PO.lst ((enI ps).map PV.int)] ++ [PO.lst (N.map rwV)] = G at ka' k2 ki' kc' la lG ⊢
          have ad : opIadd G (.ref a) (.ref (g.length + 1)) = .ok (.ref a) (G.set a (.lst ((lat ++ N).map rwV))) := by
            have : decide ((lat.map rwV).length + (N.map rwV).length ≤ LIM) = true := decide_eq_true (show _ ≤ 16777216 by rw [List.length_map, List.length_map]; omega)
            unfold opIadd
            simp only [ka', k2, this, cond_true, List.map_append]
          have ia : i ≠ a := by omega
          have ca : hC.length ≤ a := by omega
          simp [-List.map_append, ad]
          exact ⟨fun m hm => by rw [ge_set (by omega)]; exact kc' m hm, lG, by rw [List.getElem?_set_ne (Ne.symm ia)]; exact ki', List.getElem?_set_self la⟩
    · subst ee
      rw [List.length_map, List.take_length] at rl
      subst rl
      simp
      exact ⟨kc, lc, ka⟩
  · subst ee
    rw [len_seqI] at ki
    simp
    rw [src_ref ki]
    simp
    have pl := prL_len (L := L) (rs := rs) (es := es) l5 n n
    have b5 := p5_le8 (t := n) (by omega)
    refine filtW (isEnd es) fstV (fun g => g = h) (fun g hg => by rw [hg]; exact watch_mk ki) rfl (show _ ≤ 16777216 by rw [List.length_map]; omega) (fun x hx g hg => ?_) fun g hg => ?_
    · subst hg
      obtain ⟨p, hp, rfl⟩ := List.mem_map.mp hx
      obtain ⟨s, j⟩ := p
      have inE : ∀ h, opIn false h (.int j) (.tup ((enI es).map PV.int)) = .ok (.bl (decide (j ∈ es))) h := fun h => by
        have : decide ((j : Int) ∈ enI es) = decide (j ∈ es) := decide_eq_decide.mpr en_mem
        rw [in_ints, this]
      refine ⟨_, rfl, ?_⟩
      have i1 : isEnd es (rwV (s, j)) = decide (j ∈ es) := rfl
      have i2 : fstV (rwV (s, j)) = .str s := rfl
      simp [wipeE, mf, cs_ends, f2, inE, i1, i2]
    · subst hg
      rw [txV, prL_txt]
      simp [v_btupR (h := g ++ [.lst ((txL L rs es n).map PV.str)]) (n := g.length) last_at]
theorem listed_c (o : TO L rs es) {n : Nat} (hn : n ≤ 8) (h : PH) : callG takeBack m_listed [mk L rs es, .int n] h = .ok (.tup ((txL L rs es n).map PV.str)) h := by
  refine call_pureW (by simp [noRefs, noRef, mk_no o]) (listed_w o hn) (by simp [noRef, strs_noref])
end
end MM

end
section
set_option maxRecDepth 100000
set_option maxHeartbeats 4000000
namespace MM
open PySem L2 MC
section
variable {L : Nat} {rs : List (List (Option Nat))} {es : List Nat}
theorem nx_gs (o : TO L rs es) (p : List Nat × Nat) : (nxL L rs p).map (·.2) = gsOf rs p.2 := by
  by_cases jl : p.2 < rs.length
  · have hr : rs[p.2]? = some rs[p.2] := List.getElem?_eq_getElem jl
    have lr := (o.row hr).1
    have st : ∀ k, stepG rs p.2 k = (rs[p.2][k]?).getD none := fun k => by unfold stepG; rw [hr]; rfl
    have key : ∀ (r : List (Option Nat)) (i : Nat), (∀ k, stepG rs p.2 (i + k) = (r[k]?).getD none) → ((List.range' i r.length).filterMap (nxF rs p)).map (·.2) = r.filterMap id := by
      intro r
      induction r with
      | nil => intro i _; simp
      | cons g r ih =>
        intro i hi
        have h0 : stepG rs p.2 i = g := by have := hi 0; simpa using this
        have ih' := ih (i + 1) fun k => by
          have := hi (k + 1)
          rw [show i + (k + 1) = i + 1 + k by omega] at this
          rw [this]; simp
        rw [List.length_cons, List.range'_succ, List.filterMap_cons, List.filterMap_cons]
        have nf : nxF rs p i = (stepG rs p.2 i).map fun g => (p.1 ++ [97 + i], g) := rfl
        rw [nf, h0]
        cases g with
        | none => simpa using ih'
        | some y => simpa using ih'
    have := key rs[p.2] 0 fun k => by rw [Nat.zero_add]; exact st k
    rw [lr, ← List.range_eq_range'] at this
    unfold gsOf
    rw [hr]
    exact this
  · have e : rs[p.2]? = none := List.getElem?_eq_none (by omega)
    have : nxL L rs p = [] := by
      unfold nxL
      refine List.filterMap_eq_nil_iff.mpr fun k _ => ?_
      unfold nxF stepG
      rw [e]; rfl
    rw [this]
    unfold gsOf
    rw [e]; rfl
theorem sum_flat {α : Type} (f : α → List (List Nat × Nat)) (g : Nat → Nat) : ∀ l : List α, (((l.flatMap f).map (·.2)).map g).sum = (l.map fun a => (((f a).map (·.2)).map g).sum).sum
  | [] => rfl
  | a :: l => by
    rw [List.flatMap_cons, List.map_append, List.map_append, List.sum_append, sum_flat f g l, List.map_cons, List.sum_cons]
theorem cnt_rows (o : TO L rs es) : ∀ t k, (((rowsL L rs t).map (·.2)).map (Bt rs es k)).sum = Bt rs es (t + k) 0
  | 0, k => by simp [rowsL]
  | t + 1, k => by
    rw [rowsL_s, sum_flat]
    have e : ∀ a, (((nxL L rs a).map (·.2)).map (Bt rs es k)).sum = Bt rs es (k + 1) a.2 := fun a => by rw [nx_gs o]; rfl
    simp only [e]
    have := cnt_rows o t (k + 1)
    rw [List.map_map] at this
    rw [show t + 1 + k = t + (k + 1) by omega]
    exact this
theorem txL_cnt (o : TO L rs es) (t : Nat) : (txL L rs es t).length = Bt rs es t 0 := by
  have := cnt_rows o t 0
  rw [Nat.add_zero] at this
  rw [← this]
  unfold txL
  rw [List.length_map, List.map_map]
  have key : ∀ l : List (List Nat × Nat), (l.filter fun p => decide (p.2 ∈ es)).length = (l.map (Bt rs es 0 ∘ fun x => x.2)).sum := by
    intro l
    induction l with
    | nil => rfl
    | cons a l ih =>
      have b0 : Bt rs es 0 a.2 = if a.2 ∈ es then 1 else 0 := rfl
      rw [List.filter_cons, List.map_cons, List.sum_cons, ← ih]
      show _ = Bt rs es 0 a.2 + _
      rw [b0]
      by_cases q : a.2 ∈ es
      · simp [q]; omega
      · simp [q]
  exact key _
/-- there is a text of so many letters -/
theorem pos_text (o : TO L rs es) (t : Nat) : 0 < Bt rs es t 0 ↔ ∃ s, ltE rs es s = true ∧ s.length = t := by
  rw [← txL_cnt o, List.length_pos_iff_exists_mem]
  constructor
  · rintro ⟨s, hs⟩
    obtain ⟨p, hp, rfl⟩ := List.mem_map.mp hs
    obtain ⟨h1, h2⟩ := List.mem_filter.mp hp
    obtain ⟨s1, s2, s3⟩ := rowsL_ok o t p.1 p.2 h1
    refine ⟨p.1, ?_, s3⟩
    have := ltE_of (z := []) s1 s2 (fun _ z => (nomatch z)) rfl (of_decide_eq_true h2)
    rwa [List.append_nil] at this
  · rintro ⟨s, h, hl⟩
    unfold ltE at h
    rw [Bool.and_eq_true] at h
    obtain ⟨h1, h4⟩ := h
    have hs : ∀ c ∈ s, c ∈ letS := fun c hc => by simpa using (List.all_eq_true.mp h1) c hc
    cases g : goalF rs (some 0) s with
    | none => rw [g] at h4; cases h4
    | some j =>
      rw [g] at h4
      exact ⟨s, List.mem_map.mpr ⟨(s, j), List.mem_filter.mpr ⟨rowsL_all o t s j hs g hl, h4⟩, rfl⟩⟩
def rep : Nat → List Nat → List Nat
  | 0, _ => []
  | k + 1, y => y ++ rep k y
theorem rep_len (y : List Nat) : ∀ k, (rep k y).length = k * y.length
  | 0 => by simp [rep]
  | k + 1 => by
    show (y ++ rep k y).length = _
    rw [List.length_append, rep_len y k, Nat.succ_mul]; omega
theorem rep_goal {q : Nat} {y : List Nat} (h : goalF rs (some q) y = some q) : ∀ k, goalF rs (some q) (rep k y) = some q
  | 0 => rfl
  | k + 1 => by
    show goalF rs (some q) (y ++ rep k y) = _
    rw [goalF_app, h, rep_goal h k]
theorem rep_mem {y : List Nat} {P : Nat → Prop} (h : ∀ c ∈ y, P c) : ∀ k, ∀ c ∈ rep k y, P c
  | 0, _, z => nomatch z
  | k + 1, c, z => (List.mem_append.mp z).elim (h c) (rep_mem h k c)
/-- a text of at least as many letters as there are stands goes round somewhere -/
theorem pump (o : TO L rs es) {s : List Nat} (h : ltE rs es s = true) (hl : rs.length ≤ s.length) : ∃ x y z, s = x ++ y ++ z ∧ 1 ≤ y.length ∧ y.length ≤ rs.length ∧ ∀ k, ltE rs es (x ++ rep k y ++ z) = true := by
  have nn := n8 o
  unfold ltE at h
  rw [Bool.and_eq_true] at h
  obtain ⟨h1, h4⟩ := h
  have hs : ∀ c ∈ s, c ∈ letS := fun c hc => by simpa using (List.all_eq_true.mp h1) c hc
  cases g : goalF rs (some 0) s with
  | none => rw [g] at h4; cases h4
  | some e =>
    rw [g] at h4
    have he : e ∈ es := by simpa using h4
    have at_ : ∀ i, ∃ q, goalF rs (some 0) (s.take i) = some q := fun i => by
      have : goalF rs (some 0) (s.take i ++ s.drop i) = some e := by rw [List.take_append_drop]; exact g
      rw [goalF_app] at this
      cases c : goalF rs (some 0) (s.take i) with
      | none => rw [c, goalF_none] at this; cases this
      | some q => exact ⟨q, rfl⟩
    let f : Nat → Nat := fun i => (goalF rs (some 0) (s.take i)).getD 0
    have fe : ∀ i, goalF rs (some 0) (s.take i) = some (f i) := fun i => by
      obtain ⟨q, hq⟩ := at_ i
      show _ = some ((goalF rs (some 0) (s.take i)).getD 0)
      rw [hq]; rfl
    have fl : ∀ i, f i < rs.length := fun i => goalF_lt o (s.take i) (some 0) (f i) (fun i e => by cases e; omega) (fe i)
    have two : ∃ i j, i < j ∧ j ≤ rs.length ∧ f i = f j := by
      by_cases q : ∃ i j, i < j ∧ j ≤ rs.length ∧ f i = f j
      · exact q
      · exfalso
        have nd : ((List.range (rs.length + 1)).map f).Nodup := by
          unfold List.Nodup
          rw [List.pairwise_map]
          refine List.Pairwise.imp_of_mem (fun {a b} ha hb hab e => q ⟨a, b, hab, ?_, e⟩) List.pairwise_lt_range
          have := List.mem_range.mp hb
          omega
        have := keys_len nd fun x hx => by
          obtain ⟨i, _, rfl⟩ := List.mem_map.mp hx
          exact fl i
        rw [List.length_map, List.length_range] at this
        omega
    obtain ⟨i, j, ij, jn, fij⟩ := two
    have sj : s.take j = s.take i ++ (s.drop i).take (j - i) := by
      rw [← List.take_add, Nat.add_sub_cancel' (Nat.le_of_lt ij)]
    have es1 : s = s.take i ++ (s.drop i).take (j - i) ++ s.drop j := by rw [← sj, List.take_append_drop]
    have gy : goalF rs (some (f i)) ((s.drop i).take (j - i)) = some (f i) := by
      have := fe j
      rw [sj, goalF_app, fe i] at this
      rw [this, fij]
    have gz : goalF rs (some (f i)) (s.drop j) = some e := by
      have : goalF rs (some 0) (s.take j ++ s.drop j) = some e := by rw [List.take_append_drop]; exact g
      rw [goalF_app, fe j, ← fij] at this
      exact this
    refine ⟨s.take i, (s.drop i).take (j - i), s.drop j, es1, ?_, ?_, fun k => ?_⟩
    · rw [List.length_take, List.length_drop]; omega
    · rw [List.length_take]; omega
    · have h2 : goalF rs (some 0) (s.take i ++ rep k ((s.drop i).take (j - i))) = some (f i) := by
        rw [goalF_app, fe i, rep_goal gy k]
      refine ltE_of (j := f i) (e := e) (fun c hc => ?_) h2 (fun c hc => hs c (List.mem_of_mem_drop hc)) gz he
      rcases List.mem_append.mp hc with q | q
      · exact hs c (List.mem_of_mem_take q)
      · exact rep_mem (P := fun c => c ∈ letS) (fun c hc => hs c (List.mem_of_mem_drop (List.mem_of_mem_take hc))) k c q
/-- there are texts without end just if there is one of n to 2 n letters -/
theorem endless_iff (o : TO L rs es) (n10 : rs.length ≤ 10) : (∃ l, rs.length ≤ l ∧ l ≤ 2 * rs.length ∧ 0 < Bt rs es l 0) ↔ ∃ l, 150 ≤ l ∧ l < 160 ∧ 0 < Bt rs es l 0 := by
  constructor
  · rintro ⟨l, l1, l2, hb⟩
    obtain ⟨s, hs, el⟩ := (pos_text o l).mp hb
    obtain ⟨x, y, z, es1, y1, y2, hk⟩ := pump o hs (by omega)
    have ls := congrArg List.length es1
    rw [List.length_append, List.length_append] at ls
    -- how often it is gone round
    obtain ⟨k, k1, k2⟩ : ∃ k, 150 ≤ x.length + k * y.length + z.length ∧ x.length + k * y.length + z.length < 160 := by
      have up : ∀ m, x.length + z.length ≤ m → ∃ k, m ≤ x.length + k * y.length + z.length ∧ x.length + k * y.length + z.length < m + y.length := by
        intro m hm
        induction m with
        | zero => exact ⟨0, by omega, by omega⟩
        | succ m ih =>
          by_cases e : x.length + z.length = m + 1
          · exact ⟨0, by omega, by omega⟩
          · obtain ⟨k, a, b⟩ := ih (by omega)
            by_cases c : m + 1 ≤ x.length + k * y.length + z.length
            · exact ⟨k, c, by omega⟩
            · refine ⟨k + 1, ?_, ?_⟩
              · rw [Nat.succ_mul]; omega
              · rw [Nat.succ_mul]; omega
      obtain ⟨k, a, b⟩ := up 150 (by omega)
      exact ⟨k, a, by omega⟩
    refine ⟨_, k1, k2, (pos_text o _).mpr ⟨_, hk k, ?_⟩⟩
    rw [List.length_append, List.length_append, rep_len]
  · rintro ⟨l, l1, l2, hb⟩
    have nn := n8 o
    have down : ∀ m l, l ≤ m → rs.length ≤ l → 0 < Bt rs es l 0 → ∃ l, rs.length ≤ l ∧ l ≤ 2 * rs.length ∧ 0 < Bt rs es l 0 := by
      intro m
      induction m with
      | zero => intro l h1 h2 _; omega
      | succ m ih =>
        intro l h1 h2 hb
        by_cases c : l ≤ 2 * rs.length
        · exact ⟨l, h2, c, hb⟩
        · obtain ⟨s, hs, el⟩ := (pos_text o l).mp hb
          obtain ⟨x, y, z, es1, y1, y2, hk⟩ := pump o hs (by omega)
          have ls := congrArg List.length es1
          rw [List.length_append, List.length_append] at ls
          have h0 := hk 0
          refine ih (x.length + z.length) (by omega) (by omega) ((pos_text o _).mpr ⟨_, h0, ?_⟩)
          show (x ++ [] ++ z).length = _
          rw [List.append_nil, List.length_append]
    exact down l l (Nat.le_refl l) (by omega) hb
end
end MM

end
section
set_option maxRecDepth 100000
set_option maxHeartbeats 4000000
namespace MM
open PySem L2 MC
end MM

end
section
set_option maxRecDepth 100000
set_option maxHeartbeats 4000000
namespace MM
open PySem L2 MC
section
variable {L : Nat} {rs : List (List (Option Nat))} {es : List Nat} {ws vs : List (List Nat)}
end
end MM

end
section
set_option maxRecDepth 100000
set_option maxHeartbeats 4000000
namespace MM
open PySem L2 MC
section
variable {L : Nat} {rs : List (List (Option Nat))} {es : List Nat} {ws vs : List (List Nat)}
theorem Agr.symm (a : Agr rs es ws vs) : Agr rs es vs ws := fun s h => (a s h).symm
theorem Dif.symm (d : Dif rs es ws vs) : Dif rs es vs ws := by
  obtain ⟨s, h1, h2, h3⟩ := d
  exact ⟨s, h1, Ne.symm h2, h3⟩
end
end MM

end
section

set_option maxRecDepth 100000
set_option maxHeartbeats 4000000
namespace K05
open PySem L2 MC MM
section
variable {L : Nat} {rs : List (List (Option Nat))} {es : List Nat}
def p3 : Nat → Nat
  | 0 => 1
  | t + 1 => 3 * p3 t
theorem rowsL_len3 (w : L ≤ 3) : ∀ t, (rowsL L rs t).length ≤ p3 t
  | 0 => Nat.le_refl 1
  | t + 1 => by
    have h1 := flat_len (nxL L rs) 3 (fun p => Nat.le_trans (nxL_len p) w) (rowsL L rs t)
    have := rowsL_len3 w t
    rw [rowsL_s]
    show _ ≤ 3 * p3 t
    omega
theorem p3_le {m : Nat} (h : m ≤ 6) : p3 m ≤ 729 := by
  rcases (show m = 0 ∨ m = 1 ∨ m = 2 ∨ m = 3 ∨ m = 4 ∨ m = 5 ∨ m = 6 by omega) with rfl | rfl | rfl | rfl | rfl | rfl | rfl <;> decide
theorem tx_len3 (w : L ≤ 3) {t : Nat} (ht : t ≤ 6) : (txL L rs es t).length ≤ 729 := by
  unfold txL
  rw [List.length_map]
  exact Nat.le_trans (List.length_filter_le _ _) (Nat.le_trans (rowsL_len3 w t) (p3_le ht))
theorem tx_ok (o : TO L rs es) {t : Nat} {s : List Nat} (h : s ∈ txL L rs es t) : (∀ c ∈ s, c ∈ letS) ∧ s.length = t := by
  obtain ⟨p, hp, rfl⟩ := List.mem_map.mp h
  obtain ⟨h1, h2⟩ := List.mem_filter.mp hp
  obtain ⟨s1, s2, s3⟩ := rowsL_ok o t p.1 p.2 h1
  exact ⟨s1, s3⟩
theorem strs_plain : ∀ l : List (List Nat), (∀ s ∈ l, s.length ≤ 8 ∧ ∀ c ∈ s, c ∈ letS) → poks 10 (l.map PV.str) = true ∧ pdps (l.map PV.str) = 0 ∧ pnds (l.map PV.str) ≤ 9 * l.length
  | [], _ => ⟨rfl, rfl, Nat.le_refl _⟩
  | w :: ws, h => by
    obtain ⟨h1, h2, h3⟩ := strs_plain ws fun v hv => h v (List.mem_cons_of_mem _ hv)
    obtain ⟨l8, hc⟩ := h w List.mem_cons_self
    have hw : pok 10 (.str w) = true := by
      unfold pok
      rw [List.all_eq_true]
      intro c hc'
      have := hc c hc'
      simp [letS] at this
      simp
      omega
    refine ⟨?_, ?_, ?_⟩
    · rw [List.map_cons]; unfold poks; rw [hw, h1]; rfl
    · rw [List.map_cons]; unfold pdps; rw [h2]; rfl
    · rw [List.map_cons, List.length_cons]; unfold pnds; simp only [pnd]; omega
theorem ne_same (w : List Nat) (hw : PyData.strOk (S w) = true) (h : PH) : opNe h (.str w) (.str w) = .ok (.bl false) h := by
  rw [v_neS hw hw]; simp
theorem ints_ne {h : PH} {n m : Nat} {i j : Int} (e1 : h[n]? = some (.lst [.int i, .int j])) (e2 : h[m]? = some (.lst [.int i, .int j])) : opNe h (.ref n) (.ref m) = .ok (.bl false) h := by
  have g : gdL [.int i, .int j] = true := by
    unfold gdL
    simp [pds, pd, pdps, pdp, dsL, SeqAt.shaped, PyData.canLay0, PyData.canLayAll0, PyData.depth, PyData.depthAll]
  have := ne_of_eq (eq_lls e1 e2 g g)
  have et : eqTL [.int i, .int j] [.int i, .int j] = true := by
    unfold eqTL
    simp [dsL, pds, pd, PyData.eqv, PyData.eqvAll]
  rw [et] at this
  exact this
theorem hm_c (o : TO L rs es) {n : Nat} (hn : n ≤ 300) (h : PH) : callG takeBack m_how_many_texts [mk L rs es, .int n] h = .ok (.int (Bt rs es n 0)) h := by
  have ck : ∀ h, callG takeBack m_check_machine [mk L rs es] h = .ok .non h := fun h => check_machine_c o h
  refine call_pureW (by simp [noRefs, noRef, mk_no o]) ?_ rfl
  unfold m_how_many_texts
  simp [b_how_many_texts, ck, check_length_c n hn, count_of_c o n hn]
theorem to_c (o : TO L rs es) {n : Nat} (hn : n ≤ 6) (w : L ≤ 3) (h : PH) : callG takeBack m_texts_of [mk L rs es, .int n] h = .ok (.tup ((txL L rs es n).map PV.str)) h := by
  have ck : ∀ h, callG takeBack m_check_machine [mk L rs es] h = .ok .non h := fun h => check_machine_c o h
  have b := tx_len3 (rs := rs) (es := es) w hn
  have cb := txL_cnt (L := L) o n
  refine call_pureW (by simp [noRefs, noRef, mk_no o]) ?_ (by simp [noRef, strs_noref])
  have lc := listed_c o (n := n) (by omega)
  unfold m_texts_of
  have : ¬ (1000 < (Bt rs es n 0 : Int)) := by omega
  have : ¬ (1000 < Bt rs es n 0) := by omega
  simp [b_texts_of, ck, check_length_c n (by omega), count_of_c o n (by omega), lc, truth, *]
/-- some text is of lo to lo + k letters -/
def anyB (rs : List (List (Option Nat))) (es : List Nat) (lo k : Nat) : Bool := (List.range k).any fun i => decide (0 < Bt rs es (lo + i) 0)
theorem anyB_iff {lo k : Nat} : anyB rs es lo k = true ↔ ∃ l, lo ≤ l ∧ l < lo + k ∧ 0 < Bt rs es l 0 := by
  unfold anyB
  rw [List.any_eq_true]
  constructor
  · rintro ⟨i, hi, h⟩
    exact ⟨lo + i, by omega, by have := List.mem_range.mp hi; omega, of_decide_eq_true h⟩
  · rintro ⟨l, h1, h2, h3⟩
    refine ⟨l - lo, List.mem_range.mpr (by omega), decide_eq_true ?_⟩
    rw [Nat.add_sub_cancel' h1]
    exact h3
def gtF (rs : List (List (Option Nat))) (es : List Nat) (x : PV) : PV := match x with
  | .int i => .bl (decide (0 < Bt rs es i.toNat 0))
  | _ => .non
theorem gt_seq (lo k : Nat) : (seqI lo k).map (gtF rs es) = (List.range k).map fun i => PV.bl (decide (0 < Bt rs es (lo + i) 0)) := by
  unfold seqI
  rw [List.map_map]
  refine List.map_congr_left fun i _ => ?_
  show PV.bl (decide (0 < Bt rs es ((lo : Int) + (i : Int)).toNat 0)) = _
  rw [show ((lo : Int) + (i : Int)).toNat = lo + i by omega]
theorem at_lo {lo k : Nat} {x : PV} (h : x ∈ seqI lo k) : ∃ l : Nat, lo ≤ l ∧ l < lo + k ∧ x = .int l := by
  unfold seqI at h
  obtain ⟨i, hi, rfl⟩ := List.mem_map.mp h
  have := List.mem_range.mp hi
  exact ⟨lo + i, by omega, by omega, by rw [Int.natCast_add]⟩
theorem ie_w (o : TO L rs es) (n10 : rs.length ≤ 10) : Ws (m_is_endless_of [mk L rs es] []) fun v _ => v = .bl (anyB rs es rs.length (rs.length + 1)) := by
  have nn := n8 o
  obtain ⟨hC, ac, ll⟩ := all_counts_c o (2 * rs.length) (by omega) []
  rw [List.nil_append] at ac ll
  have e2 : ((2 * rs.length : Nat) : Int) = 2 * (rs.length : Int) := by omega
  rw [e2] at ac
  have ac : callG takeBack m_all_counts [mk L rs es, .int (2 * (rs.length : Int))] [] = .ok (.ref 0) hC := ac
  have ll : LL hC (.ref 0) (lls rs es (2 * rs.length + 1)) := ll
  have f1 : lookF [97, 114, 114, 111, 119, 115] [([108, 101, 116, 116, 101, 114, 115], PV.int L), ([97, 114, 114, 111, 119, 115], PV.tup (rowsV rs)), ([101, 110, 100, 115], PV.tup ((enI es).map PV.int))] = some (.tup (rowsV rs)) := rfl
  have mf : ∀ h, fldsOf h (mk L rs es) = some (0, [([108, 101, 116, 116, 101, 114, 115], PV.int L), ([97, 114, 114, 111, 119, 115], PV.tup (rowsV rs)), ([101, 110, 100, 115], PV.tup ((enI es).map PV.int))]) := fun h => rfl
  have ln : ∀ h, bLen h [.tup (rowsV rs)] = .ok (.int rs.length) h := fun h => by
    show R.ok (PV.int ((rowsV rs).length : Nat)) h = _
    rw [rowsV_len]
  unfold m_is_endless_of
  have om : ∀ h, opMul h (.int 2) (.int (rs.length : Int)) = .ok (.int (2 * (rs.length : Int))) h := fun h => v_mul (.inl (by decide))
  simp [b_is_endless_of, mf, cs_arrows, f1, ln, ac, om, miRng2, inR_small (i := (rs.length : Int)) (by omega) (by omega), inR_small (i := 2 * (rs.length : Int) + 1) (by omega) (by omega)]
  rw [show (2 * (rs.length : Int) + 1).toNat - rs.length = rs.length + 1 by omega]
  refine mapB (gtF rs es) (fun h => h = hC) rfl (lim_of (by unfold seqI; rw [List.length_map, List.length_range]; omega)) (fun x hx h hh => ?_) fun h hh => ?_
  · subst hh
    obtain ⟨l, l1, l2, rfl⟩ := at_lo hx
    obtain ⟨q, z1, z2⟩ := ll.two (lls_at (rs := rs) (es := es) (n := 2 * rs.length + 1) (t := l) (by omega)) (cnts_at (rs := rs) (es := es) (t := l) nn.1)
    have z2 : opIx h (.ref q) (.int 0) = _ := z2
    have oz : decide ((0 : Int) < (Bt rs es l 0 : Nat)) = decide (0 < Bt rs es l 0) := decide_eq_decide.mpr (by omega)
    refine ⟨_, rfl, ?_⟩
    simp [wipeE, z1, z2, gtF, oz]
  · subst hh
    rw [gt_seq]
    have al := any_last (h := h) (bls_of (fun i => decide (0 < Bt rs es (rs.length + i) 0)) (List.range (rs.length + 1)))
    simp [al, List.any_map]
    rfl
theorem ie_c (o : TO L rs es) (n10 : rs.length ≤ 10) (h : PH) : callG takeBack m_is_endless [mk L rs es] h = .ok (.bl (anyB rs es rs.length (rs.length + 1))) h := by
  have ck : ∀ h, callG takeBack m_check_machine [mk L rs es] h = .ok .non h := fun h => check_machine_c o h
  have ic : ∀ h, callG takeBack m_is_endless_of [mk L rs es] h = .ok (.bl (anyB rs es rs.length (rs.length + 1))) h := fun h => call_pureW (by simp [noRefs, noRef, mk_no o]) (ie_w o n10) rfl
  refine call_pureW (by simp [noRefs, noRef, mk_no o]) ?_ rfl
  unfold m_is_endless
  simp [b_is_endless, ck, ic]

def cntF (rs : List (List (Option Nat))) (es : List Nat) (x : PV) : PV := match x with
  | .int i => .int (Bt rs es i.toNat 0)
  | _ => .non
theorem sum_pos : ∀ l : List Int, (∀ i ∈ l, 0 ≤ i) → 0 ≤ l.sum ∧ (0 < l.sum ↔ ∃ i ∈ l, 0 < i)
  | [], _ => by simp
  | i :: l, h => by
    obtain ⟨h1, h2⟩ := sum_pos l fun j hj => h j (List.mem_cons_of_mem _ hj)
    have h0 := h i List.mem_cons_self
    rw [List.sum_cons]
    refine ⟨by omega, ?_⟩
    constructor
    · intro q
      by_cases z : 0 < i
      · exact ⟨i, List.mem_cons_self, z⟩
      · obtain ⟨j, hj, p⟩ := h2.mp (by omega)
        exact ⟨j, List.mem_cons_of_mem _ hj, p⟩
    · rintro ⟨j, hj, p⟩
      rcases List.mem_cons.mp hj with rfl | hj
      · omega
      · have := h2.mpr ⟨j, hj, p⟩
        omega
theorem cnt_seq (lo k : Nat) : (seqI lo k).map (cntF rs es) = ((List.range k).map fun i => ((Bt rs es (lo + i) 0 : Nat) : Int)).map PV.int := by
  unfold seqI
  rw [List.map_map, List.map_map]
  refine List.map_congr_left fun i _ => ?_
  show PV.int (Bt rs es ((lo : Int) + (i : Int)).toNat 0) = PV.int _
  rw [show ((lo : Int) + (i : Int)).toNat = lo + i by omega]
theorem cnt_any (lo k : Nat) : decide (0 < ((List.range k).map fun i => ((Bt rs es (lo + i) 0 : Nat) : Int)).sum) = anyB rs es lo k := by
  have := (sum_pos ((List.range k).map fun i => ((Bt rs es (lo + i) 0 : Nat) : Int)) fun i hi => by
    obtain ⟨j, _, rfl⟩ := List.mem_map.mp hi
    omega).2
  rw [Bool.eq_iff_iff, decide_eq_true_iff, this, anyB_iff]
  constructor
  · rintro ⟨_, hi, p⟩
    obtain ⟨i, hi2, rfl⟩ := List.mem_map.mp hi
    have := List.mem_range.mp hi2
    exact ⟨lo + i, by omega, by omega, by omega⟩
  · rintro ⟨l, h1, h2, p⟩
    exact ⟨_, List.mem_map.mpr ⟨l - lo, List.mem_range.mpr (by omega), rfl⟩, by rw [Nat.add_sub_cancel' h1]; omega⟩
theorem right_f : Fs m__law_right [] (fun v => v = .bl true) := fun a b c => by
  unfold m__law_right
  simp [b__law_right, show inR 2 = true from by decide]
  refine forB (fun t e h => ∃ x1 x2 x3 x4 x5 x6 x7 x8 x9, e = [some (.ref 0), x1, x2, x3, x4, x5, x6, x7, x8, x9] ∧ Dr 0 h) ⟨_, _, _, _, _, _, _, _, _, rfl, ⟨a, b, c, rfl⟩⟩ (fun _ _ _ _ => rfl)
    (fun t x env h hx ⟨x1, x2, x3, x4, x5, x6, x7, x8, x9, ee, dh⟩ => ?_) fun env h ⟨x1, x2, x3, x4, x5, x6, x7, x8, x9, ee, dh⟩ => ?_
  · subst ee
    simp
    refine (plan_g 5 3 (by decide) (by decide)).use (by simp [noRefs, noRef]) dh fun v h1 _ ⟨L, rows, is, ev, ok, l3, l5⟩ d1 _ => ?_
    obtain ⟨rs, es, e1, e2, o⟩ := typed_of ok
    subst ev e1 e2
    rw [rowsV_len] at l5
    have nn := n8 o
    have ep : plnV L (rowsV rs) (enI es) = pl L rs es := rfl
    rw [ep]
    have q0 : ∀ h, opIx h (pl L rs es) (.int 0) = .ok (.int L) h := fun h => pl0 h
    have q1 : ∀ h, opIx h (pl L rs es) (.int 1) = .ok (.tup (rowsV rs)) h := fun h => pl1 h
    have q2 : ∀ h, opIx h (pl L rs es) (.int 2) = .ok (.tup ((enI es).map PV.int)) h := fun h => pl2 h
    have mc : ∀ h, callG takeFrz (initM 0 m_Machine___init__ [0, 1, 2, 3] []) [.int L, .tup (rowsV rs), .tup ((enI es).map PV.int)] h = .ok (mk L rs es) h := fun h => make_c L _ _ o h
    have ln : ∀ h, bLen h [.tup (rowsV rs)] = .ok (.int rs.length) h := fun h => by
      show R.ok (PV.int ((rowsV rs).length : Nat)) h = _
      rw [rowsV_len]
    simp [q0, q1, q2, mc, ln, show inR 7 = true from by decide]
    refine forB (fun t e h => ∃ x5 x6 x7 x8 x9, e = [some (.ref 0), some x, some (pl L rs es), some (mk L rs es), some (.int rs.length), x5, x6, x7, x8, x9] ∧ Dr 0 h) ⟨_, _, _, _, _, rfl, d1⟩ (fun _ _ _ _ => rfl)
      (fun t y env h hy ⟨x5, x6, x7, x8, x9, ee, dh⟩ => ?_) fun env h ⟨x5, x6, x7, x8, x9, ee, dh⟩ => ?_
    · subst ee
      obtain ⟨ht, rfl⟩ := at_seqI hy
      have ht : t < 7 := ht
      have sx := srows_x (rs := rs) o (k := t) (by omega) h
      have k1 : (h ++ [PO.lst ((rowsL L rs t).map rwV)])[h.length]? = some (.lst ((rowsL L rs t).map rwV)) := last_at
      have dG : Dr 0 (h ++ [PO.lst ((rowsL L rs t).map rwV)]) := dh.app
      have rl := Nat.le_trans (rowsL_len3 (rs := rs) l3 t) (p3_le (m := t) (by omega))
      simp [sx]
      rw [src_ref k1]
      simp
      refine filtW (isEnd es) fstV (fun g => g = h ++ [PO.lst ((rowsL L rs t).map rwV)]) (fun g hg => by rw [hg]; exact watch_mk k1) rfl (lim_of (by rw [List.length_map]; omega)) (fun x hx g hg => ?_) fun g hg => ?_
      · subst hg
        obtain ⟨p, hp, rfl⟩ := List.mem_map.mp hx
        obtain ⟨s, j⟩ := p
        have inE : ∀ h, opIn false h (.int j) (.tup ((enI es).map PV.int)) = .ok (.bl (decide (j ∈ es))) h := fun h => by
          have : decide ((j : Int) ∈ enI es) = decide (j ∈ es) := decide_eq_decide.mpr en_mem
          rw [in_ints, this]
        refine ⟨_, rfl, ?_⟩
        have i1 : isEnd es (rwV (s, j)) = decide (j ∈ es) := rfl
        have i2 : fstV (rwV (s, j)) = .str s := rfl
        simp [wipeE, q2, inE, i1, i2]
      · subst hg
        rw [txV]
        have ef : ((rowsL L rs t).filter fun p => decide (p.2 ∈ es)).map (·.1) = txL L rs es t := rfl
        rw [ef]
        have hc : ∀ h, callG takeBack m_how_many_texts [mk L rs es, .int t] h = .ok (.int (txL L rs es t).length) h := fun h => by
          rw [txL_cnt o]; exact hm_c o (by omega) h
        have tc := to_c (es := es) o (n := t) (by omega) l3
        have aok : ∀ s ∈ txL L rs es t, s.length ≤ 8 ∧ ∀ c ∈ s, c ∈ letS := fun s hs => by
          obtain ⟨z1, z2⟩ := tx_ok o hs
          exact ⟨by omega, z1⟩
        have la := tx_len3 (L := L) (rs := rs) (es := es) l3 (t := t) (by omega)
        obtain ⟨g1, g2, g3⟩ := strs_plain _ aok
        generalize txL L rs es t = A at *
        have pp : poks 10 [.tup (A.map PV.str), .tup (A.map PV.str)] = true := by
          unfold poks poks poks pok
          rw [g1]; rfl
        have rl : ∀ (h : PH) (n : Nat), h[n]? = some (.lst [.tup (A.map PV.str), .tup (A.map PV.str)]) → bRepr h [.ref n] = .ok (.str (repL [.tup (A.map PV.str), .tup (A.map PV.str)])) h := fun h n e => repr_l (K := 10) (by decide) (by decide) e pp (by simp [pdps, pdp, g2]) (by simp [pnds, pnd, LIM]; omega)
        have nr := ne_same (repL [.tup (A.map PV.str), .tup (A.map PV.str)]) (ok_repL (K := 10) (by decide) (by decide) pp)
        have bt := v_btupR (h := h ++ [PO.lst ((rowsL L rs t).map rwV)] ++ [PO.lst (A.map PV.str)]) (n := (h ++ [PO.lst ((rowsL L rs t).map rwV)]).length) last_at
        have dG2 : Dr 0 (h ++ [PO.lst ((rowsL L rs t).map rwV)] ++ [PO.lst (A.map PV.str)]) := dG.app
        generalize (h ++ [PO.lst ((rowsL L rs t).map rwV)]).length = n2 at bt ⊢
        generalize h ++ [PO.lst ((rowsL L rs t).map rwV)] ++ [PO.lst (A.map PV.str)] = G at bt dG2 ⊢
        have lnA : ∀ h, bLen h [.tup (A.map PV.str)] = .ok (.int A.length) h := fun h => by
          show R.ok (PV.int ((A.map PV.str).length : Nat)) h = _
          rw [List.length_map]
        have ra : ∀ (h : PH) (n : Nat), bReprA h [.ref n] = bRepr h [.ref n] := fun h n => rfl
        simp [bt, hc, lnA, LIM]
        have e2 : (G ++ [PO.lst [PV.int A.length, PV.int A.length], PO.lst [PV.int A.length]])[G.length]? = some (.lst [PV.int A.length, PV.int A.length]) := by simp
        have e3 : (G ++ [PO.lst [PV.int A.length, PV.int A.length], PO.lst [PV.int A.length]])[G.length + 1]? = some (.lst [PV.int A.length]) := by simp
        have d5 := dG2.app (o := [PO.lst [PV.int A.length, PV.int A.length], PO.lst [PV.int A.length]])
        generalize G ++ [PO.lst [PV.int A.length, PV.int A.length], PO.lst [PV.int A.length]] = G5 at e2 e3 d5 ⊢
        have om : opMul G5 (.ref (G.length + 1)) (.int 2) = .ok (.ref G5.length) (G5 ++ [.lst [PV.int A.length, PV.int A.length]]) := by
          unfold opMul
          simp [e3]
        have ni := ints_ne (get_app (os := [.lst [PV.int A.length, PV.int A.length]]) e2) last_at
        have d6 := d5.app (o := [.lst [PV.int A.length, PV.int A.length]])
        rw [om]
        generalize G5 ++ [PO.lst [PV.int A.length, PV.int A.length]] = G6 at ni d6 ⊢
        simp [ni, tc, LIM]
        rw [rl (G6 ++ [PO.lst [.tup (A.map PV.str), .tup (A.map PV.str)]]) G6.length last_at]
        simp [LIM]
        have r2 := rl (G6 ++ [PO.lst [.tup (A.map PV.str), .tup (A.map PV.str)], PO.lst [.tup (A.map PV.str), .tup (A.map PV.str)]]) (G6.length + 1) (by simp)
        simp [r2, nr]
        exact d6.app
    · subst ee
      have om : ∀ h, opMul h (.int 2) (.int (rs.length : Int)) = .ok (.int (2 * (rs.length : Int))) h := fun h => v_mul (.inl (by decide))
      have hc : ∀ (l : Nat), l ≤ 300 → ∀ h, callG takeBack m_how_many_texts [mk L rs es, .int l] h = .ok (.int (Bt rs es l 0)) h := fun l hl h => hm_c o hl h
      have ic := ie_c (es := es) o (by omega)
      have i1 := anyB_iff (rs := rs) (es := es) (lo := rs.length) (k := rs.length + 1)
      have i2 := anyB_iff (rs := rs) (es := es) (lo := 150) (k := 10)
      have ei := endless_iff (es := es) o (by omega)
      have same : anyB rs es 150 10 = anyB rs es rs.length (rs.length + 1) := by
        rw [Bool.eq_iff_iff, i1, i2]
        constructor
        · rintro ⟨l, a, b, p⟩
          obtain ⟨l, a, b, p⟩ := ei.mpr ⟨l, a, by omega, p⟩
          exact ⟨l, a, by omega, p⟩
        · rintro ⟨l, a, b, p⟩
          obtain ⟨l, a, b, p⟩ := ei.mp ⟨l, a, by omega, p⟩
          exact ⟨l, a, by omega, p⟩
      have cs : decide (0 < ((List.range 10).map fun i => ((Bt rs es (150 + i) 0 : Nat) : Int)).sum) = anyB rs es rs.length (rs.length + 1) := by
        rw [cnt_any]; exact same
      have as : (List.range (rs.length + 1)).any (fun i => decide (0 < Bt rs es (rs.length + i) 0)) = anyB rs es rs.length (rs.length + 1) := rfl
      simp [om, miRng2, inR_small (i := (rs.length : Int)) (by omega) (by omega), inR_small (i := 2 * (rs.length : Int) + 1) (by omega) (by omega)]
      rw [show (2 * (rs.length : Int) + 1).toNat - rs.length = rs.length + 1 by omega]
      refine mapB (gtF rs es) (fun g => g = h) rfl (lim_of (by unfold seqI; rw [List.length_map, List.length_range]; omega)) (fun x hx h hh => ?_) fun g hg => ?_
      · subst hh
        obtain ⟨l, l1, l2, rfl⟩ := at_lo hx
        have oz : decide ((0 : Int) < (Bt rs es l 0 : Nat)) = decide (0 < Bt rs es l 0) := decide_eq_decide.mpr (by omega)
        refine ⟨_, rfl, ?_⟩
        simp [wipeE, hc l (by omega), gtF, oz]
      · subst hg
        rw [gt_seq]
        have al := any_last (h := g) (bls_of (fun i => decide (0 < Bt rs es (rs.length + i) 0)) (List.range (rs.length + 1)))
        have al2 : (((List.range (rs.length + 1)).map fun i => decide (0 < Bt rs es (rs.length + i) 0)).any id) = anyB rs es rs.length (rs.length + 1) := by rw [List.any_map]; rfl
        rw [al2] at al
        generalize (List.range (rs.length + 1)).map (fun i => PV.bl (decide (0 < Bt rs es (rs.length + i) 0))) = Z at al ⊢
        have dZ : Dr 0 (g ++ [PO.lst Z]) := dh.app
        generalize g ++ [PO.lst Z] = G at al dZ ⊢
        generalize anyB rs es rs.length (rs.length + 1) = ab at *
        have ra : ∀ (h : PH) (n : Nat), bReprA h [.ref n] = bRepr h [.ref n] := fun h n => rfl
        have nr := ne_same (rep2b ab) (by cases ab <;> decide +kernel)
        simp [al, ic, LIM]
        rw [repr_bb ab (h := G ++ [PO.lst [.bl ab, .bl ab]]) (n := G.length) last_at]
        simp [LIM]
        have r2 := repr_bb ab (h := G ++ [PO.lst [.bl ab, .bl ab], PO.lst [.bl ab, .bl ab]]) (n := G.length + 1) (by simp)
        simp [r2, nr, ic, miRng2, show inR 150 = true from by decide, show inR 160 = true from by decide]
        have dS : Dr 0 (G ++ [PO.lst [.bl ab, .bl ab], PO.lst [.bl ab, .bl ab]]) := dZ.app
        generalize G ++ [PO.lst [.bl ab, .bl ab], PO.lst [.bl ab, .bl ab]] = G2 at dS ⊢
        refine mapB (cntF rs es) (fun g => g = G2) rfl (lim_of (by unfold seqI; rw [List.length_map, List.length_range]; omega)) (fun x hx h hh => ?_) fun g hg => ?_
        · subst hh
          obtain ⟨l, l1, l2, rfl⟩ := at_lo (lo := 150) (k := 10) hx
          refine ⟨_, rfl, ?_⟩
          simp [wipeE, hc l (by omega), cntF]
        · subst hg
          have e10 := cnt_seq (rs := rs) (es := es) 150 10
          have e10 : (seqI 150 10).map (cntF rs es) = _ := e10
          rw [e10]
          have sl := sum_last (h := g) (is := (List.range 10).map fun i => ((Bt rs es (150 + i) 0 : Nat) : Int))
          have vg := v_gt (h := g ++ [.lst (((List.range 10).map fun i => ((Bt rs es (150 + i) 0 : Nat) : Int)).map PV.int)]) (i := ((List.range 10).map fun i => ((Bt rs es (150 + i) 0 : Nat) : Int)).sum) (j := 0)
          rw [cs] at vg
          have dK : Dr 0 (g ++ [PO.lst (((List.range 10).map fun i => ((Bt rs es (150 + i) 0 : Nat) : Int)).map PV.int)]) := dS.app
          generalize ((List.range 10).map fun i => ((Bt rs es (150 + i) 0 : Nat) : Int)).sum = y at vg sl ⊢
          generalize ((List.range 10).map fun i => ((Bt rs es (150 + i) 0 : Nat) : Int)).map PV.int = Y at vg sl dK ⊢
          have nb : ∀ h, opNe h (.bl ab) (.bl ab) = .ok (.bl false) h := fun h => by cases ab <;> rfl
          generalize g ++ [PO.lst Y] = G3 at vg sl dK ⊢
          simp [-v_gt, sl, vg, nb]
          exact dK
  · subst ee
    simp
    exact ⟨dh, rfl⟩
theorem law_w (ns : List Int) (hl : ns.length ≤ 63) : Ws (m_law [.scr (ns.map PV.int)] []) fun v _ => v = .bl true := by
  unfold m_law
  simp [b_law, len_scr]
  obtain ⟨n, en, hn⟩ := cases_five ns
  rw [en, inR_small (i := (n : Int)) (by omega) (by omega)]
  simp
  refine mapB (fun _ => .bl true) (fun _ => True) trivial (by rw [len_seqI]; exact lim_of (by omega)) (fun x hx h _ => ⟨_, rfl, ?_⟩) fun h0 _ => ?_
  · obtain ⟨k, hk, rfl⟩ := mem_seqI hx
    obtain ⟨a, b, c, es⟩ := sack_c ns k (by omega) h
    simp [wipeE, es]
    exact (right_f.call (h := h ++ [skd a b c]) (j := h.length) rfl ⟨a, b, c, last_at⟩).mono fun v h' ⟨_, p, _⟩ => ⟨p, trivial⟩
  · have e : (seqI 0 n).map (fun _ => PV.bl true) = List.replicate n (.bl true) := by rw [List.map_const', len_seqI]
    rw [e]
    simp [all_last (bls_true n)]
theorem law_true (ns : List Int) (hl : ns.length ≤ 63) : ∃ h, m_law [.scr (ns.map PV.int)] [] = .ok (.bl true) h := by
  obtain ⟨v, g, e, rfl⟩ := law_w ns hl
  exact ⟨g, e⟩
end
end K05

end
open PySem PySem.W PyProof.Rows
set_option maxRecDepth 100000 in
set_option maxHeartbeats 0 in
theorem PySem.Challenge.cw_liketongues_k05_whole_texts_counted_holds : PySem.Challenge.rw_liketongues_k05_whole_texts_counted.Holds := by
  w_on; o_law; k_head; (case hw => w_witness2)
  k_fill
  refine MC.walkM (l := PySem.Challenge.rw_liketongues_k05_whole_texts_counted) (n := 63) (k := 7) (x := "_law_script") (m := K05.m_law) rfl (by decide) rfl ⟨rfl, by decide, by decide⟩ (fun w h Y => PySem.W.kIn_of Y) ?F K05.law_true
  case F =>
    intro w mg fa h KX G hmg
    refine' K05.all_mk KX G hmg ?aC0 ?pg0 ?hd0 ?po0 ?sa0 ?ha0 ?hn0 ?ht0 ?hm0 ?mk0 ?kc0 ?na0_letters ?na0_arrows ?na0_ends ?ii0_int ?ii0_bool ?ii0_tuple ?zcd0 ?zty0 ?kk0_NoneType ?kk0_bool ?kk0_int ?kk0_str ?kk0_tuple ?kk0_list ?kk0_dict ?a0 ?l0 ?e0 ?k0 ?a1 ?l1 ?e1 ?k1 ?a2 ?l2 ?e2 ?k2 ?a3 ?l3 ?e3 ?k3 ?a4 ?l4 ?e4 ?k4 ?a5 ?l5 ?e5 ?k5 ?a6 ?i6 ?l6 ?e6 ?k6 ?a7 ?l7 ?e7 ?k7 ?a8 ?l8 ?e8 ?k8 ?a9 ?l9 ?e9 ?k9 ?a10 ?l10 ?e10 ?k10 ?a11 ?l11 ?e11 ?k11 ?a12 ?l12 ?e12 ?k12 ?a13 ?l13 ?e13 ?k13 ?a14 ?l14 ?e14 ?k14 ?a15 ?l15 ?e15 ?k15 ?a16 ?l16 ?e16 ?k16 ?a17 ?l17 ?e17 ?k17 ?a18 ?l18 ?e18 ?k18 ?a19 ?l19 ?e19 ?k19 ?a20 ?l20 ?e20 ?k20 ?a21 ?l21 ?e21 ?k21 ?g_MOST_LETTERS ?g_MOST_STANDS ?g_MOST_TEXT ?g_MOST_LISTED ?g_LETTERS ?z_abs ?z_all ?z_any ?z_bool ?z_divmod ?z_enumerate ?z_int ?z_isinstance ?z_len ?z_max ?z_min ?z_range ?z_repr ?z_sum ?z_tuple
    (case aC0 => k_is); (case pg0 => k_is); (case hd0 => k_is); (case po0 => k_is); (case sa0 => k_is); (case ha0 => k_is); (case hn0 => k_is); (case ht0 => k_is); (case hm0 => k_is); (case mk0 => k_is); (case kc0 => k_is); (case na0_letters => k_is); (case na0_arrows => k_is); (case na0_ends => k_is); (case ii0_int => k_is); (case ii0_bool => k_is); (case ii0_tuple => k_is); (case zcd0 => k_is); (case zty0 => k_is); (case kk0_NoneType => k_is); (case kk0_bool => k_is); (case kk0_int => k_is); (case kk0_str => k_is); (case kk0_tuple => k_is); (case kk0_list => k_is); (case kk0_dict => k_is); (case a0 => k_is); (case l0 => k_is); (case e0 => k_is); (case k0 => k_is); (case a1 => k_is); (case l1 => k_is); (case e1 => k_is); (case k1 => k_is); (case a2 => k_is); (case l2 => k_is); (case e2 => k_is); (case k2 => k_is); (case a3 => k_is); (case l3 => k_is); (case e3 => k_is); (case k3 => k_is); (case a4 => k_is); (case l4 => k_is); (case e4 => k_is); (case k4 => k_is); (case a5 => k_is); (case l5 => k_is); (case e5 => k_is); (case k5 => k_is); (case a6 => k_is); (case i6 => k_is); (case l6 => k_is); (case e6 => k_is); (case k6 => k_is); (case a7 => k_is); (case l7 => k_is); (case e7 => k_is); (case k7 => k_is); (case a8 => k_is); (case l8 => k_is); (case e8 => k_is); (case k8 => k_is); (case a9 => k_is); (case l9 => k_is); (case e9 => k_is); (case k9 => k_is); (case a10 => k_is); (case l10 => k_is); (case e10 => k_is); (case k10 => k_is); (case a11 => k_is); (case l11 => k_is); (case e11 => k_is); (case k11 => k_is); (case a12 => k_is); (case l12 => k_is); (case e12 => k_is); (case k12 => k_is); (case a13 => k_is); (case l13 => k_is); (case e13 => k_is); (case k13 => k_is); (case a14 => k_is); (case l14 => k_is); (case e14 => k_is); (case k14 => k_is); (case a15 => k_is); (case l15 => k_is); (case e15 => k_is); (case k15 => k_is); (case a16 => k_is); (case l16 => k_is); (case e16 => k_is); (case k16 => k_is); (case a17 => k_is); (case l17 => k_is); (case e17 => k_is); (case k17 => k_is); (case a18 => k_is); (case l18 => k_is); (case e18 => k_is); (case k18 => k_is); (case a19 => k_is); (case l19 => k_is); (case e19 => k_is); (case k19 => k_is); (case a20 => k_is); (case l20 => k_is); (case e20 => k_is); (case k20 => k_is); (case a21 => k_is); (case l21 => k_is); (case e21 => k_is); (case k21 => k_is); (case g_MOST_LETTERS => k_is); (case g_MOST_STANDS => k_is); (case g_MOST_TEXT => k_is); (case g_MOST_LISTED => k_is); (case g_LETTERS => k_is); (case z_abs => k_is); (case z_all => k_is); (case z_any => k_is); (case z_bool => k_is); (case z_divmod => k_is); (case z_enumerate => k_is); (case z_int => k_is); (case z_isinstance => k_is); (case z_len => k_is); (case z_max => k_is); (case z_min => k_is); (case z_range => k_is); (case z_repr => k_is); (case z_sum => k_is); (case z_tuple => k_is)
