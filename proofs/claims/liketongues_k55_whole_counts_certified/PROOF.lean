import PyProof.Rows.All
import Wide.All
import OpenK.AllK
import Wide.FinOn
import HandS.Base
import HandS.Call
import HandS.List
import HandS.Words
import HandS.TupAny
import HandS.TupMul
import HandS.Deep
import HandS.IsInst
import HandS.Text
import HandS.TupLe
import HandS.Style
import HandS.Dict
import HandS.Ends
import HandS.Comp
import HandS.Iter
import HandS.Walk
import HandS.More
import HandS.WordsDict
import HandS.Replace
import PyProof.ReprRoads
import KE.KRevSl
import KE.GoesEnum
import HandS.Zip
import HandS.ForMost
import HandS.Star
import HandS.SortKw
import HandS.DictTup
import KE.KMinKey
import HandS.SortInts
import HandS.FStr
import HandS.Conv
import HandS.RaiseMore
import PySem.Challenge.RW_liketongues_k55_whole_counts_certified
import PyProof.ReprLen
set_option Elab.async false
set_option linter.all false
section
set_option maxRecDepth 100000
set_option maxHeartbeats 4000000
namespace MC
open PySem PySem.Spec PyProof.Rows L2

/-- a name: its signs -/
abbrev Nm := List Nat

/-- pure values; ref n: the n-th object of the list heap; scr, rdic, ins: objects that nobody changes any more (lists, dicts, instances) -/
inductive PV where
  | non
  | bl (b : Bool)
  | int (i : Int)
  | str (s : List Nat)
  | tup (xs : List PV)
  | scr (xs : List PV)
  | rdic (kvs : List (PV × PV))
  | ins (c : Nat) (fs : List (Nm × PV))
  | ref (n : Nat)
  | gl (i : Nat)
  deriving Inhabited

/-- objects that may change -/
inductive PO where
  | lst (xs : List PV)
  | ins (c : Nat) (fs : List (Nm × PV))
  | dic (lk : Bool) (kvs : List (PV × PV))
  deriving Inhabited
abbrev PH := List PO

/-- what the text's top has left: its written part, its classes and its values by number -/
structure Wo where
  K : PySem.W.Frag
  cl : Nat → Option Addr
  gv : Nat → Option V

def nmS (k : Nm) : Str := ⟨k.toArray⟩

/-- a dict's key: an int or a text -/
def keyP : PV → Option Key
  | .int i => some (.inl i)
  | .str s => some (.inr ⟨s.toArray⟩)
  | _ => none

/-- a list that nobody changes: an object of the written part, or one that is known to the object -/
def ScrL (w : Wo) (M : Addr → Prop) (H : Hp) (a : Addr) (vs : List V) : Prop :=
  (∃ (o : Obj) (its : Array Value) (n : Nat), w.K.lookup a = some o ∧ o.cls = .type "list" ∧ o.dict = none ∧ o.data = .seq its n ∧ its.size ≤ sizeLine ∧ Vals vs its.toList) ∨
    ∃ o, H a = some (.frz o (.lst vs)) ∧ ¬ M a
theorem ScrL.sq {w : Wo} {M : Addr → Prop} {H : Hp} {a : Addr} {vs : List V} (h : ScrL w M H a vs) : SqL w.K H a vs := h.elim .inr fun ⟨o, e, _⟩ => .inl (.inr ⟨o, e⟩)

mutual
inductive VR (w : Wo) (M : Addr → Prop) (rho : List Addr) (H : Hp) : PV → V → Prop
  | non : VR w M rho H .non .non
  | bl (b : Bool) : VR w M rho H (.bl b) (.bl b)
  | int (i : Int) : VR w M rho H (.int i) (.int i)
  | str (s : List Nat) : VR w M rho H (.str s) (.str ⟨s.toArray⟩)
  | tup {xs : List PV} {vs : List V} {a : Addr} : SqT w.K H a vs → VRs w M rho H xs vs → VR w M rho H (.tup xs) (.ref a)
  | scr {xs : List PV} {vs : List V} {a : Addr} : ScrL w M H a vs → VRs w M rho H xs vs → VR w M rho H (.scr xs) (.ref a)
  | rdic {kvs : List (PV × PV)} {ks : List (Key × V)} {a : Addr} {o : Obj} : H a = some (.frz o (.dK ks)) → ¬ M a → KRs w M rho H kvs ks → VR w M rho H (.rdic kvs) (.ref a)
  | ins {c : Nat} {C dx a : Addr} {fs : List (Nm × PV)} {gs : List (Str × V)} : w.cl c = some C → H a = some (.ins C dx gs) → ¬ M a → FRs w M rho H fs gs → VR w M rho H (.ins c fs) (.ref a)
  | ref {n : Nat} {a : Addr} : rho[n]? = some a → VR w M rho H (.ref n) (.ref a)
  | gl {i : Nat} {v : V} : w.gv i = some v → VR w M rho H (.gl i) v
inductive VRs (w : Wo) (M : Addr → Prop) (rho : List Addr) (H : Hp) : List PV → List V → Prop
  | nil : VRs w M rho H [] []
  | cons {x : PV} {v : V} {xs : List PV} {vs : List V} : VR w M rho H x v → VRs w M rho H xs vs → VRs w M rho H (x :: xs) (v :: vs)
inductive FRs (w : Wo) (M : Addr → Prop) (rho : List Addr) (H : Hp) : List (Nm × PV) → List (Str × V) → Prop
  | nil : FRs w M rho H [] []
  | cons {k : Nm} {x : PV} {v : V} {fs : List (Nm × PV)} {gs : List (Str × V)} : VR w M rho H x v → FRs w M rho H fs gs → FRs w M rho H ((k, x) :: fs) ((nmS k, v) :: gs)
inductive KRs (w : Wo) (M : Addr → Prop) (rho : List Addr) (H : Hp) : List (PV × PV) → List (Key × V) → Prop
  | nil : KRs w M rho H [] []
  | cons {k x : PV} {j : Key} {v : V} {fs : List (PV × PV)} {gs : List (Key × V)} : keyP k = some j → VR w M rho H x v → KRs w M rho H fs gs → KRs w M rho H ((k, x) :: fs) ((j, v) :: gs)
end


def OR (w : Wo) (M : Addr → Prop) (rho : List Addr) (H : Hp) (a : Addr) : PO → Prop
  | .lst xs => ∃ vs, H a = some (.lst vs) ∧ VRs w M rho H xs vs
  | .ins c fs => ∃ C dx gs, w.cl c = some C ∧ H a = some (.ins C dx gs) ∧ FRs w M rho H fs gs
  | .dic lk kvs => ∃ ks, (bif lk then ∃ o, H a = some (.frz o (.dK ks)) else H a = some (.dK ks)) ∧ KRs w M rho H kvs ks

structure HR (w : Wo) (M : Addr → Prop) (rho : List Addr) (H : Hp) (h : PH) : Prop where
  len : h.length = rho.length
  nd : rho.Nodup
  mem : ∀ b ∈ rho, M b
  live : ∀ b, M b → H b ≠ none
  ob : ∀ (n : Nat) (o : PO), h[n]? = some o → ∃ a, rho[n]? = some a ∧ OR w M rho H a o

structure Step (M : Addr → Prop) (rho : List Addr) (H : Hp) (M' : Addr → Prop) (rho' : List Addr) (H' : Hp) : Prop where
  ext : ∀ (n : Nat) a, rho[n]? = some a → rho'[n]? = some a
  mono : ∀ b, M b → M' b
  fresh : ∀ b, M' b → M b ∨ H b = none
  new : ∀ b ∈ rho', b ∈ rho ∨ H b = none
  frame : ∀ b o, b ∉ rho → H b = some o → H' b = some o
  there : ∀ b, H b ≠ none → H' b ≠ none
  frz : ∀ b o u, H b = some (.frz o u) → H' b = some (.frz o u)

section
variable {w : Wo} {M M1 M2 : Addr → Prop} {rho rho1 rho2 : List Addr} {H H1 H2 : Hp} {h h1 : PH}

theorem Step.refl : Step M rho H M rho H := ⟨fun _ _ e => e, fun _ e => e, fun _ e => .inl e, fun _ e => .inl e, fun _ _ _ e => e, fun _ e => e, fun _ _ _ e => e⟩
theorem Step.trans (a : Step M rho H M1 rho1 H1) (b : Step M1 rho1 H1 M2 rho2 H2) : Step M rho H M2 rho2 H2 where
  ext := fun n x e => b.ext n x (a.ext n x e)
  mono := fun x e => b.mono x (a.mono x e)
  fresh := fun x e => by
    rcases b.fresh x e with e | e
    · exact a.fresh x e
    · refine .inr ?_
      cases q : H x with
      | none => rfl
      | some o => exact absurd e (a.there x (by rw [q]; exact Option.some_ne_none _))
  new := fun x e => by
    rcases b.new x e with e | e
    · exact a.new x e
    · refine .inr ?_
      cases q : H x with
      | none => rfl
      | some o => exact absurd e (a.there x (by rw [q]; exact Option.some_ne_none _))
  frame := fun x o n e => by
    refine b.frame x o (fun z => ?_) (a.frame x o n e)
    rcases a.new x z with z | z
    · exact n z
    · rw [z] at e; cases e
  there := fun x e => b.there x (a.there x e)
  frz := fun x o u e => b.frz x o u (a.frz x o u e)

/-- no tuple -/
def noT : HO → Bool
  | .tup _ => false
  | .frz _ (.tup _) => false
  | _ => true
theorem OR.some {a : Addr} {o : PO} (r : OR w M rho H a o) : ∃ u, H a = some u ∧ noT u = true := by
  cases o with
  | lst xs => obtain ⟨vs, e, _⟩ := r; exact ⟨_, e, rfl⟩
  | ins c fs => obtain ⟨_, _, _, _, e, _⟩ := r; exact ⟨_, e, rfl⟩
  | dic lk kvs =>
    obtain ⟨ks, e, _⟩ := r
    cases lk with
    | false => exact ⟨_, e, rfl⟩
    | true => obtain ⟨o, e⟩ := e; exact ⟨_, e, rfl⟩
theorem HR.at (r : HR w M rho H h) {b : Addr} (hb : b ∈ rho) : ∃ u, H b = some u ∧ noT u = true := by
  obtain ⟨n, hn, e⟩ := List.mem_iff_getElem.mp hb
  have hl : n < h.length := by rw [r.len]; exact hn
  obtain ⟨a, ha, q⟩ := r.ob n h[n] (List.getElem?_eq_getElem hl)
  rw [List.getElem?_eq_getElem hn, e] at ha
  cases ha
  exact q.some
theorem Step.sqT (st : Step M rho H M1 rho1 H1) (r : HR w M rho H h) {K : PySem.W.Frag} {a : Addr} {vs : List V} (q : SqT K H a vs) : SqT K H1 a vs := by
  rcases q with (q | ⟨o, q⟩) | q
  · refine .inl (.inl (st.frame a _ (fun z => ?_) q))
    obtain ⟨u, e, n⟩ := r.at z
    rw [q] at e; cases e; cases n
  · refine .inl (.inr ⟨o, st.frame a _ (fun z => ?_) q⟩)
    obtain ⟨u, e, n⟩ := r.at z
    rw [q] at e; cases e; cases n
  · exact .inr q
theorem Step.no (st : Step M rho H M1 rho1 H1) {a : Addr} {u : HO} (q : H a = some u) (n : ¬ M a) : ¬ M1 a := fun z => by
  rcases st.fresh a z with z | z
  · exact n z
  · rw [q] at z; cases z
theorem Step.at (st : Step M rho H M1 rho1 H1) (r : HR w M rho H h) {a : Addr} {u : HO} (q : H a = some u) (n : ¬ M a) : H1 a = some u :=
  st.frame a u (fun z => n (r.mem a z)) q
theorem Step.scr (st : Step M rho H M1 rho1 H1) (r : HR w M rho H h) {a : Addr} {vs : List V} (q : ScrL w M H a vs) : ScrL w M1 H1 a vs := by
  rcases q with q | ⟨o, q, n⟩
  · exact .inl q
  · exact .inr ⟨o, st.at r q n, st.no q n⟩
mutual
theorem VR.step (st : Step M rho H M1 rho1 H1) (r : HR w M rho H h) : ∀ {x : PV} {v : V}, VR w M rho H x v → VR w M1 rho1 H1 x v
  | _, _, .non => .non
  | _, _, .bl b => .bl b
  | _, _, .int i => .int i
  | _, _, .str s => .str s
  | _, _, .tup q s => .tup (st.sqT r q) (VRs.step st r s)
  | _, _, .scr q s => .scr (st.scr r q) (VRs.step st r s)
  | _, _, .rdic e n s => .rdic (st.at r e n) (st.no e n) (KRs.step st r s)
  | _, _, .ins c e n s => .ins c (st.at r e n) (st.no e n) (FRs.step st r s)
  | _, _, .ref e => .ref (st.ext _ _ e)
  | _, _, .gl e => .gl e
theorem VRs.step (st : Step M rho H M1 rho1 H1) (r : HR w M rho H h) : ∀ {xs : List PV} {vs : List V}, VRs w M rho H xs vs → VRs w M1 rho1 H1 xs vs
  | _, _, .nil => .nil
  | _, _, .cons a b => .cons (VR.step st r a) (VRs.step st r b)
theorem FRs.step (st : Step M rho H M1 rho1 H1) (r : HR w M rho H h) : ∀ {fs : List (Nm × PV)} {gs : List (Str × V)}, FRs w M rho H fs gs → FRs w M1 rho1 H1 fs gs
  | _, _, .nil => .nil
  | _, _, .cons a b => .cons (VR.step st r a) (FRs.step st r b)
theorem KRs.step (st : Step M rho H M1 rho1 H1) (r : HR w M rho H h) : ∀ {fs : List (PV × PV)} {gs : List (Key × V)}, KRs w M rho H fs gs → KRs w M1 rho1 H1 fs gs
  | _, _, .nil => .nil
  | _, _, .cons k a b => .cons k (VR.step st r a) (KRs.step st r b)
end

theorem VRs.length : ∀ {xs : List PV} {vs : List V}, VRs w M rho H xs vs → vs.length = xs.length
  | _, _, .nil => rfl
  | _, _, .cons _ b => by rw [List.length_cons, List.length_cons, VRs.length b]
theorem VRs.get : ∀ {xs : List PV} {vs : List V} {i : Nat} {x : PV}, VRs w M rho H xs vs → xs[i]? = some x → ∃ v, vs[i]? = some v ∧ VR w M rho H x v
  | _, _, i, _, .nil, e => by simp at e
  | _, _, 0, _, .cons a _, e => by simp at e; subst e; exact ⟨_, rfl, a⟩
  | _, _, i + 1, x, .cons _ b, e => by
    obtain ⟨v, h1, h2⟩ := VRs.get (i := i) (x := x) b (by simpa using e)
    exact ⟨v, by simpa using h1, h2⟩
theorem VRs.append : ∀ {xs ys : List PV} {vs us : List V}, VRs w M rho H xs vs → VRs w M rho H ys us → VRs w M rho H (xs ++ ys) (vs ++ us)
  | _, _, _, _, .nil, s => s
  | _, _, _, _, .cons r t, s => .cons r (VRs.append t s)
theorem VRs.take : ∀ {xs : List PV} {vs : List V} (n : Nat), VRs w M rho H xs vs → VRs w M rho H (xs.take n) (vs.take n)
  | _, _, 0, _ => .nil
  | _, _, _ + 1, .nil => .nil
  | _, _, n + 1, .cons r t => .cons r (VRs.take n t)
theorem VRs.drop : ∀ {xs : List PV} {vs : List V} (n : Nat), VRs w M rho H xs vs → VRs w M rho H (xs.drop n) (vs.drop n)
  | _, _, 0, r => r
  | _, _, _ + 1, .nil => .nil
  | _, _, n + 1, .cons _ t => VRs.drop n t
theorem VRs.set {x : PV} {v : V} (r : VR w M rho H x v) : ∀ {xs : List PV} {vs : List V} (i : Nat), VRs w M rho H xs vs → VRs w M rho H (xs.set i x) (vs.set i v)
  | _, _, _, .nil => .nil
  | _, _, 0, .cons _ t => .cons r t
  | _, _, i + 1, .cons q t => .cons q (VRs.set r i t)

/-- all that stood stands, more may be laid -/
theorem Step.grow (e : ∀ b o, H b = some o → H1 b = some o) : Step M rho H M rho H1 where
  ext := fun _ _ e => e
  mono := fun _ e => e
  fresh := fun _ e => .inl e
  new := fun _ e => .inl e
  frame := fun b o _ q => e b o q
  there := fun b q z => by
    cases p : H b with
    | none => exact q p
    | some o => rw [e b o p] at z; cases z
  frz := fun b o u q => e b _ q
theorem OR.step (st : Step M rho H M1 rho1 H1) (r : HR w M rho H h) {a : Addr} {o : PO} (e : H1 a = H a) (q : OR w M rho H a o) : OR w M1 rho1 H1 a o := by
  cases o with
  | lst xs => obtain ⟨vs, p, s⟩ := q; exact ⟨vs, e.trans p, s.step st r⟩
  | ins c fs => obtain ⟨C, dx, gs, p1, p, s⟩ := q; exact ⟨C, dx, gs, p1, e.trans p, s.step st r⟩
  | dic lk kvs =>
    obtain ⟨ks, p, s⟩ := q
    refine ⟨ks, ?_, s.step st r⟩
    cases lk with
    | false => exact e.trans p
    | true => obtain ⟨o, p⟩ := p; exact ⟨o, e.trans p⟩
theorem HR.grow (r : HR w M rho H h) (e : ∀ b o, H b = some o → H1 b = some o) : HR w M rho H1 h where
  len := r.len
  nd := r.nd
  mem := r.mem
  live := fun b m => (Step.grow (M := M) (rho := rho) e).there b (r.live b m)
  ob := fun n o q => by
    obtain ⟨a, ha, s⟩ := r.ob n o q
    obtain ⟨u, hu, _⟩ := s.some
    exact ⟨a, ha, s.step (Step.grow e) r ((e a u hu).trans hu.symm)⟩
theorem same_upd {p : Addr} {o : HO} (n : H p = none) : ∀ b u, H b = some u → upd H p o b = some u := fun b u e => by
  rw [upd_ne (ne_of_none e n)]; exact e

/-- a new object of the list heap -/
theorem Step.alloc {p : Addr} {o : HO} (n : H p = none) : Step M rho H (fun b => M b ∨ b = p) (rho ++ [p]) (upd H p o) where
  ext := fun i a e => by
    have hi : i < rho.length := (List.getElem?_eq_some_iff.mp e).1
    rw [List.getElem?_append_left hi]; exact e
  mono := fun b e => .inl e
  fresh := fun b e => e.elim .inl fun z => .inr (by rw [z]; exact n)
  new := fun b e => by
    rcases List.mem_append.mp e with z | z
    · exact .inl z
    · rw [List.mem_singleton.mp z]; exact .inr n
  frame := fun b u _ e => same_upd n b u e
  there := fun b e => (Step.grow (M := M) (rho := rho) (same_upd (o := o) n)).there b e
  frz := fun b u v e => same_upd n b _ e
theorem HR.alloc (r : HR w M rho H h) {p : Addr} {o : HO} (n : H p = none) {po : PO} (q : OR w (fun b => M b ∨ b = p) (rho ++ [p]) (upd H p o) p po) :
    HR w (fun b => M b ∨ b = p) (rho ++ [p]) (upd H p o) (h ++ [po]) where
  len := by rw [List.length_append, List.length_append, r.len]; rfl
  nd := by
    refine List.nodup_append.mpr ⟨r.nd, (by simp), fun a ha b hb e => ?_⟩
    rw [List.mem_singleton] at hb
    subst e; subst hb
    exact r.live _ (r.mem _ ha) n
  mem := fun b hb => (List.mem_append.mp hb).elim (fun z => .inl (r.mem b z)) fun z => .inr (List.mem_singleton.mp z)
  live := fun b hb => hb.elim (fun z => (Step.alloc (M := M) (rho := rho) (o := o) n).there b (r.live b z)) fun z => by rw [z, upd_same]; exact Option.some_ne_none _
  ob := fun i u e => by
    by_cases hi : i < h.length
    · rw [List.getElem?_append_left hi] at e
      obtain ⟨a, ha, s⟩ := r.ob i u e
      obtain ⟨v, hv, _⟩ := s.some
      exact ⟨a, (Step.alloc (M := M) (rho := rho) (o := o) n).ext i a ha, s.step (Step.alloc n) r (upd_ne (ne_of_none hv n))⟩
    · have hi2 : i = h.length := by
        have z := (List.getElem?_eq_some_iff.mp e).1
        rw [List.length_append, List.length_singleton] at z
        omega
      subst hi2
      rw [List.getElem?_append_right (Nat.le_refl _), Nat.sub_self] at e
      cases e
      refine ⟨p, ?_, q⟩
      rw [List.getElem?_append_right (by rw [r.len]; exact Nat.le_refl _), r.len, Nat.sub_self]
      rfl
/-- the n-th object is written -/
theorem Step.write (r : HR w M rho H h) {n : Nat} {a : Addr} {o : HO} (e : rho[n]? = some a) (nf : ∀ p u, H a ≠ some (.frz p u)) : Step M rho H M rho (upd H a o) where
  ext := fun _ _ e => e
  mono := fun _ e => e
  fresh := fun _ e => .inl e
  new := fun _ e => .inl e
  frame := fun b u nb q => by
    rw [upd_ne]
    · exact q
    · rintro rfl
      exact nb (List.mem_of_getElem? e)
  there := fun b q => by
    by_cases hb : b = a
    · subst hb; rw [upd_same]; exact Option.some_ne_none _
    · rw [upd_ne hb]; exact q
  frz := fun b p u q => by
    rw [upd_ne]
    · exact q
    · rintro rfl
      exact nf p u q
theorem HR.write (r : HR w M rho H h) {n : Nat} {a : Addr} {o : HO} {po : PO} (e : rho[n]? = some a) (nf : ∀ p u, H a ≠ some (.frz p u)) (q : OR w M rho (upd H a o) a po) : HR w M rho (upd H a o) (h.set n po) where
  len := by rw [List.length_set]; exact r.len
  nd := r.nd
  mem := r.mem
  live := fun b hb => (Step.write r (o := o) e nf).there b (r.live b hb)
  ob := fun i u z => by
    by_cases hi : i = n
    · subst hi
      have hl : i < h.length := by
        have := (List.getElem?_eq_some_iff.mp z).1
        rwa [List.length_set] at this
      rw [List.getElem?_set_self hl] at z
      cases z
      exact ⟨a, e, q⟩
    · rw [List.getElem?_set_ne (Ne.symm hi)] at z
      obtain ⟨b, hb, s⟩ := r.ob i u z
      refine ⟨b, hb, s.step (Step.write r e nf) r (upd_ne ?_)⟩
      rintro rfl
      obtain ⟨h1, e1⟩ := List.getElem?_eq_some_iff.mp hb
      obtain ⟨h2, e2⟩ := List.getElem?_eq_some_iff.mp e
      exact hi ((List.getElem_inj r.nd).mp (e1.trans e2.symm))
end

/-- an outcome: a value and the heap behind it; an exception (its class, its attributes); or nothing is said -/
inductive R (α : Type) where
  | ok (a : α) (h : PH)
  | exc (c : Nat) (fs : List (Nm × PV)) (h : PH)
  | stuck
/-- the kind depends on f, so that simp leaves f alone -/
@[reducible] def RT {α β : Type} (_ : α → PH → R β) : Type := R β
def R.bind {α β : Type} (r : R α) (f : α → PH → R β) : RT f := match r with
  | .ok a h => f a h
  | .exc c fs h => .exc c fs h
  | .stuck => .stuck
/-- what is wanted of an exception -/
abbrev XC := Nat → List (Nm × PV) → PH → (Addr → Prop) → List Addr → Hp → Prop
abbrev KC (α : Type) := α → PH → (Addr → Prop) → List Addr → Hp → Prop
def Out {α : Type} (w : Wo) (EX : XC) (M : Addr → Prop) (rho : List Addr) (H : Hp) (r : R α) (k : KC α) : Prop := match r with
  | .ok a h => ∀ M' rho' H', Step M rho H M' rho' H' → HR w M' rho' H' h → k a h M' rho' H'
  | .exc c fs h => ∀ M' rho' H', Step M rho H M' rho' H' → HR w M' rho' H' h → EX c fs h M' rho' H'
  | .stuck => False
section
variable {w : Wo} {EX : XC} {M M1 : Addr → Prop} {rho rho1 : List Addr} {H H1 : Hp} {α β : Type}
theorem Out.step {r : R α} {k : KC α} (o : Out w EX M rho H r k) (st : Step M rho H M1 rho1 H1) : Out w EX M1 rho1 H1 r k := by
  cases r with
  | ok a h => exact fun M' rho' H' s q => o M' rho' H' (st.trans s) q
  | exc c fs h => exact fun M' rho' H' s q => o M' rho' H' (st.trans s) q
  | stuck => exact o
theorem Out.bind {r : R α} {f : α → PH → R β} {k : KC β} (o : Out w EX M rho H (r.bind f) k) : Out w EX M rho H r fun a h M' rho' H' => Out w EX M' rho' H' (f a h) k := by
  cases r with
  | ok a h => exact fun M' rho' H' s _ => Out.step (show Out w EX M rho H (f a h) k from o) s
  | exc c fs h => exact o
  | stuck => exact o
theorem Out.imp {r : R α} {k k' : KC α} (o : Out w EX M rho H r k) (i : ∀ a h M' rho' H', Step M rho H M' rho' H' → HR w M' rho' H' h → k a h M' rho' H' → k' a h M' rho' H') : Out w EX M rho H r k' := by
  cases r with
  | ok a h => exact fun M' rho' H' s q => i a h M' rho' H' s q (o M' rho' H' s q)
  | exc c fs h => exact o
  | stuck => exact o
theorem Out.now {a : α} {h : PH} {k : KC α} (o : Out w EX M rho H (.ok a h) k) (q : HR w M rho H h) : k a h M rho H := o M rho H Step.refl q
end
end MC

end
section
set_option maxRecDepth 100000
set_option maxHeartbeats 4000000
namespace MC
open PySem PySem.Spec PyProof.Rows L2

/-- slots -/
abbrev Sl := L2.St
abbrev ME0 := List (Option PV) → PH → R PV
/-- the mirrors: of an expression, a test, an argument list -/
abbrev ME := ME0
abbrev MT := List (Option PV) → PH → R Bool
abbrev MA := List (Option PV) → PH → R (List PV)

/-- what a context must be for the rules -/
structure Cxt (w : Wo) (k : Nat) (X : Cx) : Prop where
  hK : X.K = w.K
  calm : X.calm = true
  room : Room k X.A
  grd : X.A.guards = some []
  own : PassesOwn (model X.prog X.w) X.A X.env X.xe

inductive ER (w : Wo) (M : Addr → Prop) (rho : List Addr) (H : Hp) : List (Option PV) → Sl → Prop
  | nil : ER w M rho H [] []
  | has {x : PV} {v : V} {e : List (Option PV)} {s : Sl} : VR w M rho H x v → ER w M rho H e s → ER w M rho H (some x :: e) (some v :: s)
  | no {v : Option V} {e : List (Option PV)} {s : Sl} : ER w M rho H e s → ER w M rho H (none :: e) (v :: s)
section
variable {w : Wo} {M M1 : Addr → Prop} {rho rho1 : List Addr} {H H1 : Hp} {h : PH}
theorem ER.step (st : Step M rho H M1 rho1 H1) (r : HR w M rho H h) : ∀ {e : List (Option PV)} {s : Sl}, ER w M rho H e s → ER w M1 rho1 H1 e s
  | _, _, .nil => .nil
  | _, _, .has a b => .has (a.step st r) (ER.step st r b)
  | _, _, .no b => .no (ER.step st r b)
theorem ER.get : ∀ {e : List (Option PV)} {s : Sl} {i : Nat} {x : PV}, ER w M rho H e s → e[i]? = some (some x) → ∃ v, s[i]? = some (some v) ∧ VR w M rho H x v
  | _, _, i, _, .nil, q => by simp at q
  | _, _, 0, _, .has a _, q => by simp at q; subst q; exact ⟨_, rfl, a⟩
  | _, _, 0, _, .no _, q => by simp at q
  | _, _, i + 1, x, .has _ b, q => by
    obtain ⟨v, h1, h2⟩ := ER.get (i := i) (x := x) b (by simpa using q)
    exact ⟨v, by simpa using h1, h2⟩
  | _, _, i + 1, x, .no b, q => by
    obtain ⟨v, h1, h2⟩ := ER.get (i := i) (x := x) b (by simpa using q)
    exact ⟨v, by simpa using h1, h2⟩
theorem ER.set {x : PV} {v : V} (r : VR w M rho H x v) : ∀ {e : List (Option PV)} {s : Sl} (i : Nat), ER w M rho H e s → ER w M rho H (e.set i (some x)) (s.set i (some v))
  | _, _, _, .nil => .nil
  | _, _, 0, .has _ b => .has r b
  | _, _, 0, .no b => .has r b
  | _, _, i + 1, .has a b => .has a (ER.set r i b)
  | _, _, i + 1, .no b => .no (ER.set r i b)
theorem ER.drop : ∀ {e : List (Option PV)} {s : Sl} (i : Nat) (v : Option V), ER w M rho H e s → ER w M rho H (e.set i none) (s.set i v)
  | _, _, _, _, .nil => .nil
  | _, _, 0, _, .has _ b => .no b
  | _, _, 0, _, .no b => .no b
  | _, _, i + 1, v, .has a b => .has a (ER.drop i v b)
  | _, _, i + 1, v, .no b => .no (ER.drop i v b)
theorem ER.length : ∀ {e : List (Option PV)} {s : Sl}, ER w M rho H e s → e.length = s.length
  | _, _, .nil => rfl
  | _, _, .has _ b => by rw [List.length_cons, List.length_cons, ER.length b]
  | _, _, .no b => by rw [List.length_cons, List.length_cons, ER.length b]
end

/-- a value's end -/
def KV (w : Wo) (Q : VK) : KC PV := fun x _ M rho H => ∀ v, VR w M rho H x v → Q v H
def KA (w : Wo) (Q : List V → Hp → Prop) : KC (List PV) := fun xs _ M rho H => ∀ vs, VRs w M rho H xs vs → Q vs H
def KB (Q : Bool → Hp → Prop) : KC Bool := fun b _ _ _ H => Q b H
/-- the readings -/
def tM (w : Wo) (EX : XC) (m : ME) : TE := fun σ H Q => ∃ M rho env h, ER w M rho H env σ ∧ HR w M rho H h ∧ Out w EX M rho H (m env h) (KV w Q)
def tT (w : Wo) (EX : XC) (m : MT) : TT := fun σ H Q => ∃ M rho env h, ER w M rho H env σ ∧ HR w M rho H h ∧ Out w EX M rho H (m env h) (KB Q)
def tA (w : Wo) (EX : XC) (m : MA) : TA := fun σ H Q => ∃ M rho env h, ER w M rho H env σ ∧ HR w M rho H h ∧ Out w EX M rho H (m env h) (KA w Q)
theorem PE.imp {X : Cx} {e : Expr} {t t' : TE} (p : PE X e t) (i : ∀ σ H Q, t' σ H Q → t σ H Q) : PE X e t' := ⟨fun pins s σ H Q I h => p.run pins s σ H Q I (i σ H Q h)⟩
theorem PT.imp {X : Cx} {e : Expr} {t t' : TT} (p : PT X e t) (i : ∀ σ H Q, t' σ H Q → t σ H Q) : PT X e t' := ⟨fun pins s σ H Q I h => p.run pins s σ H Q I (i σ H Q h)⟩
theorem PW.imp {X : Cx} {e : Expr} {t t' : TT} (p : PW X e t) (i : ∀ σ H Q, t' σ H Q → t σ H Q) : PW X e t' := ⟨fun wh pins s σ H Q I h => p.run wh pins s σ H Q I (i σ H Q h)⟩
theorem PA.imp {X : Cx} {es : List Expr} {t t' : TA} (p : PA X es t) (i : ∀ σ H Q, t' σ H Q → t σ H Q) : PA X es t' := ⟨fun ps pins s σ H Q I h => p.run ps pins s σ H Q I (i σ H Q h)⟩

section
variable {w : Wo} {EX : XC} {M : Addr → Prop} {rho : List Addr} {H : Hp} {env : List (Option PV)} {σ : Sl} {h : PH}
/-- from an outcome with any end to the reading -/
theorem tM.of {m : ME} {k : KC PV} {Q : VK} (er : ER w M rho H env σ) (hr : HR w M rho H h) (o : Out w EX M rho H (m env h) k)
    (i : ∀ x h1 M1 rho1 H1 v, Step M rho H M1 rho1 H1 → ER w M1 rho1 H1 env σ → HR w M1 rho1 H1 h1 → k x h1 M1 rho1 H1 → VR w M1 rho1 H1 x v → Q v H1) : tM w EX m σ H Q :=
  ⟨M, rho, env, h, er, hr, o.imp fun x h1 M1 rho1 H1 st hr1 q v r => i x h1 M1 rho1 H1 v st (er.step st hr) hr1 q r⟩
theorem tT.of {m : MT} {k : KC Bool} {Q : Bool → Hp → Prop} (er : ER w M rho H env σ) (hr : HR w M rho H h) (o : Out w EX M rho H (m env h) k)
    (i : ∀ x h1 M1 rho1 H1, Step M rho H M1 rho1 H1 → ER w M1 rho1 H1 env σ → HR w M1 rho1 H1 h1 → k x h1 M1 rho1 H1 → Q x H1) : tT w EX m σ H Q :=
  ⟨M, rho, env, h, er, hr, o.imp fun x h1 M1 rho1 H1 st hr1 q => i x h1 M1 rho1 H1 st (er.step st hr) hr1 q⟩
theorem tA.of {m : MA} {k : KC (List PV)} {Q : List V → Hp → Prop} (er : ER w M rho H env σ) (hr : HR w M rho H h) (o : Out w EX M rho H (m env h) k)
    (i : ∀ x h1 M1 rho1 H1 v, Step M rho H M1 rho1 H1 → ER w M1 rho1 H1 env σ → HR w M1 rho1 H1 h1 → k x h1 M1 rho1 H1 → VRs w M1 rho1 H1 x v → Q v H1) : tA w EX m σ H Q :=
  ⟨M, rho, env, h, er, hr, o.imp fun x h1 M1 rho1 H1 st hr1 q v r => i x h1 M1 rho1 H1 v st (er.step st hr) hr1 q r⟩
end

def mVar (i : Nat) : ME := fun env h => match env[i]? with
  | some (some x) => .ok x h
  | _ => .stuck
def mC (x : PV) : ME := fun _ h => .ok x h
section
variable {w : Wo} {EX : XC} {X : Cx} {k : Nat}
theorem me_var (i : Nat) {x : Str} {pos : Pos} (hN : X.N[i]? = some x := by rfl) (hv : Vis X.env.scope x := by first | exact Or.inl rfl | exact Or.inr (Or.inl rfl) | exact Or.inr (Or.inr rfl)) (hd : (x == ("__debug__" : Str)) = false := by decide)
    (hcd : (x == ("__classdict__" : Str)) = false := by decide) : PE X (.Name x pos) (tM w EX (mVar i)) := by
  refine PE.imp (pv i hN hv hd hcd) fun σ H Q h => ?_
  obtain ⟨M, rho, env, hh, er, hr, o⟩ := h
  unfold mVar at o
  cases e : env[i]? with
  | none => rw [e] at o; exact o.elim
  | some a =>
    cases a with
    | none => rw [e] at o; exact o.elim
    | some x =>
      rw [e] at o
      obtain ⟨v, e1, r⟩ := er.get e
      exact ⟨v, e1, o.now hr v r⟩
theorem me_const {e : Expr} {v : V} {x : PV} (p : PE X e (tC v)) (r : ∀ M rho H, VR w M rho H x v) : PE X e (tM w EX (mC x)) := by
  refine PE.imp p fun σ H Q h => ?_
  obtain ⟨M, rho, env, hh, er, hr, o⟩ := h
  exact o.now hr v (r M rho H)
theorem me_int {i : Int} {j pos} : PE X (.Constant (.int i) j pos) (tM w EX (mC (.int i))) := me_const pe_int fun _ _ _ => .int i
theorem me_bl {b : Bool} {j pos} : PE X (.Constant (.bool b) j pos) (tM w EX (mC (.bl b))) := me_const pe_bl fun _ _ _ => .bl b
theorem me_non {j pos} : PE X (.Constant .none j pos) (tM w EX (mC .non)) := me_const pe_non fun _ _ _ => .non
theorem me_str {x : Str} {j pos} (s : List Nat) (e : x = ⟨s.toArray⟩ := by decide +kernel) : PE X (.Constant (.str x) j pos) (tM w EX (mC (.str s))) := by
  subst e
  exact me_const pe_str fun _ _ _ => .str s
/-- a global whose value is told by number -/
theorem me_gl (i : Nat) {x : Str} {v : V} {u : Value} {pos : Pos} (hg : Gl X x) (hm : X.mg x = some u) (r : RelV v u) (hv : w.gv i = some v) (hd : (x == ("__debug__" : Str)) = false := by decide) : PE X (.Name x pos) (tM w EX (mC (.gl i))) :=
  me_const (pe_glob hg hm r hd) fun _ _ _ => .gl hv
/-- a global that holds an int, a text -/
theorem me_gint (i : Int) {x : Str} {t : Tok} {pos : Pos} (hg : Gl X x) (hm : X.mg x = some (.int i t)) (hd : (x == ("__debug__" : Str)) = false := by decide) : PE X (.Name x pos) (tM w EX (mC (.int i))) :=
  me_const (pe_glob (v := .int i) hg hm ⟨t, rfl⟩ hd) fun _ _ _ => .int i
theorem me_gstr (s : List Nat) {x z : Str} {t : Tok} {pos : Pos} (hg : Gl X x) (hm : X.mg x = some (.str z t)) (e : z = ⟨s.toArray⟩) (hd : (x == ("__debug__" : Str)) = false := by decide) : PE X (.Name x pos) (tM w EX (mC (.str s))) := by
  subst e
  exact me_const (pe_glob (v := .str ⟨s.toArray⟩) hg hm ⟨t, rfl⟩ hd) fun _ _ _ => .str s
/-- a global whose value stands for ever as it is told (a tuple of the top) -/
theorem me_gval (y : PV) {x : Str} {v : V} {u : Value} {pos : Pos} (hg : Gl X x) (hm : X.mg x = some u) (r : RelV v u) (hy : ∀ M rho H, VR w M rho H y v) (hd : (x == ("__debug__" : Str)) = false := by decide) : PE X (.Name x pos) (tM w EX (mC y)) :=
  me_const (pe_glob hg hm r hd) hy
end

def LIM : Nat := 16777216
theorem lim_eq : (sizeLine : Nat) = LIM := sizeLine_eq
def maNil : MA := fun _ h => .ok [] h
def maCons (m : ME) (ms : MA) : MA := fun env h => (m env h).bind fun x h1 => (ms env h1).bind fun xs h2 => .ok (x :: xs) h2
def mTup (ms : MA) : ME := fun env h => (ms env h).bind fun xs h1 => if xs.length ≤ LIM then .ok (.tup xs) h1 else .stuck
def mLst (ms : MA) : ME := fun env h => (ms env h).bind fun xs h1 => if xs.length ≤ LIM then .ok (.ref h1.length) (h1 ++ [.lst xs]) else .stuck
section
variable {w : Wo} {EX : XC} {X : Cx} {k : Nat} {M : Addr → Prop} {rho : List Addr} {H : Hp} {h : PH}
theorem ma_nil : PA X [] (tA w EX maNil) := by
  refine PA.imp pa_nil fun σ H Q h => ?_
  obtain ⟨M, rho, env, hh, er, hr, o⟩ := h
  exact o.now hr [] .nil
theorem ma_cons {e : Expr} {es : List Expr} {m : ME} {ms : MA} (ha : PE X e (tM w EX m)) (hb : PA X es (tA w EX ms)) (hs : starEach (e :: es) X.env = (false, eval e X.env) :: starEach es X.env := by rfl) : PA X (e :: es) (tA w EX (maCons m ms)) := by
  refine PA.imp (pa_cons ha hb hs) fun σ H Q h => ?_
  obtain ⟨M, rho, env, hh, er, hr, o⟩ := h
  refine tM.of er hr o.bind fun x h1 M1 rho1 H1 v st1 er1 hr1 o1 rv => ?_
  refine ⟨M1, rho1, env, h1, er1, hr1, (Out.bind o1).imp fun ys h2 M2 rho2 H2 st2 hr2 o2 us rs => ?_⟩
  exact o2.now hr2 (v :: us) (.cons (rv.step st2 hr1) rs)
/-- a new tuple -/
theorem KV.tup {xs : List PV} {vs : List V} {Q : VK} (hr : HR w M rho H h) (o : Out w EX M rho H (.ok (.tup xs) h) (KV w Q)) (r : VRs w M rho H xs vs) : ∀ p, H p = none → Q (.ref p) (upd H p (.tup vs)) := fun p n =>
  o M rho _ (Step.grow (same_upd n)) (hr.grow (same_upd n)) _ (.tup (SqT.of upd_same) (r.step (Step.grow (same_upd n)) hr))
/-- a new list -/
theorem KV.lst {xs : List PV} {vs : List V} {Q : VK} (hr : HR w M rho H h) (o : Out w EX M rho H (.ok (.ref h.length) (h ++ [.lst xs])) (KV w Q)) (r : VRs w M rho H xs vs) : ∀ p, H p = none → Q (.ref p) (upd H p (.lst vs)) := fun p n => by
  have st := Step.alloc (M := M) (rho := rho) (o := .lst vs) n
  have r2 := r.step st hr
  refine o _ _ _ st (hr.alloc n ⟨vs, upd_same, r2⟩) _ (.ref ?_)
  rw [List.getElem?_append_right (by rw [hr.len]; exact Nat.le_refl _), hr.len, Nat.sub_self]
  rfl
theorem me_tup {es : List Expr} {ms : MA} {x1 pos} (ha : PA X es (tA w EX ms)) : PE X (.Tuple es x1 pos) (tM w EX (mTup ms)) := by
  refine PE.imp (pe_tup ha) fun σ H Q h => ?_
  obtain ⟨M, rho, env, hh, er, hr, o⟩ := h
  refine tA.of er hr o.bind fun xs h1 M1 rho1 H1 vs st1 er1 hr1 o1 rs => ?_
  by_cases hl : xs.length ≤ LIM
  · simp only [hl, if_true] at o1
    exact ⟨by rw [rs.length, lim_eq]; exact hl, KV.tup hr1 o1 rs⟩
  · simp only [hl, if_false] at o1
    exact o1.elim
theorem me_lst {es : List Expr} {ms : MA} {pos} (ha : PA X es (tA w EX ms)) : PE X (.List es pos) (tM w EX (mLst ms)) := by
  refine PE.imp (pe_lst ha) fun σ H Q h => ?_
  obtain ⟨M, rho, env, hh, er, hr, o⟩ := h
  refine tA.of er hr o.bind fun xs h1 M1 rho1 H1 vs st1 er1 hr1 o1 rs => ?_
  by_cases hl : xs.length ≤ LIM
  · simp only [hl, if_true] at o1
    exact ⟨by rw [rs.length, lim_eq]; exact hl, KV.lst hr1 o1 rs⟩
  · simp only [hl, if_false] at o1
    exact o1.elim
end

abbrev O2 := PH → PV → PV → R PV
abbrev O1 := PH → PV → R PV
def r2 (w : Wo) (EX : XC) (op : O2) : R2 := fun x y H Q => ∃ M rho h px py, HR w M rho H h ∧ VR w M rho H px x ∧ VR w M rho H py y ∧ Out w EX M rho H (op h px py) (KV w Q)
def r1 (w : Wo) (EX : XC) (op : O1) : V → Hp → VK → Prop := fun x H Q => ∃ M rho h px, HR w M rho H h ∧ VR w M rho H px x ∧ Out w EX M rho H (op h px) (KV w Q)
def rA (w : Wo) (EX : XC) (op : PH → List PV → R PV) : List V → Hp → VK → Prop := fun xs H Q => ∃ M rho h ps, HR w M rho H h ∧ VRs w M rho H ps xs ∧ Out w EX M rho H (op h ps) (KV w Q)
def mOp (op : O2) (ma mb : ME) : ME := fun env h => (ma env h).bind fun x h1 => (mb env h1).bind fun y h2 => op h2 x y
def mUn (op : O1) (ma : ME) : ME := fun env h => (ma env h).bind fun x h1 => op h1 x
section
variable {w : Wo} {EX : XC} {X : Cx} {k : Nat} {a b : Expr} {ma mb : ME} {pos : Pos}
theorem tM_op {op : O2} {σ : Sl} {H : Hp} {Q : VK} (h : tM w EX (mOp op ma mb) σ H Q) : tOp (r2 w EX op) (tM w EX ma) (tM w EX mb) σ H Q := by
  obtain ⟨M, rho, env, hh, er, hr, o⟩ := h
  refine tM.of er hr o.bind fun x h1 M1 rho1 H1 v st1 er1 hr1 o1 rv => ?_
  refine ⟨M1, rho1, env, h1, er1, hr1, (Out.bind o1).imp fun y h2 M2 rho2 H2 st2 hr2 o2 u ru => ?_⟩
  exact ⟨M2, rho2, h2, x, y, hr2, rv.step st2 hr1, ru, o2⟩
theorem tM_un {op : O1} {σ : Sl} {H : Hp} {Q : VK} (h : tM w EX (mUn op ma) σ H Q) : tUn (r1 w EX op) (tM w EX ma) σ H Q := by
  obtain ⟨M, rho, env, hh, er, hr, o⟩ := h
  exact tM.of er hr o.bind fun x h1 M1 rho1 H1 v st1 er1 hr1 o1 rv => ⟨M1, rho1, h1, x, hr1, rv, o1⟩
theorem me_op {op : Operator} {f : O2} (ho : OpR X (binaryOp op) (r2 w EX f)) (ha : PE X a (tM w EX ma)) (hb : PE X b (tM w EX mb)) : PE X (.BinOp a op b pos) (tM w EX (mOp f ma mb)) :=
  PE.imp (pe_op ho ha hb) fun _ _ _ h => tM_op h
theorem me_un {op : UnaryOp} {f : O1} (ho : UnR X (unaryOp op) (r1 w EX f)) (ha : PE X a (tM w EX ma)) : PE X (.UnaryOp op a pos) (tM w EX (mUn f ma)) :=
  PE.imp (pe_un ho ha) fun _ _ _ h => tM_un h
theorem me_cmp {op : CmpOp} {f : O2} (ho : OpR X (compareOp op) (r2 w EX f)) (ha : PE X a (tM w EX ma)) (hb : PE X b (tM w EX mb)) (hm : behindInMarks op b = false) : PE X (.Compare a [op] [b] pos) (tM w EX (mOp f ma mb)) :=
  PE.imp (pe_cmpR ho ha hb hm) fun _ _ _ h => tM_op h
end

/-- of a bool -/
def asB (r : R PV) : R Bool := r.bind fun x h => match x with
  | .bl b => .ok b h
  | _ => .stuck
def mTB (m : ME) : MT := fun env h => asB (m env h)
section
variable {w : Wo} {EX : XC} {X : Cx} {k : Nat} {a b c : Expr} {ma mb mc : ME} {pos : Pos}
theorem tM_test {σ : Sl} {H : Hp} {Q : Bool → Hp → Prop} (h : tT w EX (mTB ma) σ H Q) : tTest (tM w EX ma) σ H Q := by
  obtain ⟨M, rho, env, hh, er, hr, o⟩ := h
  refine tM.of er hr (Out.bind o) fun x h1 M1 rho1 H1 v st1 er1 hr1 o1 rv => ?_
  cases rv with
  | bl b => exact ⟨b, rfl, o1.now hr1⟩
  | _ => exact (show False from o1).elim
theorem mt_cmp {op : CmpOp} {f : O2} (ho : OpR X (compareOp op) (r2 w EX f)) (ha : PE X a (tM w EX ma)) (hb : PE X b (tM w EX mb)) (hm : behindInMarks op b = false) : PT X (.Compare a [op] [b] pos) (tT w EX (mTB (mOp f ma mb))) := by
  refine PT.imp (pt_cmpR ho ha hb hm) fun σ H Q h => ?_
  exact tM_op (show tM w EX (mOp f ma mb) σ H _ from tM_test h)
/-- a < b < c -/
def mCh (f g : O2) (ma mb mc : ME) : ME := fun env h => (ma env h).bind fun x h1 => (mb env h1).bind fun y h2 => (f h2 x y).bind fun z h3 => match z with
  | .bl true => (mc env h3).bind fun u h4 => g h4 y u
  | .bl false => .ok (.bl false) h3
  | _ => .stuck
theorem tM_ch {f g : O2} {σ : Sl} {H : Hp} {Q : VK} (h : tM w EX (mCh f g ma mb mc) σ H Q) : tChain (r2 w EX f) (r2 w EX g) (tM w EX ma) (tM w EX mb) (tM w EX mc) σ H Q := by
  obtain ⟨M, rho, env, hh, er, hr, o⟩ := h
  refine tM.of er hr o.bind fun x h1 M1 rho1 H1 v st1 er1 hr1 o1 rv => ?_
  refine ⟨M1, rho1, env, h1, er1, hr1, (Out.bind o1).imp fun y h2 M2 rho2 H2 st2 hr2 o2 u ru => ?_⟩
  refine ⟨M2, rho2, h2, x, y, hr2, rv.step st2 hr1, ru, (Out.bind o2).imp fun z h3 M3 rho3 H3 st3 hr3 o3 t rt => ?_⟩
  have er3 := (er1.step st2 hr1).step st3 hr2
  cases rt with
  | bl b =>
    refine ⟨b, rfl, ?_⟩
    cases b with
    | false => exact o3.now hr3 _ (.bl false)
    | true =>
      refine iteT (tM.of er3 hr3 (Out.bind (show Out w EX M3 rho3 H3 ((mc env h3).bind fun u h4 => g h4 y u) _ from o3)) fun p h4 M4 rho4 H4 q st4 er4 hr4 o4 rq => ?_)
      exact ⟨M4, rho4, h4, y, p, hr4, (ru.step st3 hr2).step st4 hr3, rq, o4⟩
  | _ => exact (show False from o3).elim
end
end MC

end
section
set_option maxRecDepth 100000
set_option maxHeartbeats 4000000
namespace MC
open PySem PySem.Spec PyProof.Rows L2

def S (l : List Nat) : Str := ⟨l.toArray⟩
theorem S_len (l : List Nat) : (S l).length = l.length := by show l.toArray.size = _; simp
theorem S_app (a b : List Nat) : S a ++ S b = S (a ++ b) := by
  show (⟨a.toArray ++ b.toArray⟩ : Str) = ⟨(a ++ b).toArray⟩
  simp
theorem S_inj {a b : List Nat} (h : S a = S b) : a = b := by
  have := congrArg (fun z : Str => z.cps.toList) h
  simpa [S] using this
theorem S_list (l : List Nat) : (S l).cps.toList = l := by simp [S]
theorem S_of (z : Str) : S z.cps.toList = z := by cases z; simp [S]

def opI (C : Int → Int → Bool) (g : Int → Int → PV) : O2 := fun h x y => match x, y with
  | .int i, .int j => bif C i j then .ok (g i j) h else .stuck
  | _, _ => .stuck
def unI (g : Int → Int) : O1 := fun h x => match x with
  | .int i => .ok (.int (g i)) h
  | _ => .stuck
section
variable {w : Wo} {EX : XC} {X : Cx} {k : Nat}
theorem oI {f : Value → Value → Sem Value} {C : Int → Int → Bool} {D : Int → Int → Prop} {g : Int → Int → PV} {g' : Int → Int → V} (ho : OpR X f (rI D g')) (hC : ∀ i j, C i j = true → D i j) (hg : ∀ i j M rho H, VR w M rho H (g i j) (g' i j)) :
    OpR X f (r2 w EX (opI C g)) := by
  intro pins s σ H x y v u Q I rx ry ⟨M, rho, h, px, py, hr, vx, vy, o⟩
  cases vx <;> try exact (show False from o).elim
  cases vy <;> try exact (show False from o).elim
  rename_i i j
  cases e : C i j with
  | false =>
    have o' : Out w EX M rho H (bif C i j then .ok (g i j) h else .stuck) (KV w Q) := o
    rw [e] at o'
    exact (show False from o').elim
  | true =>
    have o' : Out w EX M rho H (bif C i j then .ok (g i j) h else .stuck) (KV w Q) := o
    rw [e] at o'
    exact ho pins s σ H _ _ v u Q I rx ry ⟨i, j, rfl, rfl, hC i j e, (show Out w EX M rho H (.ok (g i j) h) (KV w Q) from o').now hr _ (hg i j M rho H)⟩
theorem oI0 {f : Value → Value → Sem Value} {g : Int → Int → PV} {g' : Int → Int → V} (ho : OpR X f (rI0 g')) (hg : ∀ i j M rho H, VR w M rho H (g i j) (g' i j)) : OpR X f (r2 w EX (opI (fun _ _ => true) g)) :=
  oI (D := fun _ _ => True) (fun pins s σ H x y v u Q I rx ry ⟨i, j, e1, e2, _, q⟩ => ho pins s σ H x y v u Q I rx ry ⟨i, j, e1, e2, q⟩) (fun _ _ _ => trivial) hg
def opSub : O2 := opI (fun _ _ => true) fun i j => .int (i - j)
def opMod : O2 := opI (fun _ j => decide (0 < j)) fun i j => .int (i % j)
def opFdiv : O2 := opI (fun _ j => decide (0 < j) && decide (j < 1073741824)) fun i j => .int (i / j)
def opPow : O2 := opI (fun i j => decide (0 ≤ j) && decide (j ≤ 1000000) && decide (i.natAbs < 2 ^ 64)) fun i j => .int (i ^ j.toNat)
theorem o_sub : OpR X (binaryOp .Sub) (r2 w EX opSub) := oI0 op_sub fun _ _ _ _ _ => .int _
theorem o_mod : OpR X (binaryOp .Mod) (r2 w EX opMod) := oI op_mod (fun _ _ h => of_decide_eq_true h) fun _ _ _ _ _ => .int _
theorem o_fdiv : OpR X (binaryOp .FloorDiv) (r2 w EX opFdiv) := oI op_fdiv (fun _ _ h => by
  rw [Bool.and_eq_true] at h
  exact ⟨of_decide_eq_true h.1, of_decide_eq_true h.2⟩) fun _ _ _ _ _ => .int _
theorem o_pow : OpR X (binaryOp .Pow) (r2 w EX opPow) := oI op_pow (fun _ _ h => by
  rw [Bool.and_eq_true, Bool.and_eq_true] at h
  exact ⟨of_decide_eq_true h.1.1, of_decide_eq_true h.1.2, of_decide_eq_true h.2⟩) fun _ _ _ _ _ => .int _
theorem o_neg : UnR X (unaryOp .USub) (r1 w EX (unI fun i => -i)) := by
  intro pins s σ H x v Q I rx ⟨M, rho, h, px, hr, vx, o⟩
  cases vx <;> try exact (show False from o).elim
  exact un_neg pins s σ H _ v Q I rx ⟨_, rfl, (show Out w EX M rho H (.ok _ h) (KV w Q) from o).now hr _ (.int _)⟩
def cmpI (p : Int → Int → Bool) : O2 := opI (fun _ _ => true) fun i j => .bl (p i j)

def opAdd : O2 := fun h x y => match x, y with
  | .int i, .int j => .ok (.int (i + j)) h
  | .str a, .str b => bif decide (a.length + b.length ≤ LIM) then .ok (.str (a ++ b)) h else .stuck
  | .tup a, .tup b => bif decide (a.length + b.length ≤ LIM) then .ok (.tup (a ++ b)) h else .stuck
  | .ref n, .ref m => match h[n]?, h[m]? with
    | some (.lst a), some (.lst b) => bif decide (a.length + b.length ≤ LIM) then .ok (.ref h.length) (h ++ [.lst (a ++ b)]) else .stuck
    | _, _ => .stuck
  | _, _ => .stuck
theorem Out.lim {M : Addr → Prop} {rho : List Addr} {H : Hp} {α : Type} {c : Prop} [Decidable c] {r : R α} {kk : KC α} (o : Out w EX M rho H (bif decide c then r else .stuck) kk) : c ∧ Out w EX M rho H r kk := by
  by_cases h : c
  · rw [decide_eq_true h] at o; exact ⟨h, o⟩
  · rw [decide_eq_false h] at o; exact (show False from o).elim
theorem HR.lst {M : Addr → Prop} {rho : List Addr} {H : Hp} {h : PH} (hr : HR w M rho H h) {n : Nat} {a : Addr} {xs : List PV} (e : h[n]? = some (.lst xs)) (ha : rho[n]? = some a) : ∃ vs, H a = some (.lst vs) ∧ VRs w M rho H xs vs := by
  obtain ⟨b, hb, q⟩ := hr.ob n _ e
  rw [ha] at hb; cases hb
  exact q
theorem o_add (C : Cxt w k X) : OpR X (binaryOp .Add) (r2 w EX opAdd) := by
  intro pins s σ H x y v u Q I rx ry ⟨M, rho, h, px, py, hr, vx, vy, o⟩
  cases vx with
  | int i =>
    cases vy <;> try exact (show False from o).elim
    exact op_add pins s σ H _ _ v u Q I rx ry ⟨_, _, rfl, rfl, (show Out w EX M rho H (.ok _ h) (KV w Q) from o).now hr _ (.int _)⟩
  | str a =>
    cases vy <;> try exact (show False from o).elim
    obtain ⟨hl, o2⟩ := Out.lim o
    refine op_add_str pins s σ H _ _ v u Q I rx ry ⟨_, _, rfl, rfl, ?_, ?_⟩
    · show (S _).length + (S _).length ≤ _
      rw [S_len, S_len, lim_eq]; exact hl
    · show Q (.str (S _ ++ S _)) H
      rw [S_app]
      exact o2.now hr _ (.str _)
  | @tup a vs A ha sa =>
    cases vy <;> try exact (show False from o).elim
    rename_i b us B hb sb
    obtain ⟨hl, o2⟩ := Out.lim o
    refine op_catA pins s σ H _ _ v u Q I rx ry ⟨A, B, vs, us, rfl, rfl, by rw [C.hK]; exact ha, by rw [C.hK]; exact hb, by rw [sa.length, sb.length, lim_eq]; exact hl, fun e => ?_, fun _ e => ?_, fun _ _ => ?_⟩
    · subst e
      cases sa
      exact o2.now hr _ (.tup hb sb)
    · subst e
      cases sb
      rw [List.append_nil] at o2
      exact o2.now hr _ (.tup ha sa)
    · exact KV.tup hr o2 (sa.append sb)
  | @ref n A ha =>
    cases vy <;> try exact (show False from o).elim
    rename_i m B hb
    have o' : Out w EX M rho H (match h[n]?, h[m]? with
      | some (.lst a), some (.lst b) => bif decide (a.length + b.length ≤ LIM) then .ok (.ref h.length) (h ++ [.lst (a ++ b)]) else .stuck
      | _, _ => .stuck) (KV w Q) := o
    split at o'
    · rename_i xs ys e1 e2
      obtain ⟨hl, o2⟩ := Out.lim o'
      obtain ⟨vs, h1, s1⟩ := hr.lst e1 ha
      obtain ⟨us, h2, s2⟩ := hr.lst e2 hb
      exact op_cat pins s σ H _ _ v u Q I rx ry ⟨A, B, vs, us, rfl, rfl, h1, h2, by rw [s1.length, s2.length, lim_eq]; exact hl, KV.lst hr o2 (s1.append s2)⟩
    · exact (show False from o').elim
  | _ => exact (show False from o).elim
end
theorem tuple_mul1 (l : Addr) (items : Array Value) (n : Nat) (dd : Option Addr) (sl : Array (Option Value)) (u : Tok) :
    Meets (Builtin.«tuple.__mul__» ⟨[.ref l, .int 1 u], []⟩) (fun _ R s => s.heap.get? l = some { cls := .type "tuple", dict := dd, data := .seq items n, slots := sl } ∧ R (.ok (.ret (Value.ref l))) s) :=
  .of_wp fun prog w A R s h => by
    obtain ⟨hp, g, d, tk, os⟩ := s
    obtain ⟨hl, h⟩ := h
    have f1 := AutoSeq1.idx_int
    wp_walk using wpAny_loadPart' hl
    repeat (first
      | (refine wpAny_ite_true (by simp) ?_; wp_walk using wpAny_loadPart' hl)
      | (refine wpAny_ite_false (by simp) ?_; wp_walk using wpAny_loadPart' hl))
    exact ⟨_, rfl, h⟩

def opMul : O2 := fun h x y => match x, y with
  | .int i, .int j => bif (decide (-(2 ^ 64) < i) && decide (i < 2 ^ 64)) || (decide (-(2 ^ 64) < j) && decide (j < 2 ^ 64)) then .ok (.int (i * j)) h else .stuck
  | .str a, .int j => bif decide (-1000000 ≤ j) && decide (j ≤ 1000) && decide (a.length ≤ 1000) then .ok (.str (List.replicate j.toNat a).flatten) h else .stuck
  | .tup a, .int j => bif decide (1 ≤ j) && decide (j ≤ 1000) && decide (1 ≤ a.length) && decide (a.length ≤ 1000) then .ok (.tup (List.replicate j.toNat a).flatten) h else .stuck
  | .ref n, .int j => match h[n]? with
    | some (.lst a) => bif decide (-1000000 ≤ j) && decide (j ≤ 1000) && decide (a.length ≤ 1000) then .ok (.ref h.length) (h ++ [.lst (List.replicate j.toNat a).flatten]) else .stuck
    | _ => .stuck
  | _, _ => .stuck
theorem Out.bif {w : Wo} {EX : XC} {M : Addr → Prop} {rho : List Addr} {H : Hp} {α : Type} {c : Bool} {r : R α} {kk : KC α} (o : Out w EX M rho H (bif c then r else .stuck) kk) : c = true ∧ Out w EX M rho H r kk := by
  cases c with
  | true => exact ⟨rfl, o⟩
  | false => exact (show False from o).elim
theorem VRs.rep {w : Wo} {M : Addr → Prop} {rho : List Addr} {H : Hp} {xs : List PV} {vs : List V} (r : VRs w M rho H xs vs) : ∀ j : Nat, VRs w M rho H (List.replicate j xs).flatten (List.replicate j vs).flatten
  | 0 => .nil
  | j + 1 => by
    rw [List.replicate_succ, List.replicate_succ, List.flatten_cons, List.flatten_cons]
    exact r.append (VRs.rep r j)
theorem rep_one {α : Type} (l : List α) : (List.replicate 1 l).flatten = l := by simp
theorem foldl_repS (l : List Nat) : ∀ (j : Nat) (acc : List Nat), List.foldl (fun x y => x ++ y) acc.toArray (List.replicate j l.toArray) = (acc ++ (List.replicate j l).flatten).toArray
  | 0, acc => by simp
  | j + 1, acc => by
    rw [List.replicate_succ, List.foldl_cons, show acc.toArray ++ l.toArray = (acc ++ l).toArray by simp, foldl_repS l j (acc ++ l), List.replicate_succ, List.flatten_cons, List.append_assoc]
theorem S_rep (l : List Nat) (j : Int) : Txt.mul (S l) j = S (List.replicate j.toNat l).flatten := by
  unfold Txt.mul
  by_cases h1 : j < 1
  · rw [if_pos h1, show j.toNat = 0 by omega]
    rfl
  · rw [if_neg h1]
    by_cases h2 : (j == 1 || (S l).length == 0) = true
    · rw [if_pos h2]
      rw [S_len] at h2
      simp only [Bool.or_eq_true, beq_iff_eq] at h2
      rcases h2 with h2 | h2
      · subst h2
        show S l = S (List.replicate 1 l).flatten
        rw [rep_one]
      · have : l = [] := List.eq_nil_of_length_eq_zero h2
        subst this
        simp [S]
    · rw [if_neg h2]
      have e := foldl_repS l j.toNat []
      show (⟨List.foldl (fun x y => x ++ y) #[] (List.replicate j.toNat l.toArray)⟩ : Str) = ⟨(List.replicate j.toNat l).flatten.toArray⟩
      rw [e]
      simp
theorem o_mul {w : Wo} {EX : XC} {X : Cx} {k : Nat} (C : Cxt w k X) : OpR X (binaryOp .Mult) (r2 w EX opMul) := by
  intro pins s σ H x y v u Q I rx ry ⟨M, rho, h, px, py, hr, vx, vy, o⟩
  cases vx with
  | int i =>
    cases vy <;> try exact (show False from o).elim
    rename_i j
    obtain ⟨hc, o2⟩ := Out.bif o
    refine op_mul pins s σ H _ _ v u Q I rx ry ⟨i, j, rfl, rfl, ?_, o2.now hr _ (.int _)⟩
    simp only [Bool.or_eq_true, Bool.and_eq_true, decide_eq_true_eq] at hc
    exact hc
  | str a =>
    cases vy <;> try exact (show False from o).elim
    rename_i j
    obtain ⟨hc, o2⟩ := Out.bif o
    simp only [Bool.and_eq_true, decide_eq_true_eq] at hc
    obtain ⟨t, rfl⟩ := rx
    obtain ⟨t', rfl⟩ := ry
    refine SB.mul (mulOk_of 1000 1000 (by show (S a).length ≤ _; rw [S_len]; exact hc.2) (by omega) (by omega) (by decide) (by decide)) fun t2 k2 => ?_
    refine ⟨.str _, H, I.tok _, ⟨t2, rfl⟩, ?_⟩
    show Q (.str (Txt.mul (S a) j)) H
    rw [S_rep]
    exact o2.now hr _ (.str _)
  | @tup a vs A ha sa =>
    cases vy <;> try exact (show False from o).elim
    rename_i j
    obtain ⟨hc, o2⟩ := Out.bif o
    simp only [Bool.and_eq_true, decide_eq_true_eq] at hc
    obtain ⟨⟨⟨h1, h2⟩, h3⟩, h4⟩ := hc
    have hl := sa.length
    by_cases e : j = 1
    · subst e
      have o3 : Out w EX M rho H (.ok (.tup (List.replicate 1 a).flatten) h) (KV w Q) := o2
      rw [rep_one] at o3
      have q := o3.now hr _ (.tup ha sa)
      cases rx
      obtain ⟨t, rfl⟩ := ry
      obtain ⟨its, r, ⟨⟨cls, dd, data, sl⟩, ho, hcl, n, hd⟩, hs⟩ := I.tuple (show SqT X.K H A vs by rw [C.hK]; exact ha)
      simp only at hcl hd
      subst hcl hd
      exact wpAny_binaryOp_repeat_ref (T := "tuple") (U := "int") (by decide) ⟨_, ho, rfl⟩ (fun s' => typeIs_int s' 1 t) noFill_tuple_mul F.fills_int_mul F.slot_int_rmul repeat_tuple F.slot_int_index.lookup
        (call_meets F.slot_int_rmul (typeIs_int s 1 t) F.entry_int_rmul (F.args_int_rmul_2 _ _) (int_rmul_tuple 1 t A its.toArray n dd sl)
          ⟨ho, rfl, ⟨_, ho, rfl⟩, call_meets F.slot_tuple_mul ⟨_, ho, rfl⟩ F.entry_tuple_mul (F.args_tuple_mul_2 _ _) (tuple_mul1 A its.toArray n dd sl t) ⟨ho, ⟨.ref A, H, I, rfl, q⟩⟩⟩)
    · refine op_repT pins s σ H _ _ v u Q I rx ry ⟨A, j, vs, rfl, rfl, by rw [C.hK]; exact ha, fun z => ?_, by omega, by omega, by omega, KV.tup hr o2 (sa.rep _)⟩
      rw [z] at hl
      simp at hl
      omega
  | @ref n A ha =>
    cases vy <;> try exact (show False from o).elim
    rename_i j
    have o' : Out w EX M rho H (match h[n]? with
      | some (.lst a) => bif decide (-1000000 ≤ j) && decide (j ≤ 1000) && decide (a.length ≤ 1000) then .ok (.ref h.length) (h ++ [.lst (List.replicate j.toNat a).flatten]) else .stuck
      | _ => .stuck) (KV w Q) := o
    split at o'
    · rename_i xs e1
      obtain ⟨hc, o2⟩ := Out.bif o'
      simp only [Bool.and_eq_true, decide_eq_true_eq] at hc
      obtain ⟨⟨h1, h2⟩, h3⟩ := hc
      obtain ⟨vs, h4, s1⟩ := hr.lst e1 ha
      refine op_rep pins s σ H _ _ v u Q I rx ry ⟨A, j, vs, rfl, rfl, h4, by omega, by omega, ?_, KV.lst hr o2 (s1.rep _)⟩
      rw [s1.length, lim_eq]
      have : xs.length * j.toNat ≤ 1000 * 1000 := Nat.mul_le_mul h3 (by omega)
      show _ ≤ 16777216
      omega
    · exact (show False from o').elim
  | _ => exact (show False from o).elim

def mapO {α β : Type} (f : α → Option β) : List α → Option (List β)
  | [] => some []
  | x :: xs => match f x with
    | none => none
    | some y => match mapO f xs with
      | none => none
      | some ys => some (y :: ys)
/-- a value as data -/
def toD (h : PH) : Nat → PV → Option PyData
  | 0, _ => none
  | n + 1, x => match x with
    | .non => some .none
    | .bl b => some (.bool b)
    | .int i => some (.int i)
    | .str s => some (.str (S s))
    | .tup xs => (mapO (toD h n) xs).map .tuple
    | .scr xs => (mapO (toD h n) xs).map .list
    | .ref m => match h[m]? with
      | some (.lst xs) => (mapO (toD h n) xs).map .list
      | _ => none
    | _ => none
def DEP : Nat := 20
section
variable {w : Wo} {EX : XC} {X : Cx} {k : Nat} {M : Addr → Prop} {rho : List Addr} {H : Hp} {h : PH}
theorem mapO_dp (hr : HR w M rho H h) {f : PV → Option PyData} (hf : ∀ x d v, f x = some d → VR w M rho H x v → Dp w.K H v d) : ∀ {xs : List PV} {vs : List V} {ds : List PyData}, mapO f xs = some ds → VRs w M rho H xs vs → DpAll w.K H vs ds
  | [], _, _, e, r => by
    cases r
    cases e
    exact .nil
  | x :: xs, _, ds, e, r => by
    cases r with
    | cons r1 r2 =>
      unfold mapO at e
      cases e1 : f x with
      | none => rw [e1] at e; cases e
      | some d =>
        rw [e1] at e
        cases e2 : mapO f xs with
        | none => simp only [e2] at e; cases e
        | some ds' =>
          simp only [e2] at e
          cases e
          exact .cons (hf x d _ e1 r1) (mapO_dp hr hf e2 r2)
theorem toD_dp (hr : HR w M rho H h) : ∀ (n : Nat) (x : PV) (d : PyData) (v : V), toD h n x = some d → VR w M rho H x v → Dp w.K H v d := by
  intro n
  induction n with
  | zero => intro x d v e; cases e
  | succ n ih =>
    intro x d v e r
    cases r with
    | non => cases e; exact .non
    | bl b => cases e; exact .bl b
    | int i => cases e; exact .int i
    | str s => cases e; exact .str _
    | @tup xs vs A ha sa =>
      have e' : (mapO (toD h n) xs).map PyData.tuple = some d := e
      cases e2 : mapO (toD h n) xs with
      | none => rw [e2] at e'; cases e'
      | some ds => rw [e2] at e'; cases e'; exact .tup ha (mapO_dp hr ih e2 sa)
    | @scr xs vs A ha sa =>
      have e' : (mapO (toD h n) xs).map PyData.list = some d := e
      cases e2 : mapO (toD h n) xs with
      | none => rw [e2] at e'; cases e'
      | some ds => rw [e2] at e'; cases e'; exact .lst ha.sq (mapO_dp hr ih e2 sa)
    | @ref m A ha =>
      have e' : (match h[m]? with
        | some (.lst xs) => (mapO (toD h n) xs).map PyData.list
        | _ => none) = some d := e
      split at e'
      · rename_i xs e1
        obtain ⟨vs, h4, s1⟩ := hr.lst e1 ha
        cases e2 : mapO (toD h n) xs with
        | none => rw [e2] at e'; cases e'
        | some ds => rw [e2] at e'; cases e'; exact .lst (SqL.of h4) (mapO_dp hr ih e2 s1)
      · cases e'
    | _ => cases e
/-- two values as data -/
def by2 (f : PyData → PyData → Bool) : O2 := fun h x y => match toD h DEP x, toD h DEP y with
  | some d, some e => bif SeqAt.shaped d && SeqAt.shaped e then .ok (.bl (f d e)) h else .stuck
  | _, _ => .stuck
def opEq : O2 := by2 fun d e => PyData.eqv d e
def opNe : O2 := by2 fun d e => !PyData.eqv d e
theorem by2_out {f : PyData → PyData → Bool} {x y : PV} {kk : KC PV} (o : Out w EX M rho H (by2 f h x y) kk) : ∃ d e, toD h DEP x = some d ∧ toD h DEP y = some e ∧ SeqAt.shaped d = true ∧ SeqAt.shaped e = true ∧ Out w EX M rho H (.ok (.bl (f d e)) h) kk := by
  unfold by2 at o
  split at o
  · rename_i d e e1 e2
    obtain ⟨hc, o2⟩ := Out.bif o
    rw [Bool.and_eq_true] at hc
    exact ⟨d, e, e1, e2, hc.1, hc.2, o2⟩
  · exact (show False from o).elim
theorem Cxt.units (C : Cxt w k X) : X.A.units + 190 < cLine := by have := C.room.un; omega
theorem o_eq (C : Cxt w k X) : OpR X (compareOp .Eq) (r2 w EX opEq) := by
  intro pins s σ H x y v u Q I rx ry ⟨M, rho, h, px, py, hr, vx, vy, o⟩
  obtain ⟨d, e, e1, e2, s1, s2, o2⟩ := by2_out o
  have hu := C.units
  exact op_eqD (by omega) pins s σ H _ _ v u Q I rx ry ⟨d, e, by rw [C.hK]; exact toD_dp hr _ _ _ _ e1 vx, by rw [C.hK]; exact toD_dp hr _ _ _ _ e2 vy, s1, s2, o2.now hr _ (.bl _)⟩
theorem o_ne (C : Cxt w k X) : OpR X (compareOp .NotEq) (r2 w EX opNe) := by
  intro pins s σ H x y v u Q I rx ry ⟨M, rho, h, px, py, hr, vx, vy, o⟩
  obtain ⟨d, e, e1, e2, s1, s2, o2⟩ := by2_out o
  have hu := C.units
  exact op_neD (by omega) pins s σ H _ _ v u Q I rx ry ⟨d, e, by rw [C.hK]; exact toD_dp hr _ _ _ _ e1 vx, by rw [C.hK]; exact toD_dp hr _ _ _ _ e2 vy, s1, s2, o2.now hr _ (.bl _)⟩
end
end MC

end
section
set_option maxRecDepth 100000
set_option maxHeartbeats 4000000
namespace MC
open PySem PySem.Spec PyProof.Rows L2

def truth (h : PH) : PV → Option Bool
  | .non => some false
  | .bl b => some b
  | .int i => some (i != 0)
  | .str s => bif decide (s.length ≤ LIM) then some (!s.isEmpty) else none
  | .tup xs => some (!xs.isEmpty)
  | .scr xs => some (!xs.isEmpty)
  | .ref n => match h[n]? with
    | some (.lst xs) => some (!xs.isEmpty)
    | some (.dic false kvs) => some (!kvs.isEmpty)
    | _ => none
  | _ => none
def mTru (m : ME) : MT := fun env h => (m env h).bind fun x h1 => match truth h1 x with
  | some b => .ok b h1
  | none => .stuck
def mAnd (a b : MT) : MT := fun env h => (a env h).bind fun c h1 => bif c then b env h1 else .ok false h1
def mOr (a b : MT) : MT := fun env h => (a env h).bind fun c h1 => bif c then .ok true h1 else b env h1
def mNot (a : MT) : MT := fun env h => (a env h).bind fun c h1 => .ok (!c) h1
def mIf (t : MT) (a b : ME) : ME := fun env h => (t env h).bind fun c h1 => bif c then a env h1 else b env h1
def mAndV (a b : ME) : ME := fun env h => (a env h).bind fun x h1 => match x with
  | .bl c => bif c then b env h1 else .ok (.bl false) h1
  | _ => .stuck
def mOrV (a b : ME) : ME := fun env h => (a env h).bind fun x h1 => match x with
  | .bl c => bif c then .ok (.bl true) h1 else b env h1
  | _ => .stuck
def mNotV (a : ME) : ME := fun env h => (a env h).bind fun x h1 => match x with
  | .bl c => .ok (.bl (!c)) h1
  | _ => .stuck
theorem empty_len {α β : Type} {xs : List α} {ys : List β} (h : ys.length = xs.length) : (!ys.isEmpty) = !xs.isEmpty := by
  cases xs <;> cases ys <;> first | rfl | (simp at h)
section
variable {w : Wo} {EX : XC} {X : Cx} {k : Nat} {M : Addr → Prop} {rho : List Addr} {H : Hp} {h : PH} {a b c : Expr} {ma mb : ME} {ta tb : MT} {pos : Pos} {rest : List Expr}
theorem KRs.length : ∀ {kvs : List (PV × PV)} {ks : List (Key × V)}, KRs w M rho H kvs ks → ks.length = kvs.length
  | _, _, .nil => rfl
  | _, _, .cons _ _ b => by rw [List.length_cons, List.length_cons, KRs.length b]
theorem truth_ok (hr : HR w M rho H h) {x : PV} {v : V} {b : Bool} (r : VR w M rho H x v) (e : truth h x = some b) : TruV w.K v H b := by
  cases r with
  | non => cases e; exact rfl
  | bl b => cases e; exact rfl
  | int i => cases e; exact rfl
  | str s =>
    have e' : (bif decide (s.length ≤ LIM) then some (!s.isEmpty) else none) = some b := e
    by_cases hl : s.length ≤ LIM
    · rw [decide_eq_true hl] at e'
      cases e'
      refine ⟨by show (S s).length ≤ _; rw [S_len, lim_eq]; exact hl, ?_⟩
      show _ = (((S s).length : Int) != 0)
      rw [S_len]
      cases s with
      | nil => rfl
      | cons z zs =>
        show true = _
        symm
        rw [bne_iff_ne]
        simp only [List.length_cons]
        omega
    · rw [decide_eq_false hl] at e'
      cases e'
  | tup q s => cases e; exact .inr (.inl ⟨_, q, (empty_len s.length).symm⟩)
  | scr q s => cases e; exact .inl ⟨_, q.sq, (empty_len s.length).symm⟩
  | @ref n A ha =>
    have e' : (match h[n]? with
      | some (.lst xs) => some (!xs.isEmpty)
      | some (.dic false kvs) => some (!kvs.isEmpty)
      | _ => none) = some b := e
    split at e'
    · rename_i xs e1
      cases e'
      obtain ⟨vs, h1, s1⟩ := hr.lst e1 ha
      exact .inl ⟨vs, SqL.of h1, (empty_len s1.length).symm⟩
    · rename_i kvs e1
      cases e'
      obtain ⟨b, hb, ks, h1, s1⟩ := hr.ob n _ e1
      rw [ha] at hb; cases hb
      exact .inr (.inr ⟨ks, h1, (empty_len s1.length).symm⟩)
    · cases e'
  | _ => cases e
theorem mt_tru (C : Cxt w k X) (ha : PE X a (tM w EX ma)) (he : ∀ whole, isTrue a X.env whole = (do let v ← whole; standAt a.pos; holding [v] (truthy v)) := by intro _; rfl) : PT X a (tT w EX (mTru ma)) := by
  refine PT.imp (pt_truth ha he) fun σ H Q hh => ?_
  obtain ⟨M, rho, env, h, er, hr, o⟩ := hh
  refine tM.of er hr (Out.bind o) fun x h1 M1 rho1 H1 v st1 er1 hr1 o1 rv => ?_
  cases e : truth h1 x with
  | none => rw [e] at o1; exact (show False from o1).elim
  | some b =>
    rw [e] at o1
    exact ⟨b, by rw [C.hK]; exact truth_ok hr1 rv e, o1.now hr1⟩
theorem mw_one {op : BoolOp} (ha : PT X a (tT w EX ta)) : PW X (.BoolOp op [a] pos) (tT w EX ta) := by
  cases op with
  | And => exact pw_and1 ha
  | Or => exact pw_or1 ha
theorem mw_and (ha : PT X a (tT w EX ta)) (hb : PW X (.BoolOp .And (b :: rest) pos) (tT w EX tb)) : PW X (.BoolOp .And (a :: b :: rest) pos) (tT w EX (mAnd ta tb)) := by
  refine PW.imp (pw_and ha hb) fun σ H Q hh => ?_
  obtain ⟨M, rho, env, h, er, hr, o⟩ := hh
  refine tT.of er hr (Out.bind o) fun x h1 M1 rho1 H1 st1 er1 hr1 o1 => ?_
  cases x with
  | true => exact iteT ⟨M1, rho1, env, h1, er1, hr1, o1⟩
  | false => exact iteF (o1.now hr1)
theorem mw_or (ha : PT X a (tT w EX ta)) (hb : PW X (.BoolOp .Or (b :: rest) pos) (tT w EX tb)) : PW X (.BoolOp .Or (a :: b :: rest) pos) (tT w EX (mOr ta tb)) := by
  refine PW.imp (pw_or ha hb) fun σ H Q hh => ?_
  obtain ⟨M, rho, env, h, er, hr, o⟩ := hh
  refine tT.of er hr (Out.bind o) fun x h1 M1 rho1 H1 st1 er1 hr1 o1 => ?_
  cases x with
  | true => exact iteT (o1.now hr1)
  | false => exact iteF ⟨M1, rho1, env, h1, er1, hr1, o1⟩
theorem mt_not (ha : PT X a (tT w EX ta)) : PT X (.UnaryOp .Not a pos) (tT w EX (mNot ta)) := by
  refine PT.imp (pt_not ha) fun σ H Q hh => ?_
  obtain ⟨M, rho, env, h, er, hr, o⟩ := hh
  exact tT.of er hr (Out.bind o) fun x h1 M1 rho1 H1 st1 er1 hr1 o1 => o1.now hr1
theorem me_if (hc : PT X c (tT w EX ta)) (ha : PE X a (tM w EX ma)) (hb : PE X b (tM w EX mb)) : PE X (.IfExp c a b pos) (tM w EX (mIf ta ma mb)) := by
  refine PE.imp (pe_ifExp hc ha hb) fun σ H Q hh => ?_
  obtain ⟨M, rho, env, h, er, hr, o⟩ := hh
  refine tT.of er hr (Out.bind o) fun x h1 M1 rho1 H1 st1 er1 hr1 o1 => ?_
  cases x with
  | true => exact iteT ⟨M1, rho1, env, h1, er1, hr1, o1⟩
  | false => exact iteF ⟨M1, rho1, env, h1, er1, hr1, o1⟩
theorem me_one {op : BoolOp} (ha : PE X a (tM w EX ma)) : PE X (.BoolOp op [a] pos) (tM w EX ma) := pe_one ha
theorem me_and (ha : PE X a (tM w EX ma)) (hb : PE X (.BoolOp .And (b :: rest) pos) (tM w EX mb)) : PE X (.BoolOp .And (a :: b :: rest) pos) (tM w EX (mAndV ma mb)) := by
  refine PE.imp (pe_and ha hb) fun σ H Q hh => ?_
  obtain ⟨M, rho, env, h, er, hr, o⟩ := hh
  refine tM.of er hr (Out.bind o) fun x h1 M1 rho1 H1 v st1 er1 hr1 o1 rv => ?_
  cases rv <;> try exact (show False from o1).elim
  rename_i c
  refine ⟨c, rfl, ?_⟩
  cases c with
  | true => exact iteT ⟨M1, rho1, env, h1, er1, hr1, o1⟩
  | false => exact iteF ((show Out w EX M1 rho1 H1 (.ok (.bl false) h1) (KV w Q) from o1).now hr1 _ (.bl _))
theorem me_or (ha : PE X a (tM w EX ma)) (hb : PE X (.BoolOp .Or (b :: rest) pos) (tM w EX mb)) : PE X (.BoolOp .Or (a :: b :: rest) pos) (tM w EX (mOrV ma mb)) := by
  refine PE.imp (pe_or ha hb) fun σ H Q hh => ?_
  obtain ⟨M, rho, env, h, er, hr, o⟩ := hh
  refine tM.of er hr (Out.bind o) fun x h1 M1 rho1 H1 v st1 er1 hr1 o1 rv => ?_
  cases rv <;> try exact (show False from o1).elim
  rename_i c
  refine ⟨c, rfl, ?_⟩
  cases c with
  | true => exact iteT ((show Out w EX M1 rho1 H1 (.ok (.bl true) h1) (KV w Q) from o1).now hr1 _ (.bl _))
  | false => exact iteF ⟨M1, rho1, env, h1, er1, hr1, o1⟩
theorem me_not (ha : PE X a (tM w EX ma)) : PE X (.UnaryOp .Not a pos) (tM w EX (mNotV ma)) := by
  refine PE.imp (pe_not ha) fun σ H Q hh => ?_
  obtain ⟨M, rho, env, h, er, hr, o⟩ := hh
  refine tM.of er hr (Out.bind o) fun x h1 M1 rho1 H1 v st1 er1 hr1 o1 rv => ?_
  cases rv <;> try exact (show False from o1).elim
  rename_i c
  exact ⟨c, rfl, (show Out w EX M1 rho1 H1 (.ok (.bl (!c)) h1) (KV w Q) from o1).now hr1 _ (.bl _)⟩
/-- a chain as a test -/
theorem mt_ch {op op' : CmpOp} {f g : O2} {mc : ME} (ho : OpR X (compareOp op) (r2 w EX f)) (ho' : OpR X (compareOp op') (r2 w EX g)) (ha : PE X a (tM w EX ma)) (hb : PE X b (tM w EX mb)) (hc : PE X c (tM w EX mc))
    (hm : lastMarks [op, op'] [b, c] = false := by with_unfolding_all rfl) : PT X (.Compare a [op, op'] [b, c] pos) (tT w EX (mTB (mCh f g ma mb mc))) := by
  refine PT.imp (pt_chain ho ho' ha hb hc hm) fun σ H Q h => ?_
  exact tM_ch (show tM w EX (mCh f g ma mb mc) σ H _ from tM_test h)
theorem me_ch {op op' : CmpOp} {f g : O2} {mc : ME} (ho : OpR X (compareOp op) (r2 w EX f)) (ho' : OpR X (compareOp op') (r2 w EX g)) (ha : PE X a (tM w EX ma)) (hb : PE X b (tM w EX mb)) (hc : PE X c (tM w EX mc))
    (hm : lastMarks [op, op'] [b, c] = false := by with_unfolding_all rfl) : PE X (.Compare a [op, op'] [b, c] pos) (tM w EX (mCh f g ma mb mc)) := PE.imp (pe_chain ho ho' ha hb hc hm) fun σ H Q h => tM_ch h
end
end MC

end
section
set_option maxRecDepth 100000
set_option maxHeartbeats 4000000
namespace MC
open PySem PySem.Spec PyProof.Rows L2

def ltN : List Nat → List Nat → Bool
  | [], [] => false
  | [], _ :: _ => true
  | _ :: _, [] => false
  | x :: xs, y :: ys => bif x == y then ltN xs ys else decide (x < y)
theorem ltN_iff : ∀ a b : List Nat, decide (a < b) = ltN a b
  | [], [] => by decide
  | [], y :: ys => by simp [ltN]
  | x :: xs, [] => by simp [ltN]
  | x :: xs, y :: ys => by
    have ih := ltN_iff xs ys
    unfold ltN
    by_cases e : x = y
    · subst e
      rw [beq_self_eq_true, cond_true, ← ih]
      simp
    · have e2 : (x == y) = false := beq_eq_false_iff_ne.mpr e
      rw [e2, cond_false]
      simp [List.cons_lt_cons_iff, e]
def opOrd (p : Int → Int → Bool) (q : List Nat → List Nat → Bool) : O2 := fun h x y => match x, y with
  | .int i, .int j => .ok (.bl (p i j)) h
  | .str a, .str b => .ok (.bl (q a b)) h
  | _, _ => .stuck
def opLt : O2 := opOrd (fun i j => decide (i < j)) fun a b => ltN a b
def opLe : O2 := opOrd (fun i j => decide (i ≤ j)) fun a b => !ltN b a
def opGt : O2 := opOrd (fun i j => decide (j < i)) fun a b => ltN b a
def opGe : O2 := opOrd (fun i j => decide (j ≤ i)) fun a b => !ltN a b
def isNon : PV → Bool
  | .non => true
  | _ => false
def opIs (neg : Bool) : O2 := fun h x y => match y with
  | .non => .ok (.bl (bif neg then !isNon x else isNon x)) h
  | .bl b => match x with
    | .bl a => .ok (.bl (bif neg then !(a == b) else a == b)) h
    | _ => .stuck
  | _ => .stuck
section
variable {w : Wo} {EX : XC} {X : Cx} {k : Nat} {M : Addr → Prop} {rho : List Addr} {H : Hp} {h : PH}
theorem o_ord {f : Value → Value → Sem Value} {p : Int → Int → Bool} {q : List Nat → List Nat → Bool} (hi : OpR X f (rI0 fun i j => .bl (p i j)))
    (hs : OpR X f (fun x y H Q => ∃ i j, x = .str i ∧ y = .str j ∧ Q (.bl (q i.cps.toList j.cps.toList)) H)) : OpR X f (r2 w EX (opOrd p q)) := by
  intro pins s σ H x y v u Q I rx ry ⟨M, rho, h, px, py, hr, vx, vy, o⟩
  cases vx <;> try exact (show False from o).elim
  · cases vy <;> try exact (show False from o).elim
    rename_i i j
    exact hi pins s σ H _ _ v u Q I rx ry ⟨i, j, rfl, rfl, (show Out w EX M rho H (.ok (.bl (p i j)) h) (KV w Q) from o).now hr _ (.bl _)⟩
  · cases vy <;> try exact (show False from o).elim
    rename_i a b
    refine hs pins s σ H _ _ v u Q I rx ry ⟨_, _, rfl, rfl, ?_⟩
    have e1 : (⟨a.toArray⟩ : Str).cps.toList = a := by simp
    have e2 : (⟨b.toArray⟩ : Str).cps.toList = b := by simp
    rw [e1, e2]
    exact (show Out w EX M rho H (.ok (.bl (q a b)) h) (KV w Q) from o).now hr _ (.bl _)
theorem o_lt : OpR X (compareOp .Lt) (r2 w EX opLt) := o_ord op_lt fun pins s σ H x y v u Q I rx ry ⟨i, j, e1, e2, q⟩ => op_lt_str pins s σ H x y v u Q I rx ry ⟨i, j, e1, e2, by rw [ltN_iff]; exact q⟩
theorem o_le : OpR X (compareOp .LtE) (r2 w EX opLe) := o_ord op_le fun pins s σ H x y v u Q I rx ry ⟨i, j, e1, e2, q⟩ => op_le_str pins s σ H x y v u Q I rx ry ⟨i, j, e1, e2, by rw [ltN_iff]; exact q⟩
theorem o_gt : OpR X (compareOp .Gt) (r2 w EX opGt) := o_ord op_gt fun pins s σ H x y v u Q I rx ry ⟨i, j, e1, e2, q⟩ => op_gt_str pins s σ H x y v u Q I rx ry ⟨i, j, e1, e2, by rw [ltN_iff]; exact q⟩
theorem o_ge : OpR X (compareOp .GtE) (r2 w EX opGe) := o_ord op_ge fun pins s σ H x y v u Q I rx ry ⟨i, j, e1, e2, q⟩ => op_ge_str pins s σ H x y v u Q I rx ry ⟨i, j, e1, e2, by rw [ltN_iff]; exact q⟩
theorem VR.non_iff (hg : ∀ i v, w.gv i = some v → v ≠ .non) {x : PV} {v : V} (r : VR w M rho H x v) : decide (v = .non) = isNon x := by
  cases r <;> first | rfl | skip
  rename_i i e
  have := hg i v e
  simp [this, isNon]
theorem o_is (hg : ∀ i v, w.gv i = some v → v ≠ .non) : OpR X (compareOp .Is) (r2 w EX (opIs false)) := by
  intro pins s σ H x y v u Q I rx ry ⟨M, rho, h, px, py, hr, vx, vy, o⟩
  cases vy <;> try exact (show False from o).elim
  · have q := (show Out w EX M rho H (.ok (.bl (isNon px)) h) (KV w Q) from o).now hr _ (.bl _)
    exact op_isN pins s σ H _ _ v u Q I rx ry ⟨rfl, by rw [VR.non_iff hg vx]; exact q⟩
  · cases vx <;> try exact (show False from o).elim
    rename_i b a
    exact op_isBl pins s σ H _ _ v u Q I rx ry ⟨a, b, rfl, rfl, by rw [← Bool.beq_eq_decide_eq]; exact (show Out w EX M rho H (.ok (.bl (a == b)) h) (KV w Q) from o).now hr _ (.bl _)⟩
theorem o_isnot (hg : ∀ i v, w.gv i = some v → v ≠ .non) : OpR X (compareOp .IsNot) (r2 w EX (opIs true)) := by
  intro pins s σ H x y v u Q I rx ry ⟨M, rho, h, px, py, hr, vx, vy, o⟩
  cases vy <;> try exact (show False from o).elim
  · have q := (show Out w EX M rho H (.ok (.bl (!isNon px)) h) (KV w Q) from o).now hr _ (.bl _)
    exact op_notN pins s σ H _ _ v u Q I rx ry ⟨rfl, by rw [VR.non_iff hg vx]; exact q⟩
  · cases vx <;> try exact (show False from o).elim
    rename_i b a
    exact op_notBl pins s σ H _ _ v u Q I rx ry ⟨a, b, rfl, rfl, by rw [← Bool.beq_eq_decide_eq]; exact (show Out w EX M rho H (.ok (.bl (!(a == b))) h) (KV w Q) from o).now hr _ (.bl _)⟩
end

/-- the items of a list or tuple -/
def items (h : PH) : PV → Option (List PV)
  | .tup xs => some xs
  | .scr xs => some xs
  | .ref n => match h[n]? with
    | some (.lst xs) => some xs
    | _ => none
  | _ => none
/-- a key is that key -/
def keyQ : PV → PV → Bool
  | .int i, .int j => i == j
  | .str a, .str b => a == b
  | _, _ => false
def lookP (x : PV) : List (PV × PV) → Option PV
  | [] => none
  | (k, v) :: r => bif keyQ k x then some v else lookP x r
def isKey : PV → Bool
  | .int _ => true
  | .str _ => true
  | _ => false
def negB (neg : Bool) (b : Bool) : Bool := bif neg then !b else b
def inItems (neg : Bool) (h : PH) (x : PV) (ys : List PV) : R PV := match toD h DEP x, mapO (toD h DEP) ys with
  | some d, some ds => bif SeqAt.shaped d && PyData.canLayAll0 ds then .ok (.bl (negB neg (ds.any fun z => PyData.eqv z d))) h else .stuck
  | _, _ => .stuck
def opIn (neg : Bool) : O2 := fun h x y => match y with
  | .str t => match x with
    | .str [c] => .ok (.bl (negB neg (decide (c ∈ t)))) h
    | _ => .stuck
  | .rdic kvs => bif isKey x then .ok (.bl (negB neg (lookP x kvs).isSome)) h else .stuck
  | .ref n => match h[n]? with
    | some (.dic _ kvs) => bif isKey x then .ok (.bl (negB neg (lookP x kvs).isSome)) h else .stuck
    | some (.lst ys) => inItems neg h x ys
    | _ => .stuck
  | .tup ys => inItems neg h x ys
  | .scr ys => inItems neg h x ys
  | _ => .stuck
section
variable {w : Wo} {EX : XC} {X : Cx} {k : Nat} {M : Addr → Prop} {rho : List Addr} {H : Hp} {h : PH}
theorem keyQ_iff {k x : PV} {j : Key} {v : V} (hk : keyP k = some j) (hx : isKey x = true) (rx : VR w M rho H x v) : ∃ i, keyP x = some i ∧ v = kV i ∧ (keyQ k x = decide (j = i)) := by
  cases rx <;> try (exact (Bool.false_ne_true hx).elim)
  · rename_i i
    refine ⟨.inl i, rfl, rfl, ?_⟩
    cases k <;> try (cases hk)
    · exact (key_ll _ _).symm
    · exact (key_rl _ _).symm
  · rename_i b
    refine ⟨.inr ⟨b.toArray⟩, rfl, rfl, ?_⟩
    cases k <;> try (cases hk)
    · exact (key_lr _ _).symm
    · rename_i a
      rw [key_rr]
      show (a == b) = _
      by_cases e : a = b
      · subst e; simp
      · rw [beq_eq_false_iff_ne.mpr e, decide_eq_false]
        intro z
        exact e (S_inj z)
theorem lookP_ok {x : PV} {v : V} (hx : isKey x = true) (rx : VR w M rho H x v) : ∃ i, keyP x = some i ∧ v = kV i ∧ ∀ {kvs : List (PV × PV)} {ks : List (Key × V)}, KRs w M rho H kvs ks →
    (lookP x kvs = none ∧ valV ks i = none) ∨ ∃ y u, lookP x kvs = some y ∧ valV ks i = some u ∧ VR w M rho H y u := by
  obtain ⟨i, h1, h2, _⟩ := keyQ_iff (k := .int 0) (j := .inl 0) rfl hx rx
  refine ⟨i, h1, h2, fun {kvs ks} r => ?_⟩
  induction kvs generalizing ks with
  | nil => cases r; exact .inl ⟨rfl, rfl⟩
  | cons p kvs ih =>
    cases r with
    | @cons k y j u _ gs hk hv ht =>
      obtain ⟨i', h1', _, q⟩ := keyQ_iff hk hx rx
      rw [h1] at h1'
      cases h1'
      unfold lookP
      by_cases e : j = i
      · rw [q, decide_eq_true e, cond_true]
        exact .inr ⟨y, u, rfl, valV_pos e, hv⟩
      · rw [q, decide_eq_false e, cond_false, valV_neg (by exact e)]
        exact ih ht
theorem inItems_out {neg : Bool} {x : PV} {ys : List PV} {kk : KC PV} (o : Out w EX M rho H (inItems neg h x ys) kk) :
    ∃ d ds, toD h DEP x = some d ∧ mapO (toD h DEP) ys = some ds ∧ SeqAt.shaped d = true ∧ PyData.canLayAll0 ds = true ∧ Out w EX M rho H (.ok (.bl (negB neg (ds.any fun z => PyData.eqv z d))) h) kk := by
  unfold inItems at o
  split at o
  · rename_i d ds e1 e2
    obtain ⟨hc, o2⟩ := Out.bif o
    rw [Bool.and_eq_true] at hc
    exact ⟨d, ds, e1, e2, hc.1, hc.2, o2⟩
  · exact (show False from o).elim
theorem o_in (C : Cxt w k X) : OpR X (compareOp .In) (r2 w EX (opIn false)) := by
  intro pins s σ H x y v u Q I rx ry ⟨M, rho, h, px, py, hr, vx, vy, o⟩
  have hu := C.units
  have seqL : ∀ {ys : List PV} {us : List V} {A : Addr}, u = .ref A → SqL w.K H A us → VRs w M rho H ys us → Out w EX M rho H (inItems false h px ys) (KV w Q) → wpAny (model X.prog X.w) X.A (compareOp .In v u) (EP X pins σ Q) X.xe s := by
    intro ys us A eu hs rs o
    obtain ⟨d, ds, e1, e2, s1, s2, o2⟩ := inItems_out o
    have D1 : Dp X.K H x d := by rw [C.hK]; exact toD_dp hr _ _ _ _ e1 vx
    have D2 : Dp X.K H (.ref A) (.list ds) := by rw [C.hK]; exact .lst hs (mapO_dp hr (toD_dp hr _) e2 rs)
    obtain ⟨as, r1⟩ := Dp.reads I d _ _ D1 rx
    obtain ⟨bs, r2⟩ := Dp.reads I (.list ds) _ u D2 eu
    have h64 := SeqAt.depth_of_shaped s1
    exact SeqAt.in_list_reads r2 r1 s2 (SeqAt.canLay_of_shaped s1) (by omega) ⟨.bl _, H, I, rfl, o2.now hr _ (.bl _)⟩
  cases vy <;> try exact (show False from o).elim
  · rename_i t
    obtain ⟨c, rfl, o2⟩ : ∃ c, px = .str [c] ∧ Out w EX M rho H (.ok (.bl (decide (c ∈ t))) h) (KV w Q) := by
      have o' : Out w EX M rho H (match px with
        | .str [c] => .ok (.bl (negB false (decide (c ∈ t)))) h
        | _ => .stuck) (KV w Q) := o
      split at o'
      · exact ⟨_, rfl, o'⟩
      · exact (show False from o').elim
    cases vx
    refine op_in_sign pins s σ H _ _ v u Q I rx ry ⟨c, _, rfl, rfl, ?_⟩
    rw [show (⟨t.toArray⟩ : Str).cps.toList = t by simp]
    exact o2.now hr _ (.bl _)
  · rename_i ys us A ha sa
    obtain ⟨d, ds, e1, e2, s1, s2, o2⟩ := inItems_out o
    have D1 : Dp X.K H x d := by rw [C.hK]; exact toD_dp hr _ _ _ _ e1 vx
    have D2 : Dp X.K H (.ref A) (.tuple ds) := by rw [C.hK]; exact .tup ha (mapO_dp hr (toD_dp hr _) e2 sa)
    obtain ⟨as, r1⟩ := Dp.reads I d _ _ D1 rx
    obtain ⟨bs, r2⟩ := Dp.reads I (.tuple ds) _ u D2 ry
    have h64 := SeqAt.depth_of_shaped s1
    exact SeqAt.in_tuple_reads r2 r1 s2 (SeqAt.canLay_of_shaped s1) (by omega) ⟨.bl _, H, I, rfl, o2.now hr _ (.bl _)⟩
  · rename_i ys us A ha sa
    exact seqL ry ha.sq sa o
  · rename_i kvs ks A ob ha hn sa
    obtain ⟨hx, o2⟩ := Out.bif o
    obtain ⟨i, e1, e2, e3⟩ := lookP_ok hx vx
    subst e2
    cases ry
    refine d_in (o := valV ks i) (by omega) I (.inl ⟨ks, i, .inr ⟨ob, ha⟩, rfl, rfl⟩) rx fun s3 I3 => ⟨.bl _, H, I3, rfl, ?_⟩
    rcases e3 sa with ⟨z1, z2⟩ | ⟨y', u', z1, z2, _⟩
    · rw [z1] at o2; rw [z2]; exact o2.now hr _ (.bl _)
    · rw [z1] at o2; rw [z2]; exact o2.now hr _ (.bl _)
  · rename_i n A ha
    have o' : Out w EX M rho H (match h[n]? with
      | some (.dic _ kvs) => bif isKey px then .ok (.bl (negB false (lookP px kvs).isSome)) h else .stuck
      | some (.lst ys) => inItems false h px ys
      | _ => .stuck) (KV w Q) := o
    split at o'
    · rename_i lk kvs e0
      obtain ⟨hx, o2⟩ := Out.bif o'
      obtain ⟨b, hb, ks, h1, sa⟩ := hr.ob n _ e0
      rw [ha] at hb; cases hb
      obtain ⟨i, e1, e2, e3⟩ := lookP_ok hx vx
      subst e2
      cases ry
      have rd : Rd H A (.dK ks) := by
        cases lk with
        | false => exact .inl h1
        | true => exact .inr h1
      refine d_in (o := valV ks i) (by omega) I (.inl ⟨ks, i, rd, rfl, rfl⟩) rx fun s3 I3 => ⟨.bl _, H, I3, rfl, ?_⟩
      rcases e3 sa with ⟨z1, z2⟩ | ⟨y', u', z1, z2, _⟩
      · rw [z1] at o2; rw [z2]; exact o2.now hr _ (.bl _)
      · rw [z1] at o2; rw [z2]; exact o2.now hr _ (.bl _)
    · rename_i ys e0
      obtain ⟨us, h1, sa⟩ := hr.lst e0 ha
      exact seqL ry (SqL.of h1) sa o'
    · exact (show False from o').elim
theorem o_notin (C : Cxt w k X) : OpR X (compareOp .NotIn) (r2 w EX (opIn true)) := by
  intro pins s σ H x y v u Q I rx ry ⟨M, rho, h, px, py, hr, vx, vy, o⟩
  have hu := C.units
  have seqL : ∀ {ys : List PV} {us : List V} {A : Addr}, u = .ref A → SqL w.K H A us → VRs w M rho H ys us → Out w EX M rho H (inItems true h px ys) (KV w Q) → wpAny (model X.prog X.w) X.A (compareOp .NotIn v u) (EP X pins σ Q) X.xe s := by
    intro ys us A eu hs rs o
    obtain ⟨d, ds, e1, e2, s1, s2, o2⟩ := inItems_out o
    have D1 : Dp X.K H x d := by rw [C.hK]; exact toD_dp hr _ _ _ _ e1 vx
    have D2 : Dp X.K H (.ref A) (.list ds) := by rw [C.hK]; exact .lst hs (mapO_dp hr (toD_dp hr _) e2 rs)
    obtain ⟨as, r1⟩ := Dp.reads I d _ _ D1 rx
    obtain ⟨bs, r2⟩ := Dp.reads I (.list ds) _ u D2 eu
    have h64 := SeqAt.depth_of_shaped s1
    exact SeqAt.notIn_list_reads r2 r1 s2 (SeqAt.canLay_of_shaped s1) (by omega) ⟨.bl _, H, I, rfl, o2.now hr _ (.bl _)⟩
  cases vy <;> try exact (show False from o).elim
  · rename_i t
    obtain ⟨c, rfl, o2⟩ : ∃ c, px = .str [c] ∧ Out w EX M rho H (.ok (.bl (!decide (c ∈ t))) h) (KV w Q) := by
      have o' : Out w EX M rho H (match px with
        | .str [c] => .ok (.bl (negB true (decide (c ∈ t)))) h
        | _ => .stuck) (KV w Q) := o
      split at o'
      · exact ⟨_, rfl, o'⟩
      · exact (show False from o').elim
    cases vx
    refine op_notIn_sign pins s σ H _ _ v u Q I rx ry ⟨c, _, rfl, rfl, ?_⟩
    rw [show (⟨t.toArray⟩ : Str).cps.toList = t by simp]
    exact o2.now hr _ (.bl _)
  · rename_i ys us A ha sa
    obtain ⟨d, ds, e1, e2, s1, s2, o2⟩ := inItems_out o
    have D1 : Dp X.K H x d := by rw [C.hK]; exact toD_dp hr _ _ _ _ e1 vx
    have D2 : Dp X.K H (.ref A) (.tuple ds) := by rw [C.hK]; exact .tup ha (mapO_dp hr (toD_dp hr _) e2 sa)
    obtain ⟨as, r1⟩ := Dp.reads I d _ _ D1 rx
    obtain ⟨bs, r2⟩ := Dp.reads I (.tuple ds) _ u D2 ry
    have h64 := SeqAt.depth_of_shaped s1
    exact SeqAt.notIn_tuple_reads r2 r1 s2 (SeqAt.canLay_of_shaped s1) (by omega) ⟨.bl _, H, I, rfl, o2.now hr _ (.bl _)⟩
  · rename_i ys us A ha sa
    exact seqL ry ha.sq sa o
  · rename_i kvs ks A ob ha hn sa
    obtain ⟨hx, o2⟩ := Out.bif o
    obtain ⟨i, e1, e2, e3⟩ := lookP_ok hx vx
    subst e2
    cases ry
    refine d_notIn (o := valV ks i) (by omega) I (.inl ⟨ks, i, .inr ⟨ob, ha⟩, rfl, rfl⟩) rx fun s3 I3 => ⟨.bl _, H, I3, rfl, ?_⟩
    rcases e3 sa with ⟨z1, z2⟩ | ⟨y', u', z1, z2, _⟩
    · rw [z1] at o2; rw [z2]; exact o2.now hr _ (.bl _)
    · rw [z1] at o2; rw [z2]; exact o2.now hr _ (.bl _)
  · rename_i n A ha
    have o' : Out w EX M rho H (match h[n]? with
      | some (.dic _ kvs) => bif isKey px then .ok (.bl (negB true (lookP px kvs).isSome)) h else .stuck
      | some (.lst ys) => inItems true h px ys
      | _ => .stuck) (KV w Q) := o
    split at o'
    · rename_i lk kvs e0
      obtain ⟨hx, o2⟩ := Out.bif o'
      obtain ⟨b, hb, ks, h1, sa⟩ := hr.ob n _ e0
      rw [ha] at hb; cases hb
      obtain ⟨i, e1, e2, e3⟩ := lookP_ok hx vx
      subst e2
      cases ry
      have rd : Rd H A (.dK ks) := by
        cases lk with
        | false => exact .inl h1
        | true => exact .inr h1
      refine d_notIn (o := valV ks i) (by omega) I (.inl ⟨ks, i, rd, rfl, rfl⟩) rx fun s3 I3 => ⟨.bl _, H, I3, rfl, ?_⟩
      rcases e3 sa with ⟨z1, z2⟩ | ⟨y', u', z1, z2, _⟩
      · rw [z1] at o2; rw [z2]; exact o2.now hr _ (.bl _)
      · rw [z1] at o2; rw [z2]; exact o2.now hr _ (.bl _)
    · rename_i ys e0
      obtain ⟨us, h1, sa⟩ := hr.lst e0 ha
      exact seqL ry (SqL.of h1) sa o'
    · exact (show False from o').elim
end
end MC

end
section
set_option maxRecDepth 100000
set_option maxHeartbeats 4000000
namespace MC
open PySem PySem.Spec PyProof.Rows L2

def ixL (h : PH) (xs : List PV) (y : PV) : R PV := match y with
  | .int i => match atI xs i with
    | some v => .ok v h
    | none => .stuck
  | _ => .stuck
def ixD (h : PH) (kvs : List (PV × PV)) (y : PV) : R PV := bif isKey y then (match lookP y kvs with
  | some v => .ok v h
  | none => .stuck) else .stuck
def ixS (h : PH) (s : List Nat) (y : PV) : R PV := match y with
  | .int i => match atI s i with
    | some c => bif decide (s.length ≤ LIM) then .ok (.str [c]) h else .stuck
    | none => .stuck
  | _ => .stuck
def opIx : O2 := fun h x y => match x with
  | .str s => ixS h s y
  | .rdic kvs => ixD h kvs y
  | .ref n => match h[n]? with
    | some (.dic _ kvs) => ixD h kvs y
    | some (.lst xs) => ixL h xs y
    | _ => .stuck
  | .tup xs => ixL h xs y
  | .scr xs => ixL h xs y
  | _ => .stuck
section
variable {w : Wo} {EX : XC} {X : Cx} {k : Nat} {M : Addr → Prop} {rho : List Addr} {H : Hp} {h : PH}
theorem VRs.atI {xs : List PV} {vs : List V} {i : Int} {x : PV} (r : VRs w M rho H xs vs) (e : L2.atI xs i = some x) : ∃ v, L2.atI vs i = some v ∧ VR w M rho H x v := by
  unfold L2.atI at e ⊢
  rw [r.length]
  cases q : ixN xs.length i with
  | none => rw [q] at e; cases e
  | some j =>
    rw [q] at e
    exact r.get e
theorem ixL_out {xs : List PV} {py : PV} {kk : KC PV} (o : Out w EX M rho H (ixL h xs py) kk) : ∃ i z, py = .int i ∧ L2.atI xs i = some z ∧ Out w EX M rho H (.ok z h) kk := by
  unfold ixL at o
  split at o
  · split at o
    · rename_i e
      exact ⟨_, _, rfl, e, o⟩
    · exact (show False from o).elim
  · exact (show False from o).elim
theorem o_ix (C : Cxt w k X) : IxR X (r2 w EX opIx) := by
  intro value slice pins s σ H x y v u Q I rx ry ⟨M, rho, h, px, py, hr, vx, vy, o⟩ hs
  have hu := C.units
  have dic : ∀ {A : Addr} {ks : List (Key × V)} {kvs : List (PV × PV)}, v = .ref A → Rd H A (.dK ks) → KRs w M rho H kvs ks → Out w EX M rho H (ixD h kvs py) (KV w Q) → wpAny (model X.prog X.w) X.A (subscriptTail value slice v u) (EP X pins σ Q) X.xe s := by
    intro A ks kvs ev rd sa o
    obtain ⟨hx, o2⟩ := Out.bif o
    obtain ⟨i, e1, e2, e3⟩ := lookP_ok hx vy
    subst ev e2
    rcases e3 sa with ⟨z1, z2⟩ | ⟨y', u', z1, z2, r'⟩
    · rw [z1] at o2; exact (show False from o2).elim
    · rw [z1] at o2
      have g : DGet H A (kV i) (some u') := .inl ⟨ks, i, rd, rfl, z2.symm⟩
      exact tail_any (T := "dict") (dict_typeIs I g) PySem.F.slot_dict_getitem.lookup (d_getItem (by omega) I g ry fun w' s3 I3 rw' => ⟨u', H, I3, rw', (show Out w EX M rho H (.ok y' h) (KV w Q) from o2).now hr _ r'⟩) hs
  have lst : ∀ {A : Addr} {us : List V} {xs : List PV}, x = .ref A → SqL w.K H A us → VRs w M rho H xs us → Out w EX M rho H (ixL h xs py) (KV w Q) → wpAny (model X.prog X.w) X.A (subscriptTail value slice v u) (EP X pins σ Q) X.xe s := by
    intro A us xs ex hq sa o
    obtain ⟨i, z, rfl, e, o⟩ := ixL_out o
    cases vy
    obtain ⟨z', e', r'⟩ := sa.atI e
    exact ix_list value slice pins s σ H _ _ v u Q I rx ry ⟨A, us, i, z', ex, rfl, by rw [C.hK]; exact hq, e', o.now hr _ r'⟩ hs
  cases vx <;> try exact (show False from o).elim
  · rename_i t
    have o' : Out w EX M rho H (ixS h t py) (KV w Q) := o
    unfold ixS at o'
    split at o'
    · split at o'
      · rename_i e
        cases vy
        obtain ⟨hl, o2⟩ := Out.lim o'
        refine ix_str value slice pins s σ H _ _ v u Q I rx ry ⟨_, _, _, rfl, rfl, ?_, ?_, o2.now hr (.str ⟨#[_]⟩) (.str [_])⟩ hs
        · show (S t).length ≤ _
          rw [S_len, lim_eq]; exact hl
        · show L2.atI (S t).cps.toList _ = some _
          rw [S_list]; exact e
      · exact (show False from o').elim
    · exact (show False from o').elim
  · rename_i xs us A ha sa
    obtain ⟨i, z, rfl, e, o2⟩ := ixL_out o
    cases vy
    obtain ⟨z', e', r'⟩ := sa.atI e
    exact ix_tup value slice pins s σ H _ _ v u Q I rx ry ⟨A, us, i, z', rfl, rfl, by rw [C.hK]; exact ha, e', o2.now hr _ r'⟩ hs
  · rename_i xs us A ha sa
    exact lst rfl ha.sq sa o
  · rename_i kvs ks A ob ha hn sa
    exact dic (by cases rx; rfl) (.inr ⟨ob, ha⟩) sa o
  · rename_i n A ha
    have o' : Out w EX M rho H (match h[n]? with
      | some (.dic _ kvs) => ixD h kvs py
      | some (.lst xs) => ixL h xs py
      | _ => .stuck) (KV w Q) := o
    split at o'
    · rename_i lk kvs e0
      obtain ⟨b, hb, ks, h1, sa⟩ := hr.ob n _ e0
      rw [ha] at hb; cases hb
      exact dic (by cases rx; rfl) (by
        cases lk with
        | false => exact .inl h1
        | true => exact .inr h1) sa o'
    · rename_i xs e0
      obtain ⟨us, h1, sa⟩ := hr.lst e0 ha
      exact lst rfl (SqL.of h1) sa o'
    · exact (show False from o').elim
theorem me_ix (C : Cxt w k X) {a b : Expr} {ma mb : ME} {pos : Pos} (ha : PE X a (tM w EX ma)) (hb : PE X b (tM w EX mb)) (hs : PlainIx b := by exact fun _ _ => rfl) : PE X (.Subscript a b pos) (tM w EX (mOp opIx ma mb)) :=
  PE.imp (pe_ix (o_ix C) ha hb hs) fun _ _ _ h => tM_op h
end

def cutG {α : Type} (xs : List α) (lo hi : Option Int) : List α := (xs.drop (HT.sIx xs.length 0 lo)).take (HT.sIx xs.length xs.length hi - HT.sIx xs.length 0 lo)
abbrev MO := List (Option PV) → PH → R (Option Int)
def tO (w : Wo) (EX : XC) (m : MO) : TO := fun σ H Q => ∃ M rho env h, ER w M rho H env σ ∧ HR w M rho H h ∧ Out w EX M rho H (m env h) (fun i _ _ _ H' => Q i H')
def moNone : MO := fun _ h => .ok none h
def moSome (m : ME) : MO := fun env h => (m env h).bind fun x h1 => match x with
  | .int i => .ok (some i) h1
  | _ => .stuck
def opSl (h : PH) (x : PV) (lo hi : Option Int) : R PV := match x with
  | .str s => bif decide (s.length ≤ LIM) then .ok (.str (cutG s lo hi)) h else .stuck
  | .tup xs => .ok (.tup (cutG xs lo hi)) h
  | .scr xs => .ok (.ref h.length) (h ++ [.lst (cutG xs lo hi)])
  | .ref n => match h[n]? with
    | some (.lst xs) => .ok (.ref h.length) (h ++ [.lst (cutG xs lo hi)])
    | _ => .stuck
  | _ => .stuck
def mSl (m : ME) (l u : MO) : ME := fun env h => (m env h).bind fun x h1 => (l env h1).bind fun lo h2 => (u env h2).bind fun hi h3 => opSl h3 x lo hi
section
variable {w : Wo} {EX : XC} {X : Cx} {k : Nat} {M : Addr → Prop} {rho : List Addr} {H : Hp} {h : PH}
theorem PO_imp {X : Cx} {e : Option Expr} {t t2 : TO} (p : L2.PO X e t) (i : ∀ σ H Q, t2 σ H Q → t σ H Q) : L2.PO X e t2 := ⟨fun pins s σ H Q I h => p.run pins s σ H Q I (i σ H Q h)⟩
theorem mo_none : L2.PO X none (tO w EX moNone) := by
  refine PO_imp po_none fun σ H Q hh => ?_
  obtain ⟨M, rho, env, h, er, hr, o⟩ := hh
  exact o.now hr
theorem mo_some {e : Expr} {m : ME} (ha : PE X e (tM w EX m)) : L2.PO X (some e) (tO w EX (moSome m)) := by
  refine PO_imp (po_some ha) fun σ H Q hh => ?_
  obtain ⟨M, rho, env, h, er, hr, o⟩ := hh
  refine tM.of er hr (Out.bind o) fun x h1 M1 rho1 H1 v st1 er1 hr1 o1 rv => ?_
  cases rv <;> try exact (show False from o1).elim
  rename_i i
  exact ⟨i, rfl, (show Out w EX M1 rho1 H1 (.ok (some i) h1) _ from o1).now hr1⟩
theorem VRs.cut {xs : List PV} {vs : List V} (r : VRs w M rho H xs vs) (lo hi : Option Int) : VRs w M rho H (cutG xs lo hi) (cutV vs lo hi) := by
  unfold cutG cutV
  rw [r.length]
  exact (r.drop _).take _
theorem cut_all {α : Type} (xs : List α) {lo hi : Option Int} (e : HT.sIx xs.length 0 lo = 0 ∧ HT.sIx xs.length xs.length hi = xs.length) : cutG xs lo hi = xs := by
  unfold cutG
  rw [e.1, e.2]
  simp
theorem o_sl (C : Cxt w k X) : SlR X (fun x lo hi H Q => ∃ M rho h px, HR w M rho H h ∧ VR w M rho H px x ∧ Out w EX M rho H (opSl h px lo hi) (KV w Q)) := by
  intro pins s σ H x v vl vu lo hi sl Q I rx hs pl pu ⟨M, rho, h, px, hr, vx, o⟩
  cases vx <;> try exact (show False from o).elim
  · rename_i t
    obtain ⟨hl, o2⟩ := Out.lim o
    refine sl_str pins s σ H _ v vl vu lo hi sl Q I rx hs pl pu ⟨_, rfl, ?_, ?_⟩
    · show (S t).length ≤ _
      rw [S_len, lim_eq]; exact hl
    · have e : cutS (⟨t.toArray⟩ : Str) lo hi = S (cutG t lo hi) := by
        unfold cutS cutG S
        simp [Str.length]
      rw [e]
      exact o2.now hr _ (.str _)
  · rename_i xs us A ha sa
    refine sl_tupA pins s σ H _ v vl vu lo hi sl Q I rx hs pl pu ⟨A, us, rfl, by rw [C.hK]; exact ha, fun e => ?_, fun _ => ?_⟩
    · have o2 : Out w EX M rho H (.ok (.tup (cutG xs lo hi)) h) (KV w Q) := o
      rw [sa.length] at e
      rw [cut_all xs e] at o2
      exact o2.now hr _ (.tup ha sa)
    · exact KV.tup hr o (sa.cut lo hi)
  · rename_i xs us A ha sa
    exact sl_list pins s σ H _ v vl vu lo hi sl Q I rx hs pl pu ⟨A, us, rfl, by rw [C.hK]; exact ha.sq, KV.lst hr o (sa.cut lo hi)⟩
  · rename_i n A ha
    have o' : Out w EX M rho H (match h[n]? with
      | some (.lst xs) => .ok (.ref h.length) (h ++ [.lst (cutG xs lo hi)])
      | _ => .stuck) (KV w Q) := o
    split at o'
    · rename_i xs e0
      obtain ⟨us, h1, sa⟩ := hr.lst e0 ha
      exact sl_list pins s σ H _ v vl vu lo hi sl Q I rx hs pl pu ⟨A, us, rfl, by rw [C.hK]; exact SqL.of h1, KV.lst hr o' (sa.cut lo hi)⟩
    · exact (show False from o').elim
theorem me_sl (C : Cxt w k X) {e : Expr} {lo hi : Option Expr} {m : ME} {l u : MO} {p2 pos : Pos} (ha : PE X e (tM w EX m)) (hl : L2.PO X lo (tO w EX l)) (hu : L2.PO X hi (tO w EX u)) : PE X (.Subscript e (.Slice lo hi none p2) pos) (tM w EX (mSl m l u)) := by
  refine PE.imp (pe_slice (o_sl (EX := EX) C) ha hl hu) fun σ H Q hh => ?_
  obtain ⟨M, rho, env, h, er, hr, o⟩ := hh
  refine tM.of er hr (Out.bind o) fun x h1 M1 rho1 H1 v st1 er1 hr1 o1 rv => ?_
  refine ⟨M1, rho1, env, h1, er1, hr1, (Out.bind o1).imp fun lo h2 M2 rho2 H2 st2 hr2 o2 => ?_⟩
  refine ⟨M2, rho2, env, h2, er1.step st2 hr1, hr2, (Out.bind o2).imp fun hi h3 M3 rho3 H3 st3 hr3 o3 => ?_⟩
  exact ⟨M3, rho3, h3, x, hr3, (rv.step st2 hr1).step st3 hr2, o3⟩
end

def lookF (f : Nm) : List (Nm × PV) → Option PV
  | [] => none
  | (k, v) :: r => bif k == f then some v else lookF f r
/-- the class and the attributes of an instance -/
def fldsOf (h : PH) : PV → Option (Nat × List (Nm × PV))
  | .ins c fs => some (c, fs)
  | .ref n => match h[n]? with
    | some (.ins c fs) => some (c, fs)
    | _ => none
  | _ => none
/-- o.f; cs: the classes of which the rule knows that field -/
def mFld (cs : List Nat) (f : Nm) (m : ME) : ME := fun env h => (m env h).bind fun x h1 => match fldsOf h1 x with
  | some (c, fs) => bif cs.contains c then (match lookF f fs with
    | some v => .ok v h1
    | none => .stuck) else .stuck
  | none => .stuck
/-- what the text says of a field of some classes -/
def Fld (w : Wo) (cs : List Nat) (f : Nm) : Prop := ∀ c C, c ∈ cs → w.cl c = some C → Cls w.K C ∧ NoAttr w.K C (nmS f)
section
variable {w : Wo} {EX : XC} {X : Cx} {k : Nat} {M : Addr → Prop} {rho : List Addr} {H : Hp} {h : PH}
theorem nmS_inj {a b : Nm} (e : nmS a = nmS b) : a = b := S_inj e
theorem FRs.look {f : Nm} : ∀ {fs : List (Nm × PV)} {gs : List (Str × V)} {x : PV}, FRs w M rho H fs gs → lookF f fs = some x → ∃ v, gs.lookup (nmS f) = some v ∧ VR w M rho H x v
  | _, _, _, .nil, e => nomatch e
  | _, _, x, .cons (k := kk) r s, e => by
    unfold lookF at e
    by_cases q : kk = f
    · subst q
      rw [beq_self_eq_true, cond_true] at e
      cases e
      exact ⟨_, by rw [List.lookup_cons, beq_self_eq_true], r⟩
    · rw [beq_eq_false_iff_ne.mpr q, cond_false] at e
      obtain ⟨v, h1, h2⟩ := FRs.look s e
      refine ⟨v, ?_, h2⟩
      rw [List.lookup_cons, beq_eq_false_iff_ne.mpr (fun z => q (nmS_inj z).symm)]
      exact h1
theorem flds_ok (hr : HR w M rho H h) {x : PV} {v : V} {c : Nat} {fs : List (Nm × PV)} (r : VR w M rho H x v) (e : fldsOf h x = some (c, fs)) : ∃ a C dx gs, v = .ref a ∧ w.cl c = some C ∧ H a = some (.ins C dx gs) ∧ FRs w M rho H fs gs := by
  cases r with
  | ins h1 h2 h3 h4 =>
    cases e
    exact ⟨_, _, _, _, rfl, h1, h2, h4⟩
  | @ref n a ha =>
    have e' : (match h[n]? with
      | some (.ins c fs) => some (c, fs)
      | _ => none) = some (c, fs) := e
    split at e'
    · rename_i c' fs' e0
      cases e'
      obtain ⟨b, hb, C, dx, gs, h1, h2, h3⟩ := hr.ob n _ e0
      rw [ha] at hb; cases hb
      exact ⟨a, C, dx, gs, rfl, h1, h2, h3⟩
    · cases e'
  | _ => cases e
theorem me_fld {cs : List Nat} {e : Expr} {z : Str} {m : ME} {pos : Pos} (C : Cxt w k X) (f : Nm) (hf : z = nmS f) (hA : Fld w cs f) (he : PE X e (tM w EX m)) (hb : attributeBase e z X.env (eval e X.env) = eval e X.env := by rfl) :
    PE X (.Attribute e z pos) (tM w EX (mFld cs f m)) := by
  subst hf
  refine PE.imp (pe_fld he hb) fun σ H Q hh => ?_
  obtain ⟨M, rho, env, h, er, hr, o⟩ := hh
  refine tM.of er hr (Out.bind o) fun x h1 M1 rho1 H1 v st1 er1 hr1 o1 rv => ?_
  split at o1
  · rename_i c fs e0
    obtain ⟨hc, o2⟩ := Out.bif o1
    split at o2
    · rename_i y e1
      obtain ⟨a, C', dx, gs, ev, h1, h2, h3⟩ := flds_ok hr1 rv e0
      obtain ⟨u, h4, h5⟩ := h3.look e1
      obtain ⟨g1, g2⟩ := hA c C' (List.contains_iff_mem.mp hc) h1
      exact ⟨a, C', dx, gs, u, ev, h2, by rw [C.hK]; exact g1, by rw [C.hK]; exact g2, h4, o2.now hr1 _ h5⟩
    · exact (show False from o2).elim
  · exact (show False from o1).elim
end
end MC

end
section
set_option maxRecDepth 100000
set_option maxHeartbeats 4000000
namespace MC
open PySem PySem.Spec PyProof.Rows L2

mutual
def noRef : PV → Bool
  | .ref _ => false
  | .tup xs => noRefs xs
  | .scr xs => noRefs xs
  | .rdic kvs => noRefK kvs
  | .ins _ fs => noRefF fs
  | .non => true
  | .bl _ => true
  | .int _ => true
  | .str _ => true
  | .gl _ => true
def noRefs : List PV → Bool
  | [] => true
  | x :: xs => noRef x && noRefs xs
def noRefK : List (PV × PV) → Bool
  | [] => true
  | (k, x) :: xs => noRef k && (noRef x && noRefK xs)
def noRefF : List (Nm × PV) → Bool
  | [] => true
  | (_, x) :: xs => noRef x && noRefF xs
end
mutual
def renV (f : Nat → Option Nat) : PV → Option PV
  | .ref n => match f n with
    | some m => some (.ref m)
    | none => none
  | .tup xs => match renVs f xs with
    | some ys => some (.tup ys)
    | none => none
  | .scr xs => match renVs f xs with
    | some ys => some (.scr ys)
    | none => none
  | .rdic kvs => match renK f kvs with
    | some ys => some (.rdic ys)
    | none => none
  | .ins c fs => match renF f fs with
    | some ys => some (.ins c ys)
    | none => none
  | .non => some .non
  | .bl b => some (.bl b)
  | .int i => some (.int i)
  | .str s => some (.str s)
  | .gl i => some (.gl i)
def renVs (f : Nat → Option Nat) : List PV → Option (List PV)
  | [] => some []
  | x :: xs => match renV f x, renVs f xs with
    | some y, some ys => some (y :: ys)
    | _, _ => none
def renK (f : Nat → Option Nat) : List (PV × PV) → Option (List (PV × PV))
  | [] => some []
  | (k, x) :: xs => match renV f x, renK f xs with
    | some y, some ys => some ((k, y) :: ys)
    | _, _ => none
def renF (f : Nat → Option Nat) : List (Nm × PV) → Option (List (Nm × PV))
  | [] => some []
  | (k, x) :: xs => match renV f x, renF f xs with
    | some y, some ys => some ((k, y) :: ys)
    | _, _ => none
end
def renO (f : Nat → Option Nat) : PO → Option PO
  | .lst xs => match renVs f xs with
    | some ys => some (.lst ys)
    | none => none
  | .ins c fs => match renF f fs with
    | some gs => some (.ins c gs)
    | none => none
  | .dic lk kvs => match renK f kvs with
    | some ls => some (.dic lk ls)
    | none => none
mutual
def refsV : PV → List Nat
  | .ref n => [n]
  | .tup xs => refsVs xs
  | .scr xs => refsVs xs
  | .rdic kvs => refsK kvs
  | .ins _ fs => refsF fs
  | .non => []
  | .bl _ => []
  | .int _ => []
  | .str _ => []
  | .gl _ => []
def refsVs : List PV → List Nat
  | [] => []
  | x :: xs => refsV x ++ refsVs xs
def refsK : List (PV × PV) → List Nat
  | [] => []
  | (_, x) :: xs => refsV x ++ refsK xs
def refsF : List (Nm × PV) → List Nat
  | [] => []
  | (_, x) :: xs => refsV x ++ refsF xs
end
def refsO : PO → List Nat
  | .lst xs => refsVs xs
  | .ins _ fs => refsF fs
  | .dic _ kvs => refsK kvs
/-- the objects that are reached, each once -/
def reach (h : PH) : Nat → List Nat → List Nat → Option (List Nat)
  | _, [], seen => some seen
  | 0, _ :: _, _ => none
  | f + 1, n :: todo, seen => bif seen.contains n then reach h f todo seen else match h[n]? with
    | some o => reach h f (refsO o ++ todo) (seen ++ [n])
    | none => none
def idx (l : List Nat) (n : Nat) : Option Nat := match l with
  | [] => none
  | m :: r => bif m == n then some 0 else match idx r n with
    | some i => some (i + 1)
    | none => none

section
variable {w : Wo} {M M1 : Addr → Prop} {rho rho1 : List Addr} {H H1 : Hp} {h : PH}
/-- what stands for ever -/
def fixO : HO → Bool
  | .tup _ => true
  | .frz _ _ => true
  | .ins _ _ _ => true
  | _ => false
structure Tr (w : Wo) (M : Addr → Prop) (rho : List Addr) (H : Hp) (M1 : Addr → Prop) (rho1 : List Addr) (H1 : Hp) (f : Nat → Option Nat) : Prop where
  hp : ∀ b o, fixO o = true → H b = some o → H1 b = some o
  mo : ∀ b, M1 b → M b
  rf : ∀ (n m : Nat) a, f n = some m → rho[n]? = some a → rho1[m]? = some a
theorem Tr.sqT {f : Nat → Option Nat} (t : Tr w M rho H M1 rho1 H1 f) {K : PySem.W.Frag} {a : Addr} {vs : List V} (q : SqT K H a vs) : SqT K H1 a vs := by
  rcases q with (q | ⟨o, q⟩) | q
  · exact .inl (.inl (t.hp _ _ rfl q))
  · exact .inl (.inr ⟨o, t.hp _ _ rfl q⟩)
  · exact .inr q
theorem Tr.scr {f : Nat → Option Nat} (t : Tr w M rho H M1 rho1 H1 f) {a : Addr} {vs : List V} (q : ScrL w M H a vs) : ScrL w M1 H1 a vs := by
  rcases q with q | ⟨o, q, n⟩
  · exact .inl q
  · exact .inr ⟨o, t.hp _ _ rfl q, fun z => n (t.mo _ z)⟩
mutual
theorem VR.tr {f : Nat → Option Nat} (t : Tr w M rho H M1 rho1 H1 f) : ∀ {x y : PV} {v : V}, VR w M rho H x v → renV f x = some y → VR w M1 rho1 H1 y v
  | _, _, _, .non, e => by cases e; exact .non
  | _, _, _, .bl b, e => by cases e; exact .bl b
  | _, _, _, .int i, e => by cases e; exact .int i
  | _, _, _, .str s, e => by cases e; exact .str s
  | _, _, _, .tup (xs := xs) q s, e => by
    unfold renV at e
    cases e1 : renVs f xs with
    | none => rw [e1] at e; cases e
    | some ys => rw [e1] at e; cases e; exact .tup (t.sqT q) (VRs.tr t s e1)
  | _, _, _, .scr (xs := xs) q s, e => by
    unfold renV at e
    cases e1 : renVs f xs with
    | none => rw [e1] at e; cases e
    | some ys => rw [e1] at e; cases e; exact .scr (t.scr q) (VRs.tr t s e1)
  | _, _, _, .rdic (kvs := kvs) q n s, e => by
    unfold renV at e
    cases e1 : renK f kvs with
    | none => rw [e1] at e; cases e
    | some ys => rw [e1] at e; cases e; exact .rdic (t.hp _ _ rfl q) (fun z => n (t.mo _ z)) (KRs.tr t s e1)
  | _, _, _, .ins (fs := fs) c q n s, e => by
    unfold renV at e
    cases e1 : renF f fs with
    | none => rw [e1] at e; cases e
    | some ys => rw [e1] at e; cases e; exact .ins c (t.hp _ _ rfl q) (fun z => n (t.mo _ z)) (FRs.tr t s e1)
  | _, _, _, .ref (n := n) q, e => by
    unfold renV at e
    cases e1 : f n with
    | none => rw [e1] at e; cases e
    | some m => rw [e1] at e; cases e; exact .ref (t.rf n m _ e1 q)
  | _, _, _, .gl q, e => by cases e; exact .gl q
theorem VRs.tr {f : Nat → Option Nat} (t : Tr w M rho H M1 rho1 H1 f) : ∀ {xs ys : List PV} {vs : List V}, VRs w M rho H xs vs → renVs f xs = some ys → VRs w M1 rho1 H1 ys vs
  | _, _, _, .nil, e => by cases e; exact .nil
  | _, _, _, .cons (x := x) (xs := xs) a b, e => by
    unfold renVs at e
    cases e1 : renV f x with
    | none => rw [e1] at e; cases e
    | some y =>
      cases e2 : renVs f xs with
      | none => rw [e1, e2] at e; cases e
      | some ys => rw [e1, e2] at e; cases e; exact .cons (VR.tr t a e1) (VRs.tr t b e2)
theorem FRs.tr {f : Nat → Option Nat} (t : Tr w M rho H M1 rho1 H1 f) : ∀ {xs ys : List (Nm × PV)} {vs : List (Str × V)}, FRs w M rho H xs vs → renF f xs = some ys → FRs w M1 rho1 H1 ys vs
  | _, _, _, .nil, e => by cases e; exact .nil
  | _, _, _, .cons (x := x) (fs := xs) a b, e => by
    unfold renF at e
    cases e1 : renV f x with
    | none => rw [e1] at e; cases e
    | some y =>
      cases e2 : renF f xs with
      | none => rw [e1, e2] at e; cases e
      | some ys => rw [e1, e2] at e; cases e; exact .cons (VR.tr t a e1) (FRs.tr t b e2)
theorem KRs.tr {f : Nat → Option Nat} (t : Tr w M rho H M1 rho1 H1 f) : ∀ {xs ys : List (PV × PV)} {vs : List (Key × V)}, KRs w M rho H xs vs → renK f xs = some ys → KRs w M1 rho1 H1 ys vs
  | _, _, _, .nil, e => by cases e; exact .nil
  | _, _, _, .cons (x := x) (fs := xs) q a b, e => by
    unfold renK at e
    cases e1 : renV f x with
    | none => rw [e1] at e; cases e
    | some y =>
      cases e2 : renK f xs with
      | none => rw [e1, e2] at e; cases e
      | some ys => rw [e1, e2] at e; cases e; exact .cons q (VR.tr t a e1) (KRs.tr t b e2)
end
theorem OR.tr {f : Nat → Option Nat} (t : Tr w M rho H M1 rho1 H1 f) {a : Addr} {o p : PO} (q : OR w M rho H a o) (he : H1 a = H a) (e : renO f o = Option.some p) : OR w M1 rho1 H1 a p := by
  cases o with
  | lst xs =>
    obtain ⟨vs, h1, h2⟩ := q
    cases e1 : renVs f xs with
    | none => simp only [renO, e1] at e; cases e
    | some ys => simp only [renO, e1] at e; cases e; exact ⟨vs, he.trans h1, h2.tr t e1⟩
  | ins c fs =>
    obtain ⟨C, dx, gs, h0, h1, h2⟩ := q
    cases e1 : renF f fs with
    | none => simp only [renO, e1] at e; cases e
    | some ys => simp only [renO, e1] at e; cases e; exact ⟨C, dx, gs, h0, he.trans h1, h2.tr t e1⟩
  | dic lk kvs =>
    obtain ⟨ks, h1, h2⟩ := q
    cases e1 : renK f kvs with
    | none => simp only [renO, e1] at e; cases e
    | some ys =>
      simp only [renO, e1] at e; cases e
      refine ⟨ks, ?_, h2.tr t e1⟩
      cases lk with
      | false => exact he.trans h1
      | true => obtain ⟨o, h1⟩ := h1; exact ⟨o, he.trans h1⟩
end

abbrev MF := List PV → PH → R PV
def FUEL : Nat := 400
def pick (h : PH) (f : Nat → Option Nat) (n : Nat) : Option PO := match h[n]? with
  | some o => renO f o
  | none => none
def setAll : PH → List Nat → List PO → PH
  | h, n :: ns, o :: os => setAll (h.set n o) ns os
  | h, _, _ => h
def newsOf (fp live : List Nat) : List Nat := live.filter fun n => decide (fp.length ≤ n)
def backF (fp news : List Nat) (n0 : Nat) : Nat → Option Nat := fun n => bif decide (n < fp.length) then fp[n]? else match idx news n with
  | some i => some (n0 + i)
  | none => none
/-- behind the call: fp the objects that were handed over, h the caller's heap, vs and g what came back -/
def takeL (h : PH) (fp : List Nat) (vs : List PV) (g : PH) : Option (List Nat × List PV × PH) := match reach g FUEL (refsVs vs ++ List.range fp.length) [] with
  | some live => match renVs (backF fp (newsOf fp live) h.length) vs, mapO (pick g (backF fp (newsOf fp live) h.length)) (List.range fp.length), mapO (pick g (backF fp (newsOf fp live) h.length)) (newsOf fp live) with
    | some us, some os, some ns => some (newsOf fp live, us, setAll h fp os ++ ns)
    | _, _, _ => none
  | none => none
def takeBack (h : PH) (fp : List Nat) (v : PV) (g : PH) : R PV := match takeL h fp [v] g with
  | some (_, [u], h2) => .ok u h2
  | _ => .stuck
/-- a new instance that nobody else holds is taken over as a value -/
def takeFrz (h : PH) (fp : List Nat) (v : PV) (g : PH) : R PV := match v with
  | .ref i => match g[i]? with
    | some (.ins c fs) => match takeL h fp (fs.map (·.2)) g with
      | some (news, us, h2) => bif news.contains i || decide (i < fp.length) then .stuck else .ok (.ins c ((fs.map (·.1)).zip us)) h2
      | none => .stuck
    | _ => .stuck
  | _ => .stuck
def callG (tb : PH → List Nat → PV → PH → R PV) (m : MF) (args : List PV) (h : PH) : R PV := match reach h FUEL (refsVs args) [] with
  | some fp => match renVs (idx fp) args, mapO (pick h (idx fp)) fp with
    | some as, some hc => match m as hc with
      | .ok v g => tb h fp v g
      | .exc _ _ _ => .stuck
      | .stuck => .stuck
    | _, _ => .stuck
  | none => .stuck
abbrev callM (m : MF) (args : List PV) (h : PH) : R PV := callG takeBack m args h
abbrev callF (m : MF) (args : List PV) (h : PH) : R PV := callG takeFrz m args h

section
theorem idx_get : ∀ {l : List Nat} {n i : Nat}, idx l n = some i → l[i]? = some n
  | [], _, _, e => nomatch e
  | m :: r, n, i, e => by
    unfold idx at e
    by_cases q : m = n
    · rw [beq_iff_eq.mpr q, cond_true] at e
      cases e
      rw [q]; rfl
    · rw [beq_eq_false_iff_ne.mpr q, cond_false] at e
      split at e
      · rename_i j ej
        cases e
        have := idx_get ej
        simpa using this
      · cases e
theorem mapO_len {α β : Type} {f : α → Option β} : ∀ {xs : List α} {ys : List β}, mapO f xs = some ys → ys.length = xs.length
  | [], _, e => by cases e; rfl
  | x :: xs, ys, e => by
    unfold mapO at e
    split at e
    · cases e
    · split at e
      · cases e
      · rename_i e2
        cases e
        rw [List.length_cons, List.length_cons, mapO_len e2]
theorem mapO_get {α β : Type} {f : α → Option β} : ∀ {xs : List α} {ys : List β}, mapO f xs = some ys → ∀ {i : Nat} {x : α}, xs[i]? = some x → ∃ y, ys[i]? = some y ∧ f x = some y
  | [], _, _, i, _, h => by simp at h
  | x :: xs, ys, e, i, z, h => by
    unfold mapO at e
    split at e
    · cases e
    · rename_i y ey
      split at e
      · cases e
      · rename_i e2
        cases e
        cases i with
        | zero =>
          have h1 : x = z := by simpa using h
          subst h1
          exact ⟨y, rfl, ey⟩
        | succ i =>
          obtain ⟨y2, h1, h2⟩ := mapO_get e2 (i := i) (x := z) (by simpa using h)
          exact ⟨y2, by simpa using h1, h2⟩
theorem reach_nd {h : PH} : ∀ {f : Nat} {todo seen fp : List Nat}, seen.Nodup → reach h f todo seen = some fp → fp.Nodup
  | f, [], seen, fp, n, e => by
    cases f <;> (unfold reach at e; cases e; exact n)
  | 0, _ :: _, _, _, _, e => by unfold reach at e; cases e
  | f + 1, m :: todo, seen, fp, n, e => by
    unfold reach at e
    by_cases q : seen.contains m = true
    · rw [q, cond_true] at e
      exact reach_nd n e
    · have q' : seen.contains m = false := by simpa using q
      rw [q', cond_false] at e
      split at e
      · refine reach_nd (List.nodup_append.mpr ⟨n, (by simp), fun a ha b hb z => ?_⟩) e
        rw [List.mem_singleton] at hb
        subst z; subst hb
        exact q (List.contains_iff_mem.mpr ha)
      · cases e
theorem setAll_len : ∀ (h : PH) (ns : List Nat) (os : List PO), (setAll h ns os).length = h.length
  | h, [], os => by cases os <;> rfl
  | h, n :: ns, [] => rfl
  | h, n :: ns, o :: os => by
    show (setAll (h.set n o) ns os).length = _
    rw [setAll_len, List.length_set]
theorem setAll_out : ∀ (h : PH) (ns : List Nat) (os : List PO) {i : Nat}, i ∉ ns → (setAll h ns os)[i]? = h[i]?
  | h, [], os, i, _ => by cases os <;> rfl
  | h, n :: ns, [], i, _ => rfl
  | h, n :: ns, o :: os, i, hn => by
    show (setAll (h.set n o) ns os)[i]? = _
    have h1 : n ≠ i := fun e => hn (by rw [e]; exact List.mem_cons_self)
    rw [setAll_out (h.set n o) ns os fun z => hn (List.mem_cons_of_mem _ z), List.getElem?_set_ne h1]
theorem setAll_in : ∀ (h : PH) (ns : List Nat) (os : List PO), ns.Nodup → os.length = ns.length → ∀ {i j : Nat}, ns[j]? = some i → i < h.length → (setAll h ns os)[i]? = os[j]?
  | h, [], os, _, _, i, j, e, _ => by simp at e
  | h, n :: ns, [], _, l, i, j, e, _ => by simp at l
  | h, n :: ns, o :: os, nd, l, i, j, e, hi => by
    show (setAll (h.set n o) ns os)[i]? = _
    have nd2 := List.nodup_cons.mp nd
    cases j with
    | zero =>
      have e1 : n = i := by simpa using e
      subst e1
      rw [setAll_out _ _ _ nd2.1, List.getElem?_set_self hi]
      rfl
    | succ j =>
      have e1 : ns[j]? = some i := by simpa using e
      have := setAll_in (h.set n o) ns os nd2.2 (by simpa using l) e1 (by rw [List.length_set]; exact hi)
      rw [this]
      simp
end
section
variable {w : Wo} {EX EX2 : XC} {M : Addr → Prop} {rho : List Addr} {H : Hp} {h : PH}
/-- the addresses that are handed over -/
def some_of (rho : List Addr) (fp : List Nat) : List Addr := fp.map fun n => rho.getD n 0
theorem some_get {rho : List Addr} {fp : List Nat} {i n : Nat} {a : Addr} (e : fp[i]? = some n) (r : rho[n]? = some a) : (some_of rho fp)[i]? = some a := by
  unfold some_of
  rw [List.getElem?_map, e]
  simp [List.getD, r]
theorem some_inv {rho : List Addr} {fp : List Nat} {i : Nat} {a : Addr} (hf : ∀ n ∈ fp, n < rho.length) (e : (some_of rho fp)[i]? = some a) : ∃ n, fp[i]? = some n ∧ rho[n]? = some a := by
  unfold some_of at e
  rw [List.getElem?_map] at e
  cases q : fp[i]? with
  | none => rw [q] at e; cases e
  | some n =>
    rw [q] at e
    have hn := hf n (List.mem_of_getElem? q)
    refine ⟨n, rfl, ?_⟩
    rw [← e]
    simp [List.getD, hn]
theorem some_nd {rho : List Addr} {fp : List Nat} (h1 : rho.Nodup) (h2 : fp.Nodup) (hf : ∀ n ∈ fp, n < rho.length) : (some_of rho fp).Nodup := by
  unfold some_of
  induction fp with
  | nil => exact List.nodup_nil
  | cons n r ih =>
    have h3 := List.nodup_cons.mp h2
    rw [List.map_cons]
    refine List.nodup_cons.mpr ⟨fun z => ?_, ih h3.2 fun m hm => hf m (List.mem_cons_of_mem _ hm)⟩
    obtain ⟨m, hm, e⟩ := List.mem_map.mp z
    have l1 := hf n List.mem_cons_self
    have l2 := hf m (List.mem_cons_of_mem _ hm)
    simp only [List.getD, List.getElem?_eq_getElem l1, List.getElem?_eq_getElem l2, Option.getD_some] at e
    have := (List.getElem_inj h1).mp e
    subst this
    exact h3.1 hm
theorem pick_some {h : PH} {f : Nat → Option Nat} {n : Nat} {p : PO} (e : pick h f n = some p) : ∃ o, h[n]? = some o ∧ renO f o = some p := by
  unfold pick at e
  split at e
  · rename_i o e0
    exact ⟨o, e0, e⟩
  · cases e
theorem pick_all {h : PH} {f : Nat → Option Nat} {ns : List Nat} {os : List PO} (e : mapO (pick h f) ns = some os) : ∀ n ∈ ns, n < h.length := fun n hn => by
  obtain ⟨i, hi, ei⟩ := List.mem_iff_getElem.mp hn
  obtain ⟨y, _, ey⟩ := mapO_get e (i := i) (x := n) (by rw [List.getElem?_eq_getElem hi, ei])
  obtain ⟨o, h1, _⟩ := pick_some ey
  exact (List.getElem?_eq_some_iff.mp h1).1
/-- entering -/
theorem enter_ok (hr : HR w M rho H h) {args as : List PV} {hc : PH} {fp : List Nat} {vs : List V} (nd : fp.Nodup) (e1 : renVs (idx fp) args = some as) (e2 : mapO (pick h (idx fp)) fp = some hc) (r : VRs w M rho H args vs) :
    VRs w M (some_of rho fp) H as vs ∧ HR w M (some_of rho fp) H hc := by
  have hf : ∀ n ∈ fp, n < rho.length := fun n hn => by rw [← hr.len]; exact pick_all e2 n hn
  have t : Tr w M rho H M (some_of rho fp) H (idx fp) := ⟨fun _ _ _ e => e, fun _ e => e, fun n m a q ha => some_get (idx_get q) ha⟩
  refine ⟨r.tr t e1, ⟨?_, some_nd hr.nd nd hf, fun b hb => ?_, hr.live, fun n o q => ?_⟩⟩
  · rw [mapO_len e2]
    unfold some_of
    rw [List.length_map]
  · obtain ⟨i, hi, ei⟩ := List.mem_iff_getElem.mp hb
    obtain ⟨n, _, hn⟩ := some_inv hf (i := i) (a := b) (by rw [List.getElem?_eq_getElem hi, ei])
    exact hr.mem b (List.mem_of_getElem? hn)
  · have hn : n < fp.length := by
      have := (List.getElem?_eq_some_iff.mp q).1
      rwa [mapO_len e2] at this
    obtain ⟨y, hy, ey⟩ := mapO_get e2 (i := n) (x := fp[n]) (List.getElem?_eq_getElem hn)
    rw [q] at hy
    cases hy
    obtain ⟨o', h1, h2⟩ := pick_some ey
    obtain ⟨a, ha, s⟩ := hr.ob _ _ h1
    exact ⟨a, some_get (List.getElem?_eq_getElem hn) ha, s.tr t rfl h2⟩
theorem Out.bifN {α : Type} {c : Bool} {r : R α} {kk : KC α} (o : Out w EX M rho H (bif c then .stuck else r) kk) : c = false ∧ Out w EX M rho H r kk := by
  cases c with
  | true => exact (show False from o).elim
  | false => exact ⟨rfl, o⟩
/-- coming back -/
theorem back_core {M1 : Addr → Prop} {rho1 : List Addr} {H1 : Hp} (hr : HR w M rho H h) {fp : List Nat} {g h2 : PH} {v us : List PV} {V : List L2.V} {nw : List Nat} (nd : fp.Nodup) (hf : ∀ n ∈ fp, n < rho.length) (st : Step M (some_of rho fp) H M1 rho1 H1) (hr1 : HR w M1 rho1 H1 g) (r : VRs w M1 rho1 H1 v V)
    (o : takeL h fp v g = some (nw, us, h2)) : ∃ M2 rho2, Step M rho H M2 rho2 H1 ∧ HR w M2 rho2 H1 h2 ∧ VRs w M2 rho2 H1 us V ∧ (∀ b, M2 b → M b ∨ ∃ n ∈ nw, rho1[n]? = some b) := by
  unfold takeL at o
  split at o
  · rename_i live el
    have ndl := reach_nd List.nodup_nil el
    generalize hnews : newsOf fp live = news at o
    have ndn : news.Nodup := by rw [← hnews]; exact ndl.filter _
    have nge : ∀ n ∈ news, fp.length ≤ n := fun n hn => by
      rw [← hnews] at hn
      exact of_decide_eq_true (List.mem_filter.mp hn).2
    generalize hfd : backF fp news h.length = f at o
    split at o
    · rename_i us' os ns e1 e2 e3
      have lo : os.length = fp.length := by rw [mapO_len e2, List.length_range]
      have ln : ns.length = news.length := mapO_len e3
      have nlt : ∀ n ∈ news, n < rho1.length := fun n hn => by rw [← hr1.len]; exact pick_all e3 n hn
      have lc : (some_of rho fp).length = fp.length := by unfold some_of; rw [List.length_map]
      -- a new address
      have newA : ∀ b ∈ some_of rho1 news, b ∈ rho1 ∧ H b = none := fun b hb => by
        obtain ⟨i, hi, ei⟩ := List.mem_iff_getElem.mp hb
        obtain ⟨n, h1, h2⟩ := some_inv nlt (i := i) (a := b) (by rw [List.getElem?_eq_getElem hi, ei])
        have hm := List.mem_of_getElem? h2
        refine ⟨hm, ?_⟩
        rcases st.new b hm with z | z
        · obtain ⟨j, hj, ej⟩ := List.mem_iff_getElem.mp z
          have q := st.ext j b (by rw [List.getElem?_eq_getElem hj, ej])
          obtain ⟨l1, z1⟩ := List.getElem?_eq_some_iff.mp q
          obtain ⟨l2, z2⟩ := List.getElem?_eq_some_iff.mp h2
          have := (List.getElem_inj hr1.nd).mp (z1.trans z2.symm)
          have g1 := nge n (List.mem_of_getElem? h1)
          rw [lc] at hj
          omega
        · exact z
      have subR : ∀ b ∈ some_of rho fp, b ∈ rho := fun b hb => by
        obtain ⟨i, hi, ei⟩ := List.mem_iff_getElem.mp hb
        obtain ⟨n, _, hn⟩ := some_inv hf (i := i) (a := b) (by rw [List.getElem?_eq_getElem hi, ei])
        exact List.mem_of_getElem? hn
      let M2 : Addr → Prop := fun b => M b ∨ b ∈ some_of rho1 news
      let rho2 := rho ++ some_of rho1 news
      have st2 : Step M rho H M2 rho2 H1 := by
        refine ⟨fun n a e => ?_, fun b e => .inl e, fun b e => e.elim .inl fun z => .inr (newA b z).2, fun b e => ?_, fun b o' nb e => st.frame b o' (fun z => nb (subR b z)) e, st.there, st.frz⟩
        · show (rho ++ some_of rho1 news)[n]? = some a
          rw [List.getElem?_append_left (List.getElem?_eq_some_iff.mp e).1]; exact e
        · rcases List.mem_append.mp e with z | z
          · exact .inl z
          · exact .inr (newA b z).2
      have t : Tr w M1 rho1 H1 M2 rho2 H1 f := by
        refine ⟨fun _ _ _ e => e, fun b e => e.elim (st.mono b) fun z => hr1.mem b (newA b z).1, fun n m a q ha => ?_⟩
        rw [← hfd] at q
        unfold backF at q
        by_cases hn : n < fp.length
        · simp only [hn, decide_true, cond_true] at q
          have hm := hf m (List.mem_of_getElem? q)
          have z := st.ext n _ (some_get q (List.getElem?_eq_getElem hm))
          rw [ha] at z
          cases z
          show (rho ++ some_of rho1 news)[m]? = _
          rw [List.getElem?_append_left hm]
          exact List.getElem?_eq_getElem hm
        · simp only [hn, decide_false, cond_false] at q
          split at q
          · rename_i i ei
            cases q
            show (rho ++ some_of rho1 news)[h.length + i]? = _
            rw [hr.len, List.getElem?_append_right (Nat.le_add_right _ _), Nat.add_sub_cancel_left]
            exact some_get (idx_get ei) ha
          · cases q
      have hr2 : HR w M2 rho2 H1 (setAll h fp os ++ ns) := by
        refine ⟨?_, ?_, fun b hb => ?_, fun b hb => ?_, fun n o' q => ?_⟩
        · show _ = (rho ++ some_of rho1 news).length
          rw [List.length_append, List.length_append, setAll_len, hr.len, ln]
          unfold some_of
          rw [List.length_map]
        · refine List.nodup_append.mpr ⟨hr.nd, some_nd hr1.nd ndn nlt, fun a ha b hb e => ?_⟩
          subst e
          exact hr.live _ (hr.mem _ ha) (newA _ hb).2
        · rcases List.mem_append.mp hb with z | z
          · exact .inl (hr.mem b z)
          · exact .inr z
        · rcases hb with z | z
          · exact st.there b (hr.live b z)
          · exact hr1.live b (hr1.mem b (newA b z).1)
        · by_cases hn : n < h.length
          · rw [List.getElem?_append_left (by rw [setAll_len]; exact hn)] at q
            by_cases hm : n ∈ fp
            · obtain ⟨j, hj, ej⟩ := List.mem_iff_getElem.mp hm
              have e4 : fp[j]? = some n := by rw [List.getElem?_eq_getElem hj, ej]
              rw [setAll_in h fp os nd lo e4 hn] at q
              obtain ⟨y, hy, ey⟩ := mapO_get e2 (i := j) (x := j) (by simp [hj])
              rw [q] at hy
              cases hy
              obtain ⟨o2, h1, h2⟩ := pick_some ey
              obtain ⟨a, ha, s⟩ := hr1.ob _ _ h1
              refine ⟨a, ?_, s.tr t rfl h2⟩
              have hn2 : n < rho.length := by rw [← hr.len]; exact hn
              have z := st.ext j _ (some_get e4 (List.getElem?_eq_getElem hn2))
              rw [ha] at z
              cases z
              show (rho ++ some_of rho1 news)[n]? = _
              rw [List.getElem?_append_left hn2]
              exact List.getElem?_eq_getElem hn2
            · rw [setAll_out h fp os hm] at q
              obtain ⟨a, ha, s⟩ := hr.ob _ _ q
              refine ⟨a, st2.ext n a ha, s.step st2 hr ?_⟩
              obtain ⟨x, hx, _⟩ := s.some
              rw [hx]
              refine st.frame a x (fun z => ?_) hx
              obtain ⟨i, hi, ei⟩ := List.mem_iff_getElem.mp z
              obtain ⟨n', h5, h6⟩ := some_inv hf (i := i) (a := a) (by rw [List.getElem?_eq_getElem hi, ei])
              obtain ⟨l1, z1⟩ := List.getElem?_eq_some_iff.mp ha
              obtain ⟨l2, z2⟩ := List.getElem?_eq_some_iff.mp h6
              have := (List.getElem_inj hr.nd).mp (z1.trans z2.symm)
              subst this
              exact hm (List.mem_of_getElem? h5)
          · rw [List.getElem?_append_right (by rw [setAll_len]; omega), setAll_len] at q
            have hl : n - h.length < news.length := by
              have := (List.getElem?_eq_some_iff.mp q).1
              omega
            obtain ⟨y, hy, ey⟩ := mapO_get e3 (i := n - h.length) (x := news[n - h.length]) (List.getElem?_eq_getElem hl)
            rw [q] at hy
            cases hy
            obtain ⟨o2, h1, h2⟩ := pick_some ey
            obtain ⟨a, ha, s⟩ := hr1.ob _ _ h1
            refine ⟨a, ?_, s.tr t rfl h2⟩
            show (rho ++ some_of rho1 news)[n]? = _
            rw [List.getElem?_append_right (by rw [← hr.len]; omega), ← hr.len]
            exact some_get (List.getElem?_eq_getElem hl) ha
      have o2 := Option.some.inj o
      have p1 := congrArg Prod.fst o2
      have p2 := congrArg (fun z => z.2.1) o2
      have p3 := congrArg (fun z => z.2.2) o2
      simp only at p1 p2 p3
      subst p1; subst p2; subst p3
      refine ⟨M2, rho2, st2, hr2, r.tr t e1, fun b hb => hb.elim .inl fun z => .inr ?_⟩
      obtain ⟨i, hi, ei⟩ := List.mem_iff_getElem.mp z
      obtain ⟨n, h1, h2⟩ := some_inv nlt (i := i) (a := b) (by rw [List.getElem?_eq_getElem hi, ei])
      exact ⟨n, List.mem_of_getElem? h1, h2⟩
    · cases o
  · cases o
theorem back_ok {M1 : Addr → Prop} {rho1 : List Addr} {H1 : Hp} (hr : HR w M rho H h) {fp : List Nat} {g : PH} {v : PV} {V : L2.V} (nd : fp.Nodup) (hf : ∀ n ∈ fp, n < rho.length) (st : Step M (some_of rho fp) H M1 rho1 H1) (hr1 : HR w M1 rho1 H1 g) (r : VR w M1 rho1 H1 v V)
    {k : KC PV} (o : Out w EX M rho H (takeBack h fp v g) k) : ∃ M2 rho2 u h2, Step M rho H M2 rho2 H1 ∧ HR w M2 rho2 H1 h2 ∧ VR w M2 rho2 H1 u V ∧ k u h2 M2 rho2 H1 := by
  unfold takeBack at o
  split at o
  · rename_i nw u h2 e
    obtain ⟨M2, rho2, st2, hr2, r2, _⟩ := back_core hr nd hf st hr1 (.cons r .nil) e
    cases r2 with
    | cons r2 _ => exact ⟨M2, rho2, u, h2, st2, hr2, r2, o M2 rho2 H1 st2 hr2⟩
  · exact (show False from o).elim
theorem FRs.vals {M1 : Addr → Prop} {rho1 : List Addr} {H1 : Hp} : ∀ {fs : List (Nm × PV)} {gs : List (Str × L2.V)}, FRs w M1 rho1 H1 fs gs → VRs w M1 rho1 H1 (fs.map (·.2)) (gs.map (·.2))
  | _, _, .nil => .nil
  | _, _, .cons a b => .cons a b.vals
theorem FRs.back {M1 M2 : Addr → Prop} {rho1 rho2 : List Addr} {H1 H2 : Hp} : ∀ {fs : List (Nm × PV)} {gs : List (Str × L2.V)} {us : List PV}, FRs w M1 rho1 H1 fs gs → VRs w M2 rho2 H2 us (gs.map (·.2)) → FRs w M2 rho2 H2 ((fs.map (·.1)).zip us) gs
  | _, _, _, .nil, .nil => .nil
  | _, _, _, .cons a b, .cons c d => .cons c (b.back d)
theorem frz_ok {M1 : Addr → Prop} {rho1 : List Addr} {H1 : Hp} (hr : HR w M rho H h) {fp : List Nat} {g : PH} {v : PV} {V : L2.V} (nd : fp.Nodup) (hf : ∀ n ∈ fp, n < rho.length) (st : Step M (some_of rho fp) H M1 rho1 H1) (hr1 : HR w M1 rho1 H1 g) (r : VR w M1 rho1 H1 v V)
    {k : KC PV} (o : Out w EX M rho H (takeFrz h fp v g) k) : ∃ M2 rho2 u h2, Step M rho H M2 rho2 H1 ∧ HR w M2 rho2 H1 h2 ∧ VR w M2 rho2 H1 u V ∧ k u h2 M2 rho2 H1 := by
  unfold takeFrz at o
  cases r <;> try exact (show False from o).elim
  rename_i i a ha
  dsimp only at o
  split at o
  · rename_i c fs e0
    split at o
    · rename_i nw us h2 e
      obtain ⟨hc, o⟩ := Out.bifN o
      simp only [Bool.or_eq_false_iff, decide_eq_false_iff_not] at hc
      obtain ⟨a', ha', C, dx, gs, q1, q2, q3⟩ := hr1.ob _ _ e0
      rw [ha] at ha'
      cases ha'
      obtain ⟨M2, rho2, st2, hr2, r2, mm⟩ := back_core hr nd hf st hr1 q3.vals e
      refine ⟨M2, rho2, _, h2, st2, hr2, .ins q1 q2 (fun z => ?_) (q3.back r2), o M2 rho2 H1 st2 hr2⟩
      have uniq : ∀ n, rho1[n]? = some a → n = i := fun n hn => by
        obtain ⟨l1, z1⟩ := List.getElem?_eq_some_iff.mp hn
        obtain ⟨l2, z2⟩ := List.getElem?_eq_some_iff.mp ha
        exact (List.getElem_inj hr1.nd).mp (z1.trans z2.symm)
      rcases mm a z with y | ⟨n, hn, en⟩
      · rcases st.new a (List.mem_of_getElem? ha) with x | x
        · obtain ⟨j, hj, ej⟩ := List.mem_iff_getElem.mp x
          have q := st.ext j a (by rw [List.getElem?_eq_getElem hj, ej])
          have := uniq j q
          subst this
          have lc : (some_of rho fp).length = fp.length := by unfold some_of; rw [List.length_map]
          exact hc.2 (by omega)
        · exact hr.live a y x
      · have := uniq n en
        subst this
        have := hc.1
        rw [List.contains_iff_mem.mpr hn] at this
        cases this
    · exact (show False from o).elim
  · exact (show False from o).elim
/-- the callee's outcome from the call's -/
def TbOk (w : Wo) (EX : XC) (tb : PH → List Nat → PV → PH → R PV) : Prop := ∀ {M M1 : Addr → Prop} {rho rho1 : List Addr} {H H1 : Hp} {h : PH}, HR w M rho H h → ∀ {fp : List Nat} {g : PH} {v : PV} {V : L2.V}, fp.Nodup → (∀ n ∈ fp, n < rho.length) → Step M (some_of rho fp) H M1 rho1 H1 → HR w M1 rho1 H1 g → VR w M1 rho1 H1 v V →
    ∀ {k : KC PV}, Out w EX M rho H (tb h fp v g) k → ∃ M2 rho2 u h2, Step M rho H M2 rho2 H1 ∧ HR w M2 rho2 H1 h2 ∧ VR w M2 rho2 H1 u V ∧ k u h2 M2 rho2 H1
theorem tb_ok : TbOk w EX takeBack := back_ok
theorem tf_ok : TbOk w EX takeFrz := frz_ok
theorem callG_ok {tb : PH → List Nat → PV → PH → R PV} (T : TbOk w EX tb) {m : MF} {args : List PV} {vs : List V} {k : KC PV} (hr : HR w M rho H h) (r : VRs w M rho H args vs) (o : Out w EX M rho H (callG tb m args h) k) :
    ∃ rho' as hc, VRs w M rho' H as vs ∧ HR w M rho' H hc ∧ Out w EX2 M rho' H (m as hc) (fun v _ M1 rho1 H1 => ∀ V, VR w M1 rho1 H1 v V → ∃ M2 rho2 u h2, Step M rho H M2 rho2 H1 ∧ HR w M2 rho2 H1 h2 ∧ VR w M2 rho2 H1 u V ∧ k u h2 M2 rho2 H1) := by
  unfold callG at o
  split at o
  · rename_i fp ef
    have nd := reach_nd List.nodup_nil ef
    split at o
    · rename_i as hc e1 e2
      have hf : ∀ n ∈ fp, n < rho.length := fun n hn => by rw [← hr.len]; exact pick_all e2 n hn
      obtain ⟨r', hr'⟩ := enter_ok hr nd e1 e2 r
      refine ⟨_, as, hc, r', hr', ?_⟩
      split at o
      · rename_i v g em
        rw [em]
        exact fun M1 rho1 H1 st hr1 V rv => T hr nd hf st hr1 rv o
      · exact (show False from o).elim
      · exact (show False from o).elim
    · exact (show False from o).elim
  · exact (show False from o).elim
end
end MC

end
section
set_option maxRecDepth 100000
set_option maxHeartbeats 4000000
namespace MC
open PySem PySem.Spec PyProof.Rows L2

abbrev En := List (Option PV)
/-- how a statement ends -/
inductive Fl where
  | nx (e : En)
  | rt (v : PV)
  | bk (e : En)
  | ct (e : En)
abbrev MS := En → PH → R Fl
def KS (w : Wo) (D : Ends) : KC Fl := fun f _ M rho H => match f with
  | .nx e => ∀ s, ER w M rho H e s → D.nx s H
  | .rt x => ∀ v, VR w M rho H x v → D.rt v H
  | .bk e => ∀ s, ER w M rho H e s → D.bk s H
  | .ct e => ∀ s, ER w M rho H e s → D.ct s H
def tS (w : Wo) (EX : XC) (m : MS) : TS := fun D s H => ∃ M rho env h, ER w M rho H env s ∧ HR w M rho H h ∧ Out w EX M rho H (m env h) (KS w D)
theorem PS_imp {X : Cx} {e : Stmt} {t t2 : TS} (p : PS X e t) (i : ∀ D s H, t2 D s H → t D s H) : PS X e t2 := ⟨fun pins s σ H D I h => p.run pins s σ H D I (i D σ H h)⟩
theorem PSs_imp {X : Cx} {e : List Stmt} {t t2 : TS} (p : PSs X e t) (i : ∀ D s H, t2 D s H → t D s H) : PSs X e t2 := ⟨fun pins s σ H D I h => p.run pins s σ H D I (i D σ H h)⟩

def mNil : MS := fun env h => .ok (.nx env) h
def mSeq (a b : MS) : MS := fun env h => (a env h).bind fun f h1 => match f with
  | .nx e => b e h1
  | .rt v => .ok (.rt v) h1
  | .bk e => .ok (.bk e) h1
  | .ct e => .ok (.ct e) h1
def mSet (i : Nat) (m : ME) : MS := fun env h => (m env h).bind fun x h1 => .ok (.nx (env.set i (some x))) h1
def mDrop (m : ME) : MS := fun env h => (m env h).bind fun _ h1 => .ok (.nx env) h1
def mRet (m : ME) : MS := fun env h => (m env h).bind fun x h1 => .ok (.rt x) h1
def mRetN : MS := fun _ h => .ok (.rt .non) h
def mIfS (t : MT) (a b : MS) : MS := fun env h => (t env h).bind fun c h1 => bif c then a env h1 else b env h1
def mBreak : MS := fun env h => .ok (.bk env) h
def mCont : MS := fun env h => .ok (.ct env) h
def mNever : MS := fun _ _ => .stuck
section
variable {w : Wo} {EX : XC} {X : Cx} {k : Nat} {st : Stmt} {rest : List Stmt} {a b : MS} {m : ME} {e : Expr} {pos : Pos}
theorem mss_nil : PSs X [] (tS w EX mNil) := by
  refine PSs_imp pss_nil fun D s H hh => ?_
  obtain ⟨M, rho, env, h, er, hr, o⟩ := hh
  exact o.now hr s er
theorem mss_cons (h1 : PS X st (tS w EX a)) (h2 : PSs X rest (tS w EX b)) : PSs X (st :: rest) (tS w EX (mSeq a b)) := by
  refine PSs_imp (pss_cons h1 h2) fun D s H hh => ?_
  obtain ⟨M, rho, env, h, er, hr, o⟩ := hh
  refine ⟨M, rho, env, h, er, hr, (Out.bind o).imp fun f h1 M1 rho1 H1 st1 hr1 o1 => ?_⟩
  cases f with
  | nx e => exact fun s1 er1 => ⟨M1, rho1, e, h1, er1, hr1, o1⟩
  | rt v => exact (show Out w EX M1 rho1 H1 (.ok (.rt v) h1) (KS w D) from o1).now hr1
  | bk e => exact (show Out w EX M1 rho1 H1 (.ok (.bk e) h1) (KS w D) from o1).now hr1
  | ct e => exact (show Out w EX M1 rho1 H1 (.ok (.ct e) h1) (KS w D) from o1).now hr1
theorem ms_pass : PS X (.Pass pos) (tS w EX mNil) := by
  refine PS_imp ps_pass fun D s H hh => ?_
  obtain ⟨M, rho, env, h, er, hr, o⟩ := hh
  exact o.now hr s er
theorem ms_doc {x j pos pos'} : PS X (.Expr (.Constant (.str x) j pos) pos') (tS w EX mNil) := by
  refine PS_imp ps_doc fun D s H hh => ?_
  obtain ⟨M, rho, env, h, er, hr, o⟩ := hh
  exact o.now hr s er
theorem ms_break : PS X (.Break pos) (tS w EX mBreak) := by
  refine PS_imp ps_break fun D s H hh => ?_
  obtain ⟨M, rho, env, h, er, hr, o⟩ := hh
  exact o.now hr s er
theorem ms_cont : PS X (.Continue pos) (tS w EX mCont) := by
  refine PS_imp ps_continue fun D s H hh => ?_
  obtain ⟨M, rho, env, h, er, hr, o⟩ := hh
  exact o.now hr s er
theorem ms_never : PS X st (tS w EX mNever) := ⟨fun _ _ _ _ _ _ ⟨_, _, _, _, _, _, o⟩ => (show False from o).elim⟩
theorem mss_never {sts : List Stmt} : PSs X sts (tS w EX mNever) := ⟨fun _ _ _ _ _ _ ⟨_, _, _, _, _, _, o⟩ => (show False from o).elim⟩
theorem ms_set (i : Nat) {x : Str} {pos' : Pos} (hN : X.N.Nodup) (he : PE X e (tM w EX m)) (hi : X.N[i]? = some x := by rfl) (hx : Loc X.env.scope x := by first | exact Or.inl rfl | exact Or.inr rfl)
    (hs : swapsWith e (some (.Name x pos')) pos.line X.env = pure false := by rfl) (hf : X.fn x = true ∨ X.env.scope.names.lookup x = some .local := by first | exact .inl rfl | exact .inr rfl | assumption) :
    PS X (.Assign [.Name x pos'] e pos) (tS w EX (mSet i m)) := by
  refine PS_imp (ps_set hN hi hx he hs hf) fun D s H hh => ?_
  obtain ⟨M, rho, env, h, er, hr, o⟩ := hh
  exact tM.of er hr (Out.bind o) fun y h1 M1 rho1 H1 v st1 er1 hr1 o1 rv => o1.now hr1 _ (er1.set rv i)
theorem ms_expr (he : PE X e (tM w EX m)) (hs : swapsWith e none pos.line X.env = pure false := by rfl) : PS X (.Expr e pos) (tS w EX (mDrop m)) := by
  refine PS_imp (ps_expr he hs) fun D s H hh => ?_
  obtain ⟨M, rho, env, h, er, hr, o⟩ := hh
  exact tM.of er hr (Out.bind o) fun y h1 M1 rho1 H1 v st1 er1 hr1 o1 rv => o1.now hr1 _ er1
theorem ms_ret (he : PE X e (tM w EX m)) : PS X (.Return (some e) pos) (tS w EX (mRet m)) := by
  refine PS_imp (ps_ret he) fun D s H hh => ?_
  obtain ⟨M, rho, env, h, er, hr, o⟩ := hh
  exact tM.of er hr (Out.bind o) fun y h1 M1 rho1 H1 v st1 er1 hr1 o1 rv => o1.now hr1 _ rv
theorem ms_retN : PS X (.Return none pos) (tS w EX mRetN) := by
  refine PS_imp ps_retN fun D s H hh => ?_
  obtain ⟨M, rho, env, h, er, hr, o⟩ := hh
  exact o.now hr _ .non
theorem ms_if {c : Expr} {as bs : List Stmt} {t : MT} (hc : PT X c (tT w EX t)) (ha : PSs X as (tS w EX a)) (hb : PSs X bs (tS w EX b)) : PS X (.If c as bs pos) (tS w EX (mIfS t a b)) := by
  refine PS_imp (ps_if hc ha hb) fun D s H hh => ?_
  obtain ⟨M, rho, env, h, er, hr, o⟩ := hh
  refine tT.of er hr (Out.bind o) fun x h1 M1 rho1 H1 st1 er1 hr1 o1 => ?_
  cases x with
  | true => exact iteT ⟨M1, rho1, env, h1, er1, hr1, o1⟩
  | false => exact iteF ⟨M1, rho1, env, h1, er1, hr1, o1⟩
end

abbrev MG := PV → En → PH → R En
abbrev MGs := List PV → En → PH → R En
def KG (w : Wo) (Q : L2.St → Hp → Prop) : KC En := fun e _ M rho H => ∀ s, ER w M rho H e s → Q s H
def tG (w : Wo) (EX : XC) (m : MG) : TG := fun v s H Q => ∃ M rho env h x, ER w M rho H env s ∧ HR w M rho H h ∧ VR w M rho H x v ∧ Out w EX M rho H (m x env h) (KG w Q)
def tGs (w : Wo) (EX : XC) (m : MGs) : TGs := fun vs s H Q => ∃ M rho env h xs, ER w M rho H env s ∧ HR w M rho H h ∧ VRs w M rho H xs vs ∧ Out w EX M rho H (m xs env h) (KG w Q)
def gName' (i : Nat) : MG := fun x env h => .ok (env.set i (some x)) h
def gsNil : MGs := fun xs env h => match xs with
  | [] => .ok env h
  | _ => .stuck
def gsCons (g : MG) (gs : MGs) : MGs := fun xs env h => match xs with
  | x :: r => (g x env h).bind fun e h1 => gs r e h1
  | [] => .stuck
def gTup' (n : Nat) (gs : MGs) : MG := fun x env h => match x with
  | .tup xs => bif xs.length == n then gs xs env h else .stuck
  | _ => .stuck
/-- target = value -/
def mAsg (m : ME) (g : MG) : MS := fun env h => (m env h).bind fun x h1 => (g x env h1).bind fun e h2 => .ok (.nx e) h2
section
variable {w : Wo} {EX : XC} {X : Cx} {k : Nat} {pos : Pos}
theorem PG_imp {tg : Expr} {t t2 : TG} (p : PG X tg t) (i : ∀ v s H Q, t2 v s H Q → t v s H Q) : PG X tg t2 := ⟨fun pins s σ H v u Q I r h => p.run pins s σ H v u Q I r (i v σ H Q h)⟩
theorem PGs_imp {tg : List Expr} {t t2 : TGs} (p : PGs X tg t) (i : ∀ v s H Q, t2 v s H Q → t v s H Q) : PGs X tg t2 := ⟨fun pins s σ H v u Q I r h => p.run pins s σ H v u Q I r (i v σ H Q h)⟩
theorem mg_name (i : Nat) {x : Str} (hN : X.N.Nodup) (hi : X.N[i]? = some x := by rfl) (hx : Loc X.env.scope x := by first | exact Or.inl rfl | exact Or.inr rfl) (hf : X.fn x = true ∨ X.env.scope.names.lookup x = some .local := by first | exact .inl rfl | exact .inr rfl | assumption) :
    PG X (.Name x pos) (tG w EX (gName' i)) := by
  refine PG_imp (pg_name hN hi hx hf) fun v s H Q hh => ?_
  obtain ⟨M, rho, env, h, x, er, hr, rv, o⟩ := hh
  exact o.now hr _ (er.set rv i)
theorem mgs_nil : PGs X [] (tGs w EX gsNil) := by
  refine PGs_imp pgs_nil fun vs s H Q hh => ?_
  obtain ⟨M, rho, env, h, xs, er, hr, rv, o⟩ := hh
  cases rv with
  | nil => exact ⟨rfl, (show Out w EX M rho H (.ok env h) (KG w Q) from o).now hr _ er⟩
  | cons _ _ => exact (show False from o).elim
theorem mgs_cons {e : Expr} {es : List Expr} {g : MG} {gs : MGs} (h1 : PG X e (tG w EX g)) (h2 : PGs X es (tGs w EX gs)) (hs : (assignEach (e :: es) X.env).map (·.2) = assign e X.env :: (assignEach es X.env).map (·.2) := by rfl) : PGs X (e :: es) (tGs w EX (gsCons g gs)) := by
  refine PGs_imp (pgs_cons h1 h2 hs) fun vs s H Q hh => ?_
  obtain ⟨M, rho, env, h, xs, er, hr, rv, o⟩ := hh
  cases rv with
  | nil => exact (show False from o).elim
  | @cons x v xs vs r1 r2 =>
    refine ⟨v, vs, rfl, M, rho, env, h, x, er, hr, r1, ?_⟩
    exact (Out.bind (show Out w EX M rho H ((g x env h).bind fun e h1 => gs xs e h1) (KG w Q) from o)).imp fun e h1 M1 rho1 H1 st1 hr1 o1 s1 er1 => ⟨M1, rho1, e, h1, xs, er1, hr1, r2.step st1 hr, o1⟩
theorem mg_tup (C : Cxt w k X) {es : List Expr} {j : Nat} {gs : MGs} (n : Nat) (h : PGs X es (tGs w EX gs)) (hn : (assignEach es X.env).length = n := by rfl) (hst : (assignEach es X.env).findIdx? (·.1) = none := by rfl) : PG X (.Tuple es j pos) (tG w EX (gTup' n gs)) := by
  refine PG_imp (pg_tup C.calm h hn hst) fun v s H Q hh => ?_
  obtain ⟨M, rho, env, hp, x, er, hr, rv, o⟩ := hh
  cases rv <;> try exact (show False from o).elim
  rename_i xs vs A ha sa
  obtain ⟨hl, o2⟩ := Out.bif o
  exact ⟨A, vs, rfl, by rw [C.hK]; exact ha, by rw [sa.length]; exact beq_iff_eq.mp hl, M, rho, env, hp, xs, er, hr, sa, o2⟩
theorem ms_asg {tg e : Expr} {m : ME} {g : MG} (he : PE X e (tM w EX m)) (hg : PG X tg (tG w EX g)) (hs : swapsWithSole [tg] e pos.line X.env = pure false := by rfl) (hw : swappedStores [tg] e X.env = pure none := by rfl)
    (h1 : (assignEach [tg] X.env).map (·.2) = [assign tg X.env] := by rfl) : PS X (.Assign [tg] e pos) (tS w EX (mAsg m g)) := by
  refine PS_imp (ps_asg he hg hs hw h1) fun D s H hh => ?_
  obtain ⟨M, rho, env, h, er, hr, o⟩ := hh
  refine tM.of er hr (Out.bind o) fun x h1 M1 rho1 H1 v st1 er1 hr1 o1 rv => ?_
  exact ⟨M1, rho1, env, h1, x, er1, hr1, rv, (Out.bind o1).imp fun e h2 M2 rho2 H2 st2 hr2 o2 s2 er2 => o2.now hr2 _ er2⟩
/-- a, b = x, y: plain local names -/
def mPar (i j : Nat) (ma mb : ME) : MS := fun env h => (ma env h).bind fun x h1 => (mb env h1).bind fun y h2 => .ok (.nx ((env.set i (some x)).set j (some y))) h2
theorem ms_par (C : Cxt w k X) (i j : Nat) {x y : Str} {a b : Expr} {ma mb : ME} {px py pt : Pos} {kt k2 pt2} (hN : X.N.Nodup) (ha : PE X a (tM w EX ma)) (hb : PE X b (tM w EX mb)) (hi : X.N[i]? = some x := by rfl) (hj : X.N[j]? = some y := by rfl) (hij : i ≠ j := by decide)
    (hx : X.env.scope.names.lookup x = some .local := by rfl) (hy : X.env.scope.names.lookup y = some .local := by rfl) (hw : swappedStores [.Tuple [.Name x px, .Name y py] kt pt] (.Tuple [a, b] k2 pt2) X.env = pure (some [x, y]) := by rfl)
    (hs : swapsWithSole [.Tuple [.Name x px, .Name y py] kt pt] (.Tuple [a, b] k2 pt2) pos.line X.env = pure false := by rfl)
    (s1 : starEach [a, b] X.env = (false, eval a X.env) :: starEach [b] X.env := by rfl) (s2 : starEach [b] X.env = (false, eval b X.env) :: starEach [] X.env := by rfl) :
    PS X (.Assign [.Tuple [.Name x px, .Name y py] kt pt] (.Tuple [a, b] k2 pt2) pos) (tS w EX (mPar i j ma mb)) := by
  refine PS_imp (ps_par C.calm hN hi hj hij hx hy (pa_cons ha (pa_cons hb pa_nil s2) s1) hw hs) fun D s H hh => ?_
  obtain ⟨M, rho, env, h, er, hr, o⟩ := hh
  refine tM.of er hr (Out.bind o) fun x h1 M1 rho1 H1 v st1 er1 hr1 o1 rv => ?_
  refine tM.of er1 hr1 (Out.bind o1) fun y h2 M2 rho2 H2 u st2 er2 hr2 o2 ru => ?_
  exact ⟨v, u, rfl, o2.now hr2 _ ((er2.set (rv.step st2 hr1) i).set ru j)⟩
end

/-- a body as a function of its arguments; n names -/
def mFun (n : Nat) (b : MS) : MF := fun args h => (b (args.map some ++ List.replicate (n - args.length) none) h).bind fun f h1 => match f with
  | .nx _ => .ok .non h1
  | .rt v => .ok v h1
  | _ => .stuck
def spM (w : Wo) (EX : XC) (m : MF) (vs : List V) (H : Hp) (Q : VK) : Prop := ∃ M rho args h, VRs w M rho H args vs ∧ HR w M rho H h ∧ Out w EX M rho H (m args h) (KV w Q)
structure FnM (P : Program) (W : World) (w : Wo) (mg : Str → Option Value) (base : Heap) (CX : CXT) (ex : XK → XC) (k : Nat) (f : Addr) (fd : FuncData) (ps : List Str) (m : MF) : Prop where
  run : ∀ (A : Around) (outer : List Env) (s : Shared) (H : Hp) (args : Args) (us : List Value) (vs : List V) (Q : VK) (E : XK), Room k A → A.guards = some [] → Env0 P W w.K mg base A outer s H → BindsTo s fd args (ps.zip us) → Vals vs us → vs.length = ps.length →
    spM w (ex E) m vs H Q → codeAny (model P W) A (.call (.ref f) args) (CR CX outer P W H s Q E) s
section
variable {P : Program} {W : World} {w : Wo} {mg : Str → Option Value} {base : Heap} {CX : CXT} {ex : XK → XC} {k : Nat}
theorem start_er {M : Addr → Prop} {rho : List Addr} {H : Hp} {args : List PV} {vs : List V} (n : Nat) (r : VRs w M rho H args vs) : ER w M rho H (args.map some ++ List.replicate (n - args.length) none) (vs.map some ++ List.replicate (n - vs.length) none) := by
  rw [r.length]
  generalize n - args.length = j
  have tl : ∀ j : Nat, ER w M rho H (List.replicate j none) (List.replicate j (none : Option V)) := fun j => by
    induction j with
    | zero => exact .nil
    | succ j ih => rw [List.replicate_succ, List.replicate_succ]; exact .no ih
  have all : ∀ {args : List PV} {vs : List V}, VRs w M rho H args vs → ER w M rho H (args.map some ++ List.replicate j none) (vs.map some ++ List.replicate j none) := by
    intro args
    induction args with
    | nil => intro vs r; cases r; exact tl j
    | cons x xs ih => intro vs r; cases r with | cons a b => exact .has a (ih b)
  exact all r
/-- a def of the text, by its body's mirror -/
theorem fnm_of {x qual : Str} {st : Stmt} {f : Addr} {fd : FuncData} {N ps : List Str} {b : MS} (F : Fun w.K x qual st f fd) (sc : FnScope N ps (defScope st))
    (hb : ∀ (cdv : Value) (A : Around) (outer : List Env) (s : Shared) (H : Hp) (E : XK), Cxt w k (cxOf CX P W w.K mg base N qual (defScope st) f cdv A outer s H E).nox →
      PSs (cxOf CX P W w.K mg base N qual (defScope st) f cdv A outer s H E).nox (defBody st) (tS w (ex E) b)) : FnM P W w mg base CX ex (k + 1) f fd ps (mFun N.length b) := by
  obtain ⟨oc, od, kV, doc, pm, an, cdv, ct, osl, rfl, lk, hcd⟩ := F.ex
  constructor
  intro A outer s H args us vs Q E room grd e0 bt rv len sp
  have inK : w.K.In s.heap := e0.mod.kin.keeps fun b o z => (e0.bs b o z).1
  have noLim : s.heap.NoLimit := e0.mod.nolimit.keeps fun b o z => (e0.bs b o z).1
  refine codeAny_call_function (fd := PySem.W.fnOf x qual (defArgs st) (defBody st) (defScope st) .none kV doc pm an cdv ct) room.depth (inK _ _ lk) rfl sc.co sc.gen rfl (PySem.W.codeRec_of inK hcd) (bt _ _ _ _ ?_)
  refine wpAny_newFunctionEnv_cells sc.kind (fun y hy => ?_) fun env henv s1 x1 => ?_
  · rcases sc.par y.1 (List.of_mem_zip (a := y.1) (b := y.2) hy).1 with q | q
    · exact Or.inl q
    · exact Or.inr ⟨q, PySem.W.cellsFrom_some _ _ _ (Or.inl q)⟩
  subst henv
  refine ⟨noLim.keeps x1.toInCall.keep, codeAny_func ?_⟩
  have C : Cxt w k (cxOf CX P W w.K mg base N qual (defScope st) f cdv A outer s H E).nox := ⟨rfl, rfl, room.deeper _, grd, PassesOwn.never⟩
  have I : Inv (cxOf CX P W w.K mg base N qual (defScope st) f cdv A outer s H E) [] (start N vs) H s1 := inv_start sc room.hd e0 len rv x1
  obtain ⟨M, rho, as, h, ra, hr, o⟩ := sp
  have er : ER w M rho H (as.map some ++ List.replicate (N.length - as.length) none) (start N vs) := start_er N.length ra
  have red : tS w (ex E) b { nx := fun _ H' => Q .non H', rt := Q } (start N vs) H := by
    refine ⟨M, rho, _, h, er, hr, (Out.bind o).imp fun fl h1 M1 rho1 H1 st1 hr1 o1 => ?_⟩
    cases fl with
    | nx e => exact fun s1 _ => (show Out w (ex E) M1 rho1 H1 (.ok .non h1) (KV w Q) from o1).now hr1 _ .non
    | rt v => exact (show Out w (ex E) M1 rho1 H1 (.ok v h1) (KV w Q) from o1).now hr1
    | bk e => exact (show False from o1).elim
    | ct e => exact (show False from o1).elim
  refine wpAny_mono ((hb cdv A outer s H E C).nox.run [] s1 (start N vs) H _ I red) (fun fl s' q => ?_) fun e s' q => q
  cases fl with
  | ret u => obtain ⟨v, σ', H', J, r, q⟩ := q; exact ⟨v, H', J.os, J.bare, J.base, J.hok, r, q⟩
  | next => obtain ⟨σ', H', J, q⟩ := q; exact ⟨.non, H', J.os, J.bare, J.base, J.hok, rfl, q⟩
  | brk => obtain ⟨_, _, _, q⟩ := q; exact (show False from q).elim
  | cont => obtain ⟨_, _, _, q⟩ := q; exact (show False from q).elim
end

end MC

end
section
set_option maxRecDepth 100000
set_option maxHeartbeats 4000000
namespace MC
open PySem PySem.Spec PyProof.Rows L2

/-- arguments by place: the positional ones, then the keywords' values, then the defaults -/
def gI {α : Type} (ix : List Nat) (l : List α) : List α := ix.filterMap fun i => l[i]?
/-- how a call binds -/
structure Bd (K : PySem.W.Frag) (fd : FuncData) (ps ks : List Str) (n : Nat) (ds : List Value) (ix : List Nat) : Prop where
  to : ∀ (s : Shared) (us ws : List Value), K.In s.heap → us.length = n → ws.length = ks.length → BindsTo s fd ⟨us, ks.zip ws⟩ (ps.zip (gI ix (us ++ ws ++ ds)))
  len : ix.length = ps.length
  lo : ∀ i ∈ ix, i < n + ks.length + ds.length
theorem gI_len {α : Type} : ∀ {ix : List Nat} {l : List α}, (∀ i ∈ ix, i < l.length) → (gI ix l).length = ix.length
  | [], _, _ => rfl
  | i :: r, l, h => by
    have h1 := h i List.mem_cons_self
    unfold gI
    rw [List.filterMap_cons, List.getElem?_eq_getElem h1]
    have := gI_len (ix := r) (l := l) fun j hj => h j (List.mem_cons_of_mem _ hj)
    unfold gI at this
    simp only [List.length_cons, this]
theorem gI_vals {xs : List V} {us : List Value} (r : Vals xs us) : ∀ ix : List Nat, Vals (gI ix xs) (gI ix us)
  | [] => .nil
  | i :: ix => by
    have ih := gI_vals r ix
    unfold gI at ih ⊢
    rw [List.filterMap_cons, List.filterMap_cons]
    cases e : xs[i]? with
    | none => rw [r.none_of e]; exact ih
    | some x =>
      obtain ⟨u, e2, q⟩ := r.get e
      rw [e2]
      exact .cons q ih
section
variable {w : Wo} {EX : XC} {M : Addr → Prop} {rho : List Addr} {H : Hp} {h : PH}
theorem VRs.noneOf {xs : List PV} {vs : List V} (r : VRs w M rho H xs vs) {i : Nat} (e : xs[i]? = none) : vs[i]? = none := by
  have := r.length
  rw [List.getElem?_eq_none_iff] at e ⊢
  omega
theorem VRs.gI {xs : List PV} {vs : List V} (r : VRs w M rho H xs vs) : ∀ ix : List Nat, VRs w M rho H (gI ix xs) (gI ix vs)
  | [] => .nil
  | i :: ix => by
    have ih := VRs.gI r ix
    unfold MC.gI at ih ⊢
    rw [List.filterMap_cons, List.filterMap_cons]
    cases e : xs[i]? with
    | none => rw [r.noneOf e]; exact ih
    | some x =>
      obtain ⟨u, e2, q⟩ := r.get e
      rw [e2]
      exact .cons q ih
end

/-- a value that can be called: n values by place, ks by name -/
structure Clb (X : Cx) (w : Wo) (EX : XC) (u : Value) (n : Nat) (ks : List Str) (op : PH → List PV → R PV) : Prop where
  kp : PySem.W.keepIn X.K u = true
  run : ∀ {pins : List (Addr × Obj)} {σ : L2.St} {H : Hp} {s : Shared} {Q : VK} {us ws : List Value} {vs zs : List V} {M : Addr → Prop} {rho : List Addr} {h : PH} {xs ys : List PV}, Inv X pins σ H s → Vals vs us → Vals zs ws → us.length = n → ws.length = ks.length →
    HR w M rho H h → VRs w M rho H xs vs → VRs w M rho H ys zs → Out w EX M rho H (op h (xs ++ ys)) (KV w Q) → wpAny (model X.prog X.w) X.A (call u us (ks.zip ws)) (EP X pins σ Q) X.xe s

section
variable {w : Wo} {EX : XC} {X : Cx} {k j : Nat} {CX : CXT} {ex : XK → XC} {f : Addr} {fd : FuncData} {ps ks : List Str} {m : MF} {E : XK} {p pos apos : Pos} {z : Str}
  {ds : List Value} {dv : List V} {dp : List PV} {n : Nat} {ix : List Nat}
/-- a def -/
theorem clb_fn (C : Cxt w k X) (F : FnM X.prog X.w w X.mg X.base CX ex k f fd ps m) (hx : Passes CX X E) (hk : PySem.W.keepIn w.K (.ref f) = true) (B : Bd w.K fd ps ks n ds ix) (hd : Vals dv ds) (hp : ∀ M rho H, VRs w M rho H dp dv) {tb : PH → List Nat → PV → PH → R PV} (T : TbOk w EX tb) :
    Clb X w EX (.ref f) n ks fun h xs => callG tb m (gI ix (xs ++ dp)) h := by
  refine ⟨by rw [C.hK]; exact hk, ?_⟩
  intro pins σ H s Q us ws vs zs M rho h xs ys I r rz lu lw hr rx ry o
  have rA : Vals (vs ++ zs ++ dv) (us ++ ws ++ ds) := (r.append rz).append hd
  have rP : VRs w M rho H (xs ++ ys ++ dp) (vs ++ zs ++ dv) := (rx.append ry).append (hp M rho H)
  have hlen : (gI ix (us ++ ws ++ ds)).length = ps.length := by
    rw [gI_len, B.len]
    intro i hi
    have := B.lo i hi
    simp only [List.length_append]; omega
  have r2 := gI_vals rA ix
  have e0 : Env0 X.prog X.w w.K X.mg X.base X.A X.stack s H := by rw [← C.hK]; exact I.env0
  obtain ⟨rho', as, hc, r3, hr3, o3⟩ := callG_ok (EX2 := ex E) T hr (rP.gI ix) o
  refine wpAny_call (codeAny_mono (F.run X.A X.stack s H ⟨us, ks.zip ws⟩ (gI ix (us ++ ws ++ ds)) (gI ix (vs ++ zs ++ dv)) Q E C.room C.grd e0 (B.to s us ws (by rw [← C.hK]; exact I.kIn) lu lw) r2 (by rw [r2.length]; exact hlen)
    ⟨M, rho', as, hc, r3, hr3, o3.imp fun v g M1 rho1 H1 st1 hr1 q V rv => ?_⟩) fun rs s' q => ?_)
  · obtain ⟨M2, rho2, u, h2, _, _, ru, kq⟩ := q V rv
    exact kq V ru
  · cases rs with
    | error e => exact hx pins σ H s e s' I q
    | ok fl =>
      cases fl with
      | ret u => exact I.after q
      | next => exact (show False from q).elim
      | brk => exact (show False from q).elim
      | cont => exact (show False from q).elim

/-- what the maker's outcome is: __init__ gives None back, the instance is the answer -/
def initM (c : Nat) (m : MF) (ix : List Nat) (dp : List PV) : MF := fun xs h => (m (gI ix (.ref h.length :: xs ++ dp)) (h ++ [.ins c []])).bind fun v g => match v with
  | .non => .ok (.ref h.length) g
  | _ => .stuck
/-- a class -/
theorem FnM.mono {P : Program} {W : World} {mg : Str → Option Value} {base : Heap} {i j : Nat} (F : FnM P W w mg base CX ex i f fd ps m) (h : i ≤ j) : FnM P W w mg base CX ex j f fd ps m :=
  ⟨fun A outer s H args us vs Q E r => F.run A outer s H args us vs Q E (r.mono h)⟩
theorem clb_cls (c : Nat) {A : Addr} (hA : w.cl c = some A) (C : Cxt w (k + 1) X) (mk : Mk w.K A f) (F : FnM X.prog X.w w X.mg X.base CX ex k f fd ps m) (hx : Passes CX X E) (B : Bd w.K fd ps ks (n + 1) ds ix) (hd : Vals dv ds) (hp : ∀ M rho H, VRs w M rho H dp dv)
    {tb : PH → List Nat → PV → PH → R PV} (T : TbOk w EX tb) : Clb X w EX (.ref A) n ks fun h xs => callG tb (initM c m ix dp) xs h := by
  refine ⟨by rw [C.hK]; exact mk.kp, ?_⟩
  intro pins σ H s Q us ws vs zs M rho h xs ys I r rz lu lw hr rx ry o
  obtain ⟨rho', as, hc, r3, hr3, o3⟩ := callG_ok (EX2 := ex E) T hr (rx.append ry) o
  have I2 := Inv.made (C := A) I
  have hx0 : H (s.heap.objs.size + 1) = none := I.hok.fresh (Nat.le_succ _)
  have hd0 : H s.heap.objs.size = none := I.hok.fresh (Nat.le_refl _)
  have hne : s.heap.objs.size ≠ s.heap.objs.size + 1 := Nat.ne_of_lt (Nat.lt_succ_self _)
  have hx1 : upd H s.heap.objs.size (.own (s.heap.objs.size + 1)) (s.heap.objs.size + 1) = none := by rw [upd_ne (Ne.symm hne)]; exact hx0
  have stA : Step M rho' H M rho' (upd H s.heap.objs.size (.own (s.heap.objs.size + 1))) := Step.grow (same_upd hd0)
  have hrA := hr3.grow (same_upd (o := .own (s.heap.objs.size + 1)) hd0)
  have stB : Step M rho' (upd H s.heap.objs.size (.own (s.heap.objs.size + 1))) (fun b => M b ∨ b = (s.heap.objs.size + 1)) (rho' ++ [(s.heap.objs.size + 1)]) (upd (upd H s.heap.objs.size (.own (s.heap.objs.size + 1))) (s.heap.objs.size + 1) (.ins A s.heap.objs.size [])) := Step.alloc hx1
  have hrB := hrA.alloc (o := .ins A s.heap.objs.size []) hx1 (po := .ins c []) ⟨A, s.heap.objs.size, [], hA, upd_same, .nil⟩
  have st2 := stA.trans stB
  have r4 := r3.step st2 hr3
  have hself : VR w (fun b => M b ∨ b = (s.heap.objs.size + 1)) (rho' ++ [(s.heap.objs.size + 1)]) (upd (upd H s.heap.objs.size (.own (s.heap.objs.size + 1))) (s.heap.objs.size + 1) (.ins A s.heap.objs.size [])) (.ref hc.length) (.ref (s.heap.objs.size + 1)) := by
    refine .ref ?_
    rw [List.getElem?_append_right (by rw [hr3.len]; exact Nat.le_refl _), hr3.len, Nat.sub_self]
    rfl
  have rP : VRs w _ _ _ (PV.ref hc.length :: as ++ dp) (V.ref (s.heap.objs.size + 1) :: (vs ++ zs) ++ dv) := (VRs.cons hself r4).append (hp _ _ _)
  have rA : Vals (V.ref (s.heap.objs.size + 1) :: (vs ++ zs) ++ dv) (Value.ref (s.heap.objs.size + 1) :: (us ++ ws) ++ ds) := (show Vals (V.ref (s.heap.objs.size + 1) :: (vs ++ zs)) (Value.ref (s.heap.objs.size + 1) :: (us ++ ws)) from .cons (show RelV (V.ref (s.heap.objs.size + 1)) (Value.ref (s.heap.objs.size + 1)) from rfl) (r.append rz)).append hd
  have eq1 : (Value.ref (s.heap.objs.size + 1) :: us) ++ ws ++ ds = Value.ref (s.heap.objs.size + 1) :: (us ++ ws) ++ ds := rfl
  have hlen : (gI ix (Value.ref (s.heap.objs.size + 1) :: (us ++ ws) ++ ds)).length = ps.length := by
    rw [gI_len, B.len]
    intro i hi
    have := B.lo i hi
    simp only [List.length_append, List.length_cons]; omega
  have rG := gI_vals rA ix
  have eE := I2.env0.make A us (ks.zip ws)
  rw [C.hK] at eE
  refine wpAny_call (make_map (f := f) (vs := us) (kw := ks.zip ws) I.kIn (by rw [C.hK]; exact mk.makes) (by rw [C.hK]; exact mk.init) (by rw [C.hK]; exact beq_iff_eq.mp mk.fn) (codeAny_mono (F.run _ X.stack _ _ ⟨Value.ref (s.heap.objs.size + 1) :: us, ks.zip ws⟩
    (gI ix (Value.ref (s.heap.objs.size + 1) :: (us ++ ws) ++ ds)) (gI ix (V.ref (s.heap.objs.size + 1) :: (vs ++ zs) ++ dv)) (fun v H2 => v = .non ∧ Q (.ref (s.heap.objs.size + 1)) H2) E (C.room.make A us (ks.zip ws)) C.grd
    eE (by rw [← eq1]; exact B.to _ _ _ (by rw [← C.hK]; exact I2.kIn) (by rw [List.length_cons, lu]) lw) rG (by rw [rG.length]; exact hlen)
    ⟨_, _, _, _, rP.gI ix, hrB, ?_⟩) fun rs s' q => ?_))
  · refine ((Out.bind o3).step st2).imp fun v g M1 rho1 H1 st1 hr1 q V rv => ?_
    cases rv <;> try exact (show False from q).elim
    refine ⟨rfl, ?_⟩
    have q2 := (show Out w (ex E) M1 rho1 H1 (.ok (PV.ref hc.length) g) _ from q).now hr1
    obtain ⟨M2, rho2, u, h2, _, _, ru, kq⟩ := q2 (V.ref (s.heap.objs.size + 1)) (hself.step st1 hrB)
    exact kq _ ru
  · cases rs with
    | error e => exact hx pins σ _ _ e s' I2 q
    | ok fl =>
      cases fl with
      | ret u =>
        obtain ⟨v, H', I3, rv, ev, q3⟩ := I2.after q
        subst ev
        exact ⟨rv, ⟨V.ref (s.heap.objs.size + 1), H', I3, rfl, q3⟩⟩
      | next => exact (show False from q).elim
      | brk => exact (show False from q).elim
      | cont => exact (show False from q).elim
end
end MC

end
section
set_option maxRecDepth 100000
set_option maxHeartbeats 4000000
namespace MC
open PySem PySem.Spec PyProof.Rows L2

abbrev OC := PH → List PV → R PV
def mCl (op : OC) (n j : Nat) (ma mk : MA) : ME := fun env h => (ma env h).bind fun xs h1 => (mk env h1).bind fun ys h2 => bif xs.length == n && ys.length == j then op h2 (xs ++ ys) else .stuck
def mCl0 (op : OC) (n : Nat) (ma : MA) : ME := fun env h => (ma env h).bind fun xs h1 => bif xs.length == n then op h1 xs else .stuck
def mBt (op : OC) (ma : MA) : ME := fun env h => (ma env h).bind fun xs h1 => op h1 xs
section
variable {w : Wo} {EX : XC} {X : Cx} {k n : Nat} {u : Value} {ks : List Str} {op : OC} {x m : Str} {p pos apos kpos : Pos} {e o : Expr} {es : List Expr} {kws : List Keyword} {ma mk : MA} {me : ME} {nm : Option Str}
theorem PK.imp {t t' : TA} (p : PK X kws t) (i : ∀ σ H Q, t' σ H Q → t σ H Q) : PK X kws t' := ⟨fun ps pins s σ H Q I h => p.run ps pins s σ H Q I (i σ H Q h)⟩
theorem mk_nil : PK X [] (tA w EX maNil) := by
  refine PK.imp pk_nil fun σ H Q h => ?_
  obtain ⟨M, rho, env, hh, er, hr, o⟩ := h
  exact o.now hr [] .nil
theorem mk_cons (ha : PE X e (tM w EX me)) (hb : PK X kws (tA w EX mk)) : PK X (⟨nm, e, kpos⟩ :: kws) (tA w EX (maCons me mk)) := by
  refine PK.imp (pk_cons ha hb) fun σ H Q h => ?_
  obtain ⟨M, rho, env, hh, er, hr, o⟩ := h
  refine tM.of er hr o.bind fun x h1 M1 rho1 H1 v st1 er1 hr1 o1 rv => ?_
  refine ⟨M1, rho1, env, h1, er1, hr1, (Out.bind o1).imp fun ys h2 M2 rho2 H2 st2 hr2 o2 us rs => ?_⟩
  exact o2.now hr2 (v :: us) (.cons (rv.step st2 hr1) rs)

/-- the callee's reading behind the arguments -/
theorem clb_at (B : Clb X w EX u n ks op) {pins : List (Addr × Obj)} {σ : L2.St} {H : Hp} {s : Shared} {Q : VK} {us : List Value} {vs : List V} {M : Addr → Prop} {rho : List Addr} {h : PH} {xs : List PV} (hks : ks = []) (I : Inv X pins σ H s) (r : Vals vs us)
    (hr : HR w M rho H h) (rx : VRs w M rho H xs vs) (o : Out w EX M rho H (bif xs.length == n then op h xs else .stuck) (KV w Q)) : wpAny (model X.prog X.w) X.A (call u us) (EP X pins σ Q) X.xe s := by
  subst hks
  obtain ⟨hl, o⟩ := Out.bif o
  have hl := beq_iff_eq.mp hl
  have := B.run (ws := []) (zs := []) (ys := []) I r .nil (by rw [← r.length, rx.length]; exact hl) rfl hr rx .nil (by rw [List.append_nil]; exact o)
  exact this
/-- f(e, ..) -/
theorem me_call (B : Clb X w EX u n [] op) (hg : Gl X x) (hm : X.mg x = some u) (ha : PA X (e :: es) (tA w EX ma)) (hdb : (x == ("__debug__" : Str)) = false := by decide)
    (he : starEach (e :: es) X.env = (false, eval e X.env) :: starEach es X.env := by rfl) (hpl : (backTo pos (starEach es X.env)).any (·.1) = false := by rfl) : PE X (.Call (.Name x p) (e :: es) [] pos) (tM w EX (mCl0 op n ma)) := by
  refine ⟨fun pins s σ H Q I h => ?_⟩
  refine wpAny_Call_Name_kw (ld_glob I hg hm ?_ hdb)
  obtain ⟨M, rho, env, hh, er, hr, o⟩ := h
  refine PySem.W.callWith_K (h₀ := X.base) I.ok.mod.kin B.kp (thn (ha.run pos pins s σ H _ I (tA.of er hr (Out.bind o) fun xs h1 M1 rho1 H1 vs st1 er1 hr1 o1 rs => (⟨M1, rho1, h1, xs, hr1, rs, o1⟩ : ∃ M1 rho1 h1 xs, HR w M1 rho1 H1 h1 ∧ VRs w M1 rho1 H1 xs vs ∧ Out w EX M1 rho1 H1 (bif xs.length == n then op h1 xs else .stuck) (KV w Q)))) fun us s1 ⟨vs, H1, I1, r, q⟩ => ⟨I1.kIn, ?_⟩) he hpl
  obtain ⟨M1, rho1, h1, xs, hr1, rs, o1⟩ := q
  exact clb_at B rfl I1 r hr1 rs o1
/-- f() -/
theorem me_call0 (B : Clb X w EX u 0 [] op) (hg : Gl X x) (hm : X.mg x = some u) (hdb : (x == ("__debug__" : Str)) = false := by decide) : PE X (.Call (.Name x p) [] [] pos) (tM w EX (mCl0 op 0 maNil)) := by
  refine ⟨fun pins s σ H Q I h => ?_⟩
  refine wpAny_Call_Name_kw (ld_glob I hg hm ?_ hdb)
  obtain ⟨M, rho, env, hh, er, hr, o⟩ := h
  exact PySem.W.callWith_K0 I.kIn B.kp (clb_at (us := []) B rfl I .nil hr .nil o)
theorem clb_kw (B : Clb X w EX u n ks op) {pins : List (Addr × Obj)} {σ : L2.St} {H : Hp} {s : Shared} {Q : VK} {us ws : List Value} {vs zs : List V} {M : Addr → Prop} {rho : List Addr} {h : PH} {xs ys : List PV} (I : Inv X pins σ H s) (r : Vals vs us) (rz : Vals zs ws)
    (hr : HR w M rho H h) (rx : VRs w M rho H xs vs) (ry : VRs w M rho H ys zs) (o : Out w EX M rho H (bif xs.length == n && ys.length == ks.length then op h (xs ++ ys) else .stuck) (KV w Q)) : wpAny (model X.prog X.w) X.A (call u us (ks.zip ws)) (EP X pins σ Q) X.xe s := by
  obtain ⟨hl, o⟩ := Out.bif o
  rw [Bool.and_eq_true] at hl
  exact B.run I r rz (by rw [← r.length, rx.length]; exact beq_iff_eq.mp hl.1) (by rw [← rz.length, ry.length]; exact beq_iff_eq.mp hl.2) hr rx ry o
/-- f(e, .., k = v, ..) -/
theorem me_callK (B : Clb X w EX u n ks op) (hg : Gl X x) (hm : X.mg x = some u) (ha : PA X (e :: es) (tA w EX ma)) (hkw : PK X kws (tA w EX mk)) (j : Nat) (hj : ks.length = j := by rfl) (hall : (backToKw pos (keywordEach kws X.env)).all (·.1.isSome) = true := by rfl) (hks : (backToKw pos (keywordEach kws X.env)).filterMap (·.1) = ks := by rfl)
    (hdb : (x == ("__debug__" : Str)) = false := by decide) (he : starEach (e :: es) X.env = (false, eval e X.env) :: starEach es X.env := by rfl)
    (hpl : ((backTo pos (starEach (e :: es) X.env)).any (·.1) || (backToKw pos (keywordEach kws X.env)).any (·.1.isNone)) = false := by rfl) : PE X (.Call (.Name x p) (e :: es) kws pos) (tM w EX (mCl op n j ma mk)) := by
  subst hj
  refine ⟨fun pins s σ H Q I h => ?_⟩
  refine wpAny_Call_Name_kw (ld_glob I hg hm ?_ hdb)
  obtain ⟨M, rho, env, hh, er, hr, o⟩ := h
  refine PySem.W.callWith_KW (h₀ := X.base) I.ok.mod.kin B.kp hall (thn (ha.run pos pins s σ H _ I (tA.of er hr (Out.bind o) fun xs h1 M1 rho1 H1 vs st1 er1 hr1 o1 rs =>
    (⟨M1, rho1, env, h1, xs, er1, hr1, rs, o1⟩ : ∃ M1 rho1 env h1 xs, ER w M1 rho1 H1 env σ ∧ HR w M1 rho1 H1 h1 ∧ VRs w M1 rho1 H1 xs vs ∧ Out w EX M1 rho1 H1 ((mk env h1).bind fun ys h2 => bif xs.length == n && ys.length == ks.length then op h2 (xs ++ ys) else .stuck) (KV w Q)))) fun us s1 ⟨vs, H1, I1, r, q⟩ => ?_) hpl he
  obtain ⟨M1, rho1, env, h1, xs, er1, hr1, rs, o1⟩ := q
  refine thn (hkw.run pos pins s1 σ H1 _ I1 (tA.of er1 hr1 (Out.bind o1) fun ys h2 M2 rho2 H2 zs st2 er2 hr2 o2 ry =>
    (⟨M2, rho2, h2, ys, hr2, rs.step st2 hr1, ry, o2⟩ : ∃ M2 rho2 h2 ys, HR w M2 rho2 H2 h2 ∧ VRs w M2 rho2 H2 xs vs ∧ VRs w M2 rho2 H2 ys zs ∧ Out w EX M2 rho2 H2 (bif xs.length == n && ys.length == ks.length then op h2 (xs ++ ys) else .stuck) (KV w Q)))) fun ws s2 ⟨zs, H2, I2, rz, q2⟩ => ⟨I2.kIn, ?_⟩
  rw [hks]
  obtain ⟨M2, rho2, h2, ys, hr2, rx2, ry2, o2⟩ := q2
  exact clb_kw B I2 r rz hr2 rx2 ry2 o2
/-- f(k = v, ..) -/
theorem me_callK0 (B : Clb X w EX u 0 ks op) (hg : Gl X x) (hm : X.mg x = some u) (hkw : PK X kws (tA w EX mk)) (j : Nat) (hj : ks.length = j := by rfl) (hall : (backToKw pos (keywordEach kws X.env)).all (·.1.isSome) = true := by rfl) (hks : (backToKw pos (keywordEach kws X.env)).filterMap (·.1) = ks := by rfl)
    (hdb : (x == ("__debug__" : Str)) = false := by decide)
    (hpl : ((backTo pos (starEach [] X.env)).any (·.1) || (backToKw pos (keywordEach kws X.env)).any (·.1.isNone)) = false := by rfl) : PE X (.Call (.Name x p) [] kws pos) (tM w EX (mCl op 0 j maNil mk)) := by
  subst hj
  refine ⟨fun pins s σ H Q I h => ?_⟩
  refine wpAny_Call_Name_kw (ld_glob I hg hm ?_ hdb)
  obtain ⟨M, rho, env, hh, er, hr, o⟩ := h
  have o1 : Out w EX M rho H ((mk env hh).bind fun ys h2 => bif ([] : List PV).length == 0 && ys.length == ks.length then op h2 ([] ++ ys) else .stuck) (KV w Q) := o
  refine PySem.W.callWith_KW0 (h₀ := X.base) (first := []) I.ok.mod.kin B.kp hall (thn (hkw.run pos pins s σ H _ I (tA.of er hr (Out.bind o1) fun ys h2 M2 rho2 H2 zs st2 er2 hr2 o2 ry =>
    (⟨M2, rho2, h2, ys, hr2, ry, o2⟩ : ∃ M2 rho2 h2 ys, HR w M2 rho2 H2 h2 ∧ VRs w M2 rho2 H2 ys zs ∧ Out w EX M2 rho2 H2 (bif ([] : List PV).length == 0 && ys.length == ks.length then op h2 ([] ++ ys) else .stuck) (KV w Q)))) fun ws s2 ⟨zs, H2, I2, rz, q2⟩ => ⟨I2.kIn, ?_⟩) hpl
  rw [hks]
  obtain ⟨M2, rho2, h2, ys, hr2, ry2, o2⟩ := q2
  exact clb_kw (us := []) (vs := []) B I2 .nil rz hr2 .nil ry2 o2
/-- b(e, ..), b a builtin -/
theorem me_blt {id : String} (hc : CallR X (.builtin id) (rA w EX op)) (hg : Gl X x) (hm : X.mg x = none) (hv : bootBuiltins x = some (.builtin id)) (ha : PA X (e :: es) (tA w EX ma)) (hn : x ≠ "__name__" := by decide) (hdb : (x == ("__debug__" : Str)) = false := by decide)
    (he : starEach (e :: es) X.env = (false, eval e X.env) :: starEach es X.env := by rfl) (hpl : (backTo pos (starEach es X.env)).any (·.1) = false := by rfl) : PE X (.Call (.Name x p) (e :: es) [] pos) (tM w EX (mBt op ma)) := by
  refine PE.imp (pe_callB hc hg hm hv ha hn hdb he hpl) fun σ H Q h => ?_
  obtain ⟨M, rho, env, hh, er, hr, o⟩ := h
  exact tA.of er hr (Out.bind o) fun xs h1 M1 rho1 H1 vs st1 er1 hr1 o1 rs => ⟨M1, rho1, h1, xs, hr1, rs, o1⟩
/-- T(e, ..), T a builtin type -/
theorem me_ty {T : String} (hc : CallR X (.type T) (rA w EX op)) (hg : Gl X x) (hm : X.mg x = none) (hv : bootBuiltins x = some (.type T)) (ha : PA X (e :: es) (tA w EX ma)) (hn : x ≠ "__name__" := by decide) (hdb : (x == ("__debug__" : Str)) = false := by decide)
    (he : starEach (e :: es) X.env = (false, eval e X.env) :: starEach es X.env := by rfl) (hpl : (backTo pos (starEach es X.env)).any (·.1) = false := by rfl) : PE X (.Call (.Name x p) (e :: es) [] pos) (tM w EX (mBt op ma)) := by
  refine PE.imp (pe_callTy hc hg hm hv ha hn hdb he hpl) fun σ H Q h => ?_
  obtain ⟨M, rho, env, hh, er, hr, o⟩ := h
  exact tA.of er hr (Out.bind o) fun xs h1 M1 rho1 H1 vs st1 er1 hr1 o1 rs => ⟨M1, rho1, h1, xs, hr1, rs, o1⟩
end

/-- o.m(..), o of the class number c, m no field of it -/
def mMe (c : Nat) (m : Nm) (op : OC) (n : Nat) (mo : ME) (ma : MA) : ME := fun env h => (mo env h).bind fun x h1 => match fldsOf h1 x with
  | some (d, fs) => bif d == c && (lookF m fs).isNone then (ma env h1).bind fun xs h2 => bif (x :: xs).length == n then op h2 (x :: xs) else .stuck else .stuck
  | none => .stuck
theorem lookF_none {w : Wo} {M : Addr → Prop} {rho : List Addr} {H : Hp} {m : Nm} : ∀ {fs : List (Nm × PV)} {gs : List (Str × V)}, FRs w M rho H fs gs → lookF m fs = none → gs.lookup (nmS m) = none
  | _, _, .nil, _ => rfl
  | _, _, .cons (k := j) a b, e => by
    unfold lookF at e
    cases q : j == m with
    | true => rw [q, cond_true] at e; cases e
    | false =>
      rw [q, cond_false] at e
      have ne : (nmS m == nmS j) = false := beq_eq_false_iff_ne.mpr fun z => beq_eq_false_iff_ne.mp q (S_inj z).symm
      rw [List.lookup_cons, ne]
      exact lookF_none b e
section
variable {w : Wo} {EX : XC} {X : Cx} {k n c : Nat} {f A : Addr} {op : OC} {m : Nm} {pos apos : Pos} {e o : Expr} {es : List Expr} {ma : MA} {mo : ME} {pl : Sem Bool}
theorem me_meth (C : Cxt w k X) (c : Nat) (hA : w.cl c = some A) (hc : Cls w.K A) (hm : Meth w.K A (nmS m) f) (B : Clb X w EX (.ref f) n [] op) (ho : PE X o (tM w EX mo)) (ha : PA X (e :: es) (tA w EX ma))
    (hst : starEach (e :: es) X.env = (false, eval e X.env) :: starEach es X.env := by rfl) (hpl : (backTo pos (starEach es X.env)).any (·.1) = false := by rfl)
    (ht : eval (.Call (.Attribute o (nmS m) apos) (e :: es) [] pos) X.env = (do
      let ov ← eval o X.env
      standAt apos.atName
      let (f, first) ← holding [ov] (getMethod ov (nmS m) pl)
      callWith pos f first (backTo pos (starEach (e :: es) X.env)) (backToKw pos (keywordEach [] X.env))) := by rfl) :
    PE X (.Call (.Attribute o (nmS m) apos) (e :: es) [] pos) (tM w EX (mMe c m op n mo ma)) := by
  refine ⟨fun pins s σ H Q I h => ?_⟩
  obtain ⟨M, rho, env, hh, er, hr, oo⟩ := h
  refine PySem.W.methodCall_KW (pl := pl) (thn (ho.run pins s σ H (fun v H1 => ∃ M1 rho1 h1 x, ER w M1 rho1 H1 env σ ∧ HR w M1 rho1 H1 h1 ∧ VR w M1 rho1 H1 x v ∧ Out w EX M1 rho1 H1 (match fldsOf h1 x with
    | some (d, fs) => bif d == c && (lookF m fs).isNone then (ma env h1).bind fun xs h2 => bif (x :: xs).length == n then op h2 (x :: xs) else .stuck else .stuck
    | none => .stuck) (KV w Q)) I (tM.of er hr (Out.bind oo) fun x h1 M1 rho1 H1 v st1 er1 hr1 o1 rv => ⟨M1, rho1, h1, x, er1, hr1, rv, o1⟩)) fun u s1 hh1 => ?_) ht
  obtain ⟨v, H1, I1, rx, M1, rho1, h1, x, er1, hr1, rv, o1⟩ := hh1
  split at o1
  · rename_i d fs ef
    obtain ⟨hq, oB⟩ := Out.bif o1
    rw [Bool.and_eq_true] at hq
    obtain ⟨a, D, dx, gs, rfl, q1, q2, q3⟩ := flds_ok hr1 rv ef
    have hd := beq_iff_eq.mp hq.1
    subst hd
    rw [hA] at q1
    cases q1
    obtain rfl : u = Value.ref a := rx
    refine getmeth_ok I1 q2 (by rw [C.hK]; exact hc) (by rw [C.hK]; exact hm) (lookF_none q3 (Option.isNone_iff_eq_none.mp hq.2)) ?_
    refine PySem.W.callWith_K (first := [.ref a]) (h₀ := X.base) I.ok.mod.kin B.kp (thn (ha.run pos pins s1 σ H1 _ I1 (tA.of er1 hr1 (Out.bind oB) fun xs h2 M2 rho2 H2 vs st2 er2 hr2 o2 rs =>
      (⟨M2, rho2, h2, xs, hr2, rv.step st2 hr1, rs, o2⟩ : ∃ M2 rho2 h2 xs, HR w M2 rho2 H2 h2 ∧ VR w M2 rho2 H2 x (.ref a) ∧ VRs w M2 rho2 H2 xs vs ∧ Out w EX M2 rho2 H2 (bif (x :: xs).length == n then op h2 (x :: xs) else .stuck) (KV w Q)))) fun us s2 ⟨vs, H2, I2, r, q⟩ => ⟨I2.kIn, ?_⟩) hst hpl
    obtain ⟨M2, rho2, h2, xs, hr2, rx2, rs, o2⟩ := q
    exact clb_at (us := .ref a :: us) (vs := .ref a :: vs) B rfl I2 (.cons (show RelV (V.ref a) (Value.ref a) from rfl) r) hr2 (.cons rx2 rs) o2
  · exact (show False from o1).elim
theorem me_meth0 (C : Cxt w k X) (c : Nat) (hA : w.cl c = some A) (hc : Cls w.K A) (hm : Meth w.K A (nmS m) f) (B : Clb X w EX (.ref f) 1 [] op) (ho : PE X o (tM w EX mo))
    (ht : eval (.Call (.Attribute o (nmS m) apos) [] [] pos) X.env = (do
      let ov ← eval o X.env
      standAt apos.atName
      let (f, first) ← holding [ov] (getMethod ov (nmS m) pl)
      callWith pos f first (backTo pos (starEach [] X.env)) (backToKw pos (keywordEach [] X.env))) := by rfl) :
    PE X (.Call (.Attribute o (nmS m) apos) [] [] pos) (tM w EX (mMe c m op 1 mo maNil)) := by
  refine ⟨fun pins s σ H Q I h => ?_⟩
  obtain ⟨M, rho, env, hh, er, hr, oo⟩ := h
  refine PySem.W.methodCall_KW (pl := pl) (thn (ho.run pins s σ H (fun v H1 => ∃ M1 rho1 h1 x, ER w M1 rho1 H1 env σ ∧ HR w M1 rho1 H1 h1 ∧ VR w M1 rho1 H1 x v ∧ Out w EX M1 rho1 H1 (match fldsOf h1 x with
    | some (d, fs) => bif d == c && (lookF m fs).isNone then (maNil env h1).bind fun xs h2 => bif (x :: xs).length == 1 then op h2 (x :: xs) else .stuck else .stuck
    | none => .stuck) (KV w Q)) I (tM.of er hr (Out.bind oo) fun x h1 M1 rho1 H1 v st1 er1 hr1 o1 rv => ⟨M1, rho1, h1, x, er1, hr1, rv, o1⟩)) fun u s1 hh1 => ?_) ht
  obtain ⟨v, H1, I1, rx, M1, rho1, h1, x, er1, hr1, rv, o1⟩ := hh1
  split at o1
  · rename_i d fs ef
    obtain ⟨hq, oB⟩ := Out.bif o1
    rw [Bool.and_eq_true] at hq
    obtain ⟨a, D, dx, gs, rfl, q1, q2, q3⟩ := flds_ok hr1 rv ef
    have hd := beq_iff_eq.mp hq.1
    subst hd
    rw [hA] at q1
    cases q1
    obtain rfl : u = Value.ref a := rx
    refine getmeth_ok I1 q2 (by rw [C.hK]; exact hc) (by rw [C.hK]; exact hm) (lookF_none q3 (Option.isNone_iff_eq_none.mp hq.2)) ?_
    exact PySem.W.callWith_K0 (first := [.ref a]) I1.kIn B.kp (clb_at (us := [.ref a]) (vs := [.ref a]) (xs := [x]) B rfl I1 (.cons (show RelV (V.ref a) (Value.ref a) from rfl) .nil) hr1 (.cons rv .nil) oB)
  · exact (show False from o1).elim
end
end MC

end
section
set_option maxRecDepth 100000
set_option maxHeartbeats 4000000
namespace MC
open PySem PySem.Spec PyProof.Rows L2

mutual
def beqV : PV → PV → Bool
  | .non, .non => true
  | .bl a, .bl b => a == b
  | .int a, .int b => a == b
  | .str a, .str b => a == b
  | .tup a, .tup b => beqVs a b
  | .scr a, .scr b => beqVs a b
  | .rdic a, .rdic b => beqK a b
  | .ins c a, .ins d b => c == d && beqF a b
  | .ref a, .ref b => a == b
  | .gl a, .gl b => a == b
  | _, _ => false
def beqVs : List PV → List PV → Bool
  | [], [] => true
  | x :: xs, y :: ys => beqV x y && beqVs xs ys
  | _, _ => false
def beqK : List (PV × PV) → List (PV × PV) → Bool
  | [], [] => true
  | (a, x) :: xs, (b, y) :: ys => beqV a b && (beqV x y && beqK xs ys)
  | _, _ => false
def beqF : List (Nm × PV) → List (Nm × PV) → Bool
  | [], [] => true
  | (a, x) :: xs, (b, y) :: ys => a == b && (beqV x y && beqF xs ys)
  | _, _ => false
end
mutual
theorem beqV_rf : ∀ x : PV, beqV x x = true
  | .non => by unfold beqV; rfl
  | .bl b => by unfold beqV; simp
  | .int i => by unfold beqV; simp
  | .str s => by unfold beqV; simp
  | .tup xs => by unfold beqV; exact beqVs_rf xs
  | .scr xs => by unfold beqV; exact beqVs_rf xs
  | .rdic xs => by unfold beqV; exact beqK_rf xs
  | .ins c fs => by unfold beqV; simp [beqF_rf fs]
  | .ref n => by unfold beqV; simp
  | .gl n => by unfold beqV; simp
theorem beqVs_rf : ∀ x : List PV, beqVs x x = true
  | [] => by unfold beqVs; rfl
  | x :: xs => by unfold beqVs; simp [beqV_rf x, beqVs_rf xs]
theorem beqK_rf : ∀ x : List (PV × PV), beqK x x = true
  | [] => by unfold beqK; rfl
  | (a, x) :: xs => by unfold beqK; simp [beqV_rf a, beqV_rf x, beqK_rf xs]
theorem beqF_rf : ∀ x : List (Nm × PV), beqF x x = true
  | [] => by unfold beqF; rfl
  | (a, x) :: xs => by unfold beqF; simp [beqV_rf x, beqF_rf xs]
end
mutual
theorem beqV_ok : ∀ {x y : PV}, beqV x y = true → x = y
  | .non, .non, _ => rfl
  | .bl a, .bl b, h => by unfold beqV at h; rw [beq_iff_eq.mp h]
  | .int a, .int b, h => by unfold beqV at h; rw [beq_iff_eq.mp h]
  | .str a, .str b, h => by unfold beqV at h; rw [beq_iff_eq.mp h]
  | .tup a, .tup b, h => by unfold beqV at h; rw [beqVs_ok h]
  | .scr a, .scr b, h => by unfold beqV at h; rw [beqVs_ok h]
  | .rdic a, .rdic b, h => by unfold beqV at h; rw [beqK_ok h]
  | .ins c a, .ins d b, h => by unfold beqV at h; rw [Bool.and_eq_true] at h; rw [beq_iff_eq.mp h.1, beqF_ok h.2]
  | .ref a, .ref b, h => by unfold beqV at h; rw [beq_iff_eq.mp h]
  | .gl a, .gl b, h => by unfold beqV at h; rw [beq_iff_eq.mp h]
  | .non, .bl _, h | .non, .int _, h | .non, .str _, h | .non, .tup _, h | .non, .scr _, h | .non, .rdic _, h | .non, .ins _ _, h | .non, .ref _, h | .non, .gl _, h => by unfold beqV at h; cases h
  | .bl _, .non, h | .bl _, .int _, h | .bl _, .str _, h | .bl _, .tup _, h | .bl _, .scr _, h | .bl _, .rdic _, h | .bl _, .ins _ _, h | .bl _, .ref _, h | .bl _, .gl _, h => by unfold beqV at h; cases h
  | .int _, .non, h | .int _, .bl _, h | .int _, .str _, h | .int _, .tup _, h | .int _, .scr _, h | .int _, .rdic _, h | .int _, .ins _ _, h | .int _, .ref _, h | .int _, .gl _, h => by unfold beqV at h; cases h
  | .str _, .non, h | .str _, .bl _, h | .str _, .int _, h | .str _, .tup _, h | .str _, .scr _, h | .str _, .rdic _, h | .str _, .ins _ _, h | .str _, .ref _, h | .str _, .gl _, h => by unfold beqV at h; cases h
  | .tup _, .non, h | .tup _, .bl _, h | .tup _, .int _, h | .tup _, .str _, h | .tup _, .scr _, h | .tup _, .rdic _, h | .tup _, .ins _ _, h | .tup _, .ref _, h | .tup _, .gl _, h => by unfold beqV at h; cases h
  | .scr _, .non, h | .scr _, .bl _, h | .scr _, .int _, h | .scr _, .str _, h | .scr _, .tup _, h | .scr _, .rdic _, h | .scr _, .ins _ _, h | .scr _, .ref _, h | .scr _, .gl _, h => by unfold beqV at h; cases h
  | .rdic _, .non, h | .rdic _, .bl _, h | .rdic _, .int _, h | .rdic _, .str _, h | .rdic _, .tup _, h | .rdic _, .scr _, h | .rdic _, .ins _ _, h | .rdic _, .ref _, h | .rdic _, .gl _, h => by unfold beqV at h; cases h
  | .ins _ _, .non, h | .ins _ _, .bl _, h | .ins _ _, .int _, h | .ins _ _, .str _, h | .ins _ _, .tup _, h | .ins _ _, .scr _, h | .ins _ _, .rdic _, h | .ins _ _, .ref _, h | .ins _ _, .gl _, h => by unfold beqV at h; cases h
  | .ref _, .non, h | .ref _, .bl _, h | .ref _, .int _, h | .ref _, .str _, h | .ref _, .tup _, h | .ref _, .scr _, h | .ref _, .rdic _, h | .ref _, .ins _ _, h | .ref _, .gl _, h => by unfold beqV at h; cases h
  | .gl _, .non, h | .gl _, .bl _, h | .gl _, .int _, h | .gl _, .str _, h | .gl _, .tup _, h | .gl _, .scr _, h | .gl _, .rdic _, h | .gl _, .ins _ _, h | .gl _, .ref _, h => by unfold beqV at h; cases h
theorem beqVs_ok : ∀ {x y : List PV}, beqVs x y = true → x = y
  | [], [], _ => rfl
  | x :: xs, y :: ys, h => by unfold beqVs at h; rw [Bool.and_eq_true] at h; rw [beqV_ok h.1, beqVs_ok h.2]
  | [], _ :: _, h | _ :: _, [], h => by unfold beqVs at h; cases h
theorem beqK_ok : ∀ {x y : List (PV × PV)}, beqK x y = true → x = y
  | [], [], _ => rfl
  | (a, x) :: xs, (b, y) :: ys, h => by unfold beqK at h; rw [Bool.and_eq_true, Bool.and_eq_true] at h; rw [beqV_ok h.1, beqV_ok h.2.1, beqK_ok h.2.2]
  | [], _ :: _, h | _ :: _, [], h => by unfold beqK at h; cases h
theorem beqF_ok : ∀ {x y : List (Nm × PV)}, beqF x y = true → x = y
  | [], [], _ => rfl
  | (a, x) :: xs, (b, y) :: ys, h => by unfold beqF at h; rw [Bool.and_eq_true, Bool.and_eq_true] at h; rw [beq_iff_eq.mp h.1, beqV_ok h.2.1, beqF_ok h.2.2]
  | [], _ :: _, h | _ :: _, [], h => by unfold beqF at h; cases h
end

/-- objects that must stand as they stood -/
abbrev Wt := List (Nat × List PV)
def watch : Wt → PH → Bool
  | [], _ => true
  | (n, xs) :: r, h => (match h[n]? with
    | some (.lst ys) => beqVs xs ys
    | _ => false) && watch r h
structure Gives (w : Wo) (M : Addr → Prop) (rho : List Addr) (H : Hp) (xs : List PV) (wt : Wt) (J : It) : Prop where
  to : ∀ {M1 : Addr → Prop} {rho1 : List Addr} {H1 : Hp} {h1 : PH}, Step M rho H M1 rho1 H1 → HR w M1 rho1 H1 h1 → watch wt h1 = true → ∀ i,
    (i < xs.length → J.go i H1) ∧ (i = xs.length → J.stop i H1) ∧ ∀ v H', i < xs.length → J.yld i H1 v H' → (∀ b o, H1 b = some o → H' b = some o) ∧ ∃ x, xs[i]? = some x ∧ VR w M1 rho1 H' x v
abbrev MI := En → PH → R (List PV × Wt)
def KI (w : Wo) (Q : It → Hp → Prop) : KC (List PV × Wt) := fun p _ M rho H => ∀ J, Gives w M rho H p.1 p.2 J → Q J H
def tI (w : Wo) (EX : XC) (m : MI) : TI := fun σ H Q => ∃ M rho env h, ER w M rho H env σ ∧ HR w M rho H h ∧ Out w EX M rho H (m env h) (KI w Q)
theorem PI.imp {X : Cx} {tg e : Expr} {t t' : TI} (p : PI X tg e t) (i : ∀ σ H Q, t' σ H Q → t σ H Q) : PI X tg e t' := ⟨fun pins s σ H Q I h => p.run pins s σ H Q I (i σ H Q h)⟩

section
variable {w : Wo} {M M1 : Addr → Prop} {rho rho1 : List Addr} {H H1 : Hp} {h h1 : PH}
theorem gives_list {xs : List PV} {a : Addr} (hs : ∀ {M1 : Addr → Prop} {rho1 : List Addr} {H1 : Hp} {h1 : PH}, Step M rho H M1 rho1 H1 → HR w M1 rho1 H1 h1 → watch wt h1 = true → ∃ vs, SqL w.K H1 a vs ∧ VRs w M1 rho1 H1 xs vs) : Gives w M rho H xs wt (Itl w.K a) := by
  refine ⟨fun {M1 rho1 H1 h1} st hr hw i => ?_⟩
  obtain ⟨vs, q, rv⟩ := hs st hr hw
  have W := walk_list (K := w.K) (a := a) (xs := vs)
  rw [rv.length] at W
  refine ⟨fun hi => W.goes i H1 hi q, fun hi => by subst hi; exact W.stops H1 q, fun v H' hi y => ?_⟩
  obtain ⟨e, ey⟩ := W.yields i H1 v H' hi q y
  subst e
  obtain ⟨x, hx⟩ : ∃ x, xs[i]? = some x := ⟨_, List.getElem?_eq_getElem hi⟩
  obtain ⟨v', e1, r1⟩ := rv.get hx
  rw [ey] at e1
  cases e1
  exact ⟨fun _ _ e => e, x, hx, r1⟩
theorem gives_tup {xs : List PV} {a : Addr} {vs : List V} (hr0 : HR w M rho H h) (q : SqT w.K H a vs) (rv : VRs w M rho H xs vs) : Gives w M rho H xs [] (Itt w.K a) := by
  refine ⟨fun {M1 rho1 H1 h1} st hr hw i => ?_⟩
  have q := st.sqT hr0 q
  have rv := rv.step st hr0
  have W := walk_tup (K := w.K) (a := a) (xs := vs)
  rw [rv.length] at W
  refine ⟨fun hi => W.goes i H1 hi q, fun hi => by subst hi; exact W.stops H1 q, fun v H' hi y => ?_⟩
  obtain ⟨e, ey⟩ := W.yields i H1 v H' hi q y
  subst e
  obtain ⟨x, hx⟩ : ∃ x, xs[i]? = some x := ⟨_, List.getElem?_eq_getElem hi⟩
  obtain ⟨v', e1, r1⟩ := rv.get hx
  rw [ey] at e1
  cases e1
  exact ⟨fun _ _ e => e, x, hx, r1⟩
def signsOf (s : List Nat) : List PV := s.map fun c => .str [c]
theorem gives_str (s : List Nat) : Gives w M rho H (signsOf s) [] (Its ⟨s.toArray⟩) := by
  refine ⟨fun {M1 rho1 H1 h1} st hr hw i => ?_⟩
  have W := walk_str (z := ⟨s.toArray⟩)
  have e0 : (signsOf s).length = s.length := by unfold signsOf; rw [List.length_map]
  have e1 : (⟨s.toArray⟩ : Str).cps.size = s.length := by simp
  rw [e1] at W
  rw [e0]
  refine ⟨fun hi => W.goes i H1 hi True.intro, fun hi => by subst hi; exact W.stops H1 True.intro, fun v H' hi y => ?_⟩
  obtain ⟨e, c, ey, ev⟩ := W.yields i H1 v H' hi True.intro y
  subst e; subst ev
  have ey : s[i]? = some c := by simpa using ey
  refine ⟨fun _ _ e => e, .str [c], by unfold signsOf; rw [List.getElem?_map, ey]; rfl, .str [c]⟩
def seqI (lo : Int) (n : Nat) : List PV := (List.range n).map fun i => .int (lo + (i : Nat))
theorem gives_rng (lo : Int) (n : Nat) : Gives w M rho H (seqI lo n) [] (Itr lo n) := by
  refine ⟨fun {M1 rho1 H1 h1} st hr hw i => ?_⟩
  have W := walk_range (lo := lo) (n := n)
  have e0 : (seqI lo n).length = n := by unfold seqI; rw [List.length_map, List.length_range]
  rw [e0]
  refine ⟨fun hi => W.goes i H1 hi True.intro, fun hi => by subst hi; exact W.stops H1 True.intro, fun v H' hi y => ?_⟩
  obtain ⟨e, ev⟩ := W.yields i H1 v H' hi True.intro y
  subst e; subst ev
  exact ⟨fun _ _ e => e, _, by unfold seqI; rw [List.getElem?_map, List.getElem?_range hi]; rfl, .int _⟩
def seqC (lo c : Int) (n : Nat) : List PV := (List.range n).map fun i => .int (lo + (i : Nat) * c)
theorem gives_rngC (lo c : Int) (n : Nat) : Gives w M rho H (seqC lo c n) [] (Itc lo c n) := by
  refine ⟨fun {M1 rho1 H1 h1} st hr hw i => ?_⟩
  have W := walk_rangeC (lo := lo) (c := c) (n := n)
  have e0 : (seqC lo c n).length = n := by unfold seqC; rw [List.length_map, List.length_range]
  rw [e0]
  refine ⟨fun hi => W.goes i H1 hi True.intro, fun hi => by subst hi; exact W.stops H1 True.intro, fun v H' hi y => ?_⟩
  obtain ⟨e, ev⟩ := W.yields i H1 v H' hi True.intro y
  subst e; subst ev
  exact ⟨fun _ _ e => e, _, by unfold seqC; rw [List.getElem?_map, List.getElem?_range hi]; rfl, .int _⟩
theorem KRs.at {ks : List (PV × PV)} {gs : List (Key × V)} (r : KRs w M rho H ks gs) : ks.length = gs.length ∧ ∀ {i : Nat} {k : Key} {v : V}, gs[i]? = some (k, v) → ∃ p x, ks[i]? = some (p, x) ∧ VR w M rho H p (kV k) ∧ VR w M rho H x v := by
  match r with
  | .nil => exact ⟨rfl, fun e => by simp at e⟩
  | .cons (k := kp) (j := j) hk hx hr =>
    obtain ⟨h1, h2⟩ := KRs.at hr
    refine ⟨by rw [List.length_cons, List.length_cons, h1], fun {i k v} e => ?_⟩
    cases i with
    | zero =>
      simp at e
      obtain ⟨rfl, rfl⟩ := e
      refine ⟨_, _, rfl, ?_, hx⟩
      cases kp <;> (unfold keyP at hk; cases hk)
      · exact .int _
      · exact .str _
    | succ i => simpa using h2 (i := i) (by simpa using e)
theorem gives_keys {a : Addr} {o : Obj} {ks : List (PV × PV)} {gs : List (Key × V)} (hr0 : HR w M rho H h) (q : H a = some (.frz o (.dK gs))) (rv : KRs w M rho H ks gs) : Gives w M rho H (ks.map (·.1)) [] (Itk a o gs) := by
  refine ⟨fun {M1 rho1 H1 h1} st hr hw i => ?_⟩
  have q := st.frz _ _ _ q
  have rv := rv.step st hr0
  obtain ⟨hl, hg⟩ := rv.at
  have W := walk_keys (d := a) (o := o) (kvs := gs)
  rw [List.length_map, hl]
  refine ⟨fun hi => W.goes i H1 hi q, fun hi => by subst hi; exact W.stops H1 q, fun v H' hi y => ?_⟩
  obtain ⟨e, k, u, ey, ev⟩ := W.yields i H1 v H' hi q y
  subst e; subst ev
  obtain ⟨p, x, e1, e2, _⟩ := hg ey
  exact ⟨fun _ _ e => e, p, by rw [List.getElem?_map, e1]; rfl, e2⟩
theorem watch_one {n : Nat} {xs : List PV} (h : watch [(n, xs)] h1 = true) : h1[n]? = some (.lst xs) := by
  unfold watch at h
  rw [Bool.and_eq_true] at h
  have h := h.1
  split at h
  · rename_i ys e
    rw [e, beqVs_ok h]
  · cases h
end

/-- the items of a value -/
def srcV (h : PH) : PV → Option (List PV × Wt)
  | .tup xs => some (xs, [])
  | .scr xs => some (xs, [])
  | .str s => some (signsOf s, [])
  | .rdic ks => some (ks.map (·.1), [])
  | .ref n => match h[n]? with
    | some (.lst xs) => some (xs, [(n, xs)])
    | _ => none
  | _ => none
/-- the keys of a dict: it is locked, for good -/
def srcD (h : PH) : PV → R (List PV × Wt)
  | .ref n => match h[n]? with
    | some (.dic false kvs) => .ok (kvs.map (·.1), []) (h.set n (.dic true kvs))
    | some (.dic true kvs) => .ok (kvs.map (·.1), []) h
    | _ => .stuck
  | _ => .stuck
def miV (m : ME) : MI := fun env h => (m env h).bind fun x h1 => match srcV h1 x with
  | some p => .ok p h1
  | none => srcD h1 x
section
variable {w : Wo} {EX : XC} {X : Cx} {k : Nat} {tg e : Expr} {m : ME} {p pos : Pos} {ma : MA}
theorem iter_val (C : Cxt w k X) {pins : List (Addr × Obj)} {σ : L2.St} {H : Hp} {s : Shared} {R : It → Hp → Prop} {E : Value → Shared → Prop} {M : Addr → Prop} {rho : List Addr} {h : PH} {x : PV} {v : V} {u : Value} {xs : List PV} {wt : Wt}
    (I : Inv X pins σ H s) (ru : RelV v u) (hr : HR w M rho H h) (rv : VR w M rho H x v) (es : srcV h x = some (xs, wt)) (q : ∀ J, Gives w M rho H xs wt J → R J H) : wpAny (model X.prog X.w) X.A (pyIter u) (PIE X pins σ tg R) E s := by
  have lst : ∀ {a : Addr} {vs : List V}, SqL w.K H a vs → R (Itl w.K a) H → wpAny (model X.prog X.w) X.A (pyIter (.ref a)) (PIE X pins σ tg R) E s := fun {a vs} hq hR => by
    rw [← C.hK] at hq hR
    obtain ⟨its, rv, p, hz⟩ := I.list hq
    exact wpAny_pyIter_list p.isList (pi_one (tk := s.toks) I _ (turn_list a _) ⟨_, Heap.get?_push_size _ rfl, rfl, rfl⟩ hR)
  cases rv with
  | tup sq rs =>
    obtain rfl : u = _ := ru
    cases es
    have hq := sq
    rw [← C.hK] at hq
    obtain ⟨its, rv, p, hz⟩ := I.tuple hq
    refine wpAny_pyIter_tuple (show s.heap.IsTuple _ its.toArray from p) (pi_one (tk := s.toks) I _ (turn_tuple _ _) ⟨_, Heap.get?_push_size _ rfl, rfl, rfl⟩ ?_)
    have := q _ (gives_tup hr sq rs)
    rw [C.hK]; exact this
  | scr sq rs =>
    obtain rfl : u = _ := ru
    cases es
    exact lst sq.sq (q _ (gives_list fun st hr1 _ => ⟨_, (st.scr hr sq).sq, rs.step st hr⟩))
  | str z =>
    obtain ⟨t, rfl⟩ := (show ∃ t, u = Value.str ⟨z.toArray⟩ t from ru)
    cases es
    have hR := q _ (gives_str z)
    cases ha : (⟨z.toArray⟩ : Str).cps.all (· < 128)
    · exact wpAny_pyIter_wide ha (pi_one (tk := s.toks) I _ (turn_str _ ⟨z.toArray⟩ t "str_iterator" (.inr rfl)) ⟨_, Heap.get?_push_size _ rfl, rfl, rfl⟩ hR)
    · exact wpAny_pyIter_ascii ha (pi_one (tk := s.toks) I _ (turn_str _ ⟨z.toArray⟩ t "str_ascii_iterator" (.inl rfl)) ⟨_, Heap.get?_push_size _ rfl, rfl, rfl⟩ hR)
  | @rdic kvs ks a o ha hn rk =>
    obtain rfl : u = Value.ref a := ru
    cases es
    obtain ⟨hs, hgd, hx, es, ep, vs, hdt, hsz, kv, hm⟩ := I.frzK ha
    refine iter_keys hs hgd hx hdt (pi_one (tk := s.toks) I _ (turn_keys _ hdt) ⟨_, Heap.get?_push_size _ rfl, rfl, ?_⟩ (q _ (gives_keys hr ha rk)))
    rw [hsz] <;> rfl
  | @ref n a ha =>
    obtain rfl : u = Value.ref a := ru
    simp only [srcV] at es
    split at es
    · rename_i ys e0
      cases es
      obtain ⟨a', ha', vs, q1, q2⟩ := hr.ob _ _ e0
      rw [ha] at ha'
      cases ha'
      refine lst (.inl (.inl q1)) (q _ (gives_list fun st hr1 hw => ?_))
      obtain ⟨a2, ha2, vs2, z1, z2⟩ := hr1.ob _ _ (watch_one hw)
      rw [st.ext _ _ ha] at ha2
      cases ha2
      exact ⟨vs2, .inl (.inl z1), z2⟩
    · cases es
  | _ => cases es
/-- a dict of the heap is locked -/
theorem lock_dic {pins : List (Addr × Obj)} {σ : L2.St} {H : Hp} {s : Shared} {M : Addr → Prop} {rho : List Addr} {h : PH} {n : Nat} {v : V} {kvs : List (PV × PV)} (I : Inv X pins σ H s) (hr : HR w M rho H h) (rv : VR w M rho H (.ref n) v) (e : h[n]? = some (.dic false kvs)) :
    ∃ a od ks, v = .ref a ∧ Inv X pins σ (upd H a (.frz od (.dK ks))) s ∧ Step M rho H M rho (upd H a (.frz od (.dK ks))) ∧ HR w M rho (upd H a (.frz od (.dK ks))) (h.set n (.dic true kvs)) ∧ KRs w M rho (upd H a (.frz od (.dK ks))) kvs ks := by
  cases rv with
  | @ref n a ha =>
    obtain ⟨a', ha', ks, q1, q2⟩ := hr.ob _ _ e
    rw [ha] at ha'
    cases ha'
    have q1' : H a = some (.dK ks) := q1
    obtain ⟨od, I'⟩ := I.lock q1' True.intro
    have nf : ∀ p u, H a ≠ some (.frz p u) := fun p u z => by rw [q1'] at z; cases z
    have st := Step.write hr (o := .frz od (.dK ks)) ha nf
    have r2 := q2.step st hr
    exact ⟨a, od, ks, rfl, I', st, hr.write ha nf ⟨ks, ⟨od, upd_same⟩, r2⟩, r2⟩
theorem iter_dic {pins : List (Addr × Obj)} {σ : L2.St} {H : Hp} {s : Shared} {R : It → Hp → Prop} {E : Value → Shared → Prop} {M : Addr → Prop} {rho : List Addr} {h : PH} {x : PV} {v : V} {u : Value}
    (I : Inv X pins σ H s) (ru : RelV v u) (hr : HR w M rho H h) (rv : VR w M rho H x v) (o : Out w EX M rho H (srcD h x) (KI w R)) : wpAny (model X.prog X.w) X.A (pyIter u) (PIE X pins σ tg R) E s := by
  cases x <;> try exact (show False from o).elim
  rename_i n
  simp only [srcD] at o
  have go : ∀ {H : Hp} {h : PH} {a : Addr} {od : Obj} {ks : List (Key × V)} {kvs : List (PV × PV)}, Inv X pins σ H s → HR w M rho H h → H a = some (.frz od (.dK ks)) → KRs w M rho H kvs ks → KI w R (kvs.map (·.1), []) h M rho H → wpAny (model X.prog X.w) X.A (pyIter (.ref a)) (PIE X pins σ tg R) E s := by
    intro H h a od ks kvs I hr ha rk q
    obtain ⟨hs, hgd, hx, es, ep, vs, hdt, hsz, kv, hm⟩ := I.frzK ha
    refine iter_keys hs hgd hx hdt (pi_one (tk := s.toks) I _ (turn_keys _ hdt) ⟨_, Heap.get?_push_size _ rfl, rfl, ?_⟩ (q _ (gives_keys hr ha rk)))
    rw [hsz] <;> rfl
  split at o
  · rename_i kvs e0
    obtain ⟨a, od, ks, rfl, I', st, hr', rk⟩ := lock_dic I hr rv e0
    obtain rfl : u = Value.ref a := ru
    exact go I' hr' upd_same rk (o _ _ _ st hr')
  · rename_i kvs e0
    cases rv with
    | @ref n a ha =>
      obtain rfl : u = Value.ref a := ru
      obtain ⟨a', ha', ks, ⟨od, q1⟩, q2⟩ := hr.ob _ _ e0
      rw [ha] at ha'
      cases ha'
      exact go I hr q1 q2 (o.now hr)
  · exact (show False from o).elim
/-- over a value -/
theorem mi_val (C : Cxt w k X) (he : PE X e (tM w EX m)) : PI X tg e (tI w EX (miV m)) := by
  refine ⟨fun pins s σ H R I h => ?_⟩
  obtain ⟨M, rho, env, hh, er, hr, o⟩ := h
  refine thn (he.run pins s σ H (fun v H1 => ∃ M1 rho1 h1 x, HR w M1 rho1 H1 h1 ∧ VR w M1 rho1 H1 x v ∧ Out w EX M1 rho1 H1 (match srcV h1 x with
    | some p => .ok p h1
    | none => srcD h1 x) (KI w R)) I (tM.of er hr (Out.bind o) fun x h1 M1 rho1 H1 v st1 er1 hr1 o1 rv => ⟨M1, rho1, h1, x, hr1, rv, o1⟩)) fun u s1 ⟨v, H1, I1, ru, M1, rho1, h1, x, hr1, rv, o1⟩ => ?_
  split at o1
  · rename_i p ep
    exact iter_val (xs := p.1) (wt := p.2) C I1 ru hr1 rv ep (o1.now hr1)
  · exact iter_dic I1 ru hr1 rv o1
def L62 : Int := 4611686018427387904
theorem l62 : L62 = 2 ^ 62 := by decide
def inR (i : Int) : Bool := decide (-L62 ≤ i) && decide (i < L62)
def miRng1 (ma : MA) : MI := fun env h => (ma env h).bind fun xs h1 => match xs with
  | [.int j] => bif inR j then .ok (seqI 0 j.toNat, []) h1 else .stuck
  | _ => .stuck
def miRng2 (ma : MA) : MI := fun env h => (ma env h).bind fun xs h1 => match xs with
  | [.int i, .int j] => bif inR i && inR j then .ok (seqI i (j - i).toNat, []) h1 else .stuck
  | _ => .stuck
theorem inR_ok {i : Int} (h : inR i = true) : -(2 ^ 62) ≤ i ∧ i < 2 ^ 62 := by
  unfold inR at h
  rw [Bool.and_eq_true, decide_eq_true_eq, decide_eq_true_eq, l62] at h
  exact h
theorem mi_rng1 {a : Expr} (hg : Gl X "range") (hm : X.mg "range" = none) (ha : PA X [a] (tA w EX ma)) (hs : starEach [a] X.env = [(false, eval a X.env)] := by rfl) : PI X tg (.Call (.Name "range" p) [a] [] pos) (tI w EX (miRng1 ma)) := by
  refine PI.imp (pi_range1 hg hm ha hs) fun σ H R hh => ?_
  obtain ⟨M, rho, env, h, er, hr, o⟩ := hh
  refine tA.of er hr (Out.bind o) fun xs h1 M1 rho1 H1 vs st1 er1 hr1 o1 rs => ?_
  split at o1
  · rename_i j
    obtain ⟨hj, o2⟩ := Out.bif o1
    cases rs with
    | cons a b =>
      cases a
      cases b
      obtain ⟨p1, p2⟩ := inR_ok hj
      exact ⟨j, rfl, p1, p2, o2.now hr1 _ (gives_rng 0 _)⟩
  · exact (show False from o1).elim
theorem mi_rng2 {a b : Expr} (hg : Gl X "range") (hm : X.mg "range" = none) (ha : PA X [a, b] (tA w EX ma)) (hs : starEach [a, b] X.env = [(false, eval a X.env), (false, eval b X.env)] := by rfl) (hs2 : starEach [b] X.env = [(false, eval b X.env)] := by rfl) :
    PI X tg (.Call (.Name "range" p) [a, b] [] pos) (tI w EX (miRng2 ma)) := by
  refine PI.imp (pi_range2 hg hm ha hs hs2) fun σ H R hh => ?_
  obtain ⟨M, rho, env, h, er, hr, o⟩ := hh
  refine tA.of er hr (Out.bind o) fun xs h1 M1 rho1 H1 vs st1 er1 hr1 o1 rs => ?_
  split at o1
  · rename_i i j
    obtain ⟨hj, o2⟩ := Out.bif o1
    rw [Bool.and_eq_true] at hj
    cases rs with
    | cons a b =>
      cases b with
      | cons b c =>
        cases a
        cases b
        cases c
        obtain ⟨p1, p2⟩ := inR_ok hj.1
        obtain ⟨p3, p4⟩ := inR_ok hj.2
        exact ⟨i, j, rfl, ⟨p1, p2, p3, p4⟩, o2.now hr1 _ (gives_rng i _)⟩
  · exact (show False from o1).elim
end
end MC

end
section
set_option maxRecDepth 100000
set_option maxHeartbeats 4000000
namespace MC
open PySem PySem.Spec PyProof.Rows L2

theorem Cxt.blk {w : Wo} {k : Nat} {X : Cx} (C : Cxt w k X) (s : Shared) (H : Hp) (scope : Scope) (e : Env) (fp : List Addr) : Cxt w k (X.blk s H scope e fp) := ⟨C.hK, C.calm, C.room, C.grd, PassesOwn.never⟩
theorem Out.back {w : Wo} {EX : XC} {M : Addr → Prop} {rho : List Addr} {H : Hp} {α β : Type} {r : R α} {f : α → PH → R β} {k : KC β} (o : Out w EX M rho H (r.bind f) k) : Out w EX M rho H r fun a h _ _ _ => Out w EX M rho H (f a h) k := by
  cases r with
  | ok a h => exact fun M' rho' H' s _ => o
  | exc c fs h => exact o
  | stuck => exact o

def forL (g : MG) (b : MS) (wt : Wt) : List PV → En → PH → R Fl
  | [], env, h => bif watch wt h then .ok (.nx env) h else .stuck
  | x :: xs, env, h => bif watch wt h then (g x env h).bind fun e h1 => (b e h1).bind fun f h2 => match f with
    | .nx e2 => forL g b wt xs e2 h2
    | .ct e2 => forL g b wt xs e2 h2
    | .bk e2 => .ok (.nx e2) h2
    | .rt v => .ok (.rt v) h2 else .stuck
def mFor (mi : MI) (g : MG) (b : MS) : MS := fun env h => (mi env h).bind fun p h1 => forL g b p.2 p.1 env h1
section
variable {w : Wo} {EX : XC} {X : Cx} {k : Nat} {tg iter : Expr} {body : List Stmt} {pos : Pos} {mi : MI} {g : MG} {b : MS}
theorem ms_for (C : Cxt w k X) (hi : PI X tg iter (tI w EX mi)) (hg : PG X tg (tG w EX g)) (hb : PSs X body (tS w EX b)) (hs : ∀ x, foldedSetIterable iter X.env x = pure x := by intro _; rfl) : PS X (.For tg iter body [] pos) (tS w EX (mFor mi g b)) := by
  refine PS_imp (ps_for C.own C.calm hi hg hb hs) fun D s H hh => ?_
  obtain ⟨M, rho, env, h, er, hr, o⟩ := hh
  refine ⟨M, rho, env, h, er, hr, (Out.bind o).imp fun p h1 M1 rho1 H1 st1 hr1 o1 J gv => ?_⟩
  obtain ⟨xs, wt⟩ := p
  -- from here on the world grows from (M1, rho1, H1)
  refine ⟨fun i m σ H' => m = xs.length - i ∧ i ≤ xs.length ∧ ∃ M2 rho2 env2 h2, Step M1 rho1 H1 M2 rho2 H' ∧ ER w M2 rho2 H' env2 σ ∧ HR w M2 rho2 H' h2 ∧ Out w EX M2 rho2 H' (forL g b wt (xs.drop i) env2 h2) (KS w D),
    ⟨xs.length, by simp, Nat.zero_le _, M1, rho1, env, h1, Step.refl, er.step st1 hr, hr1, o1⟩, ?_⟩
  rintro i m σ H' ⟨rfl, hi, M2, rho2, env2, h2, st2, er2, hr2, o2⟩
  by_cases hlt : i < xs.length
  · rw [List.drop_eq_getElem_cons hlt] at o2
    obtain ⟨hw, o3⟩ := Out.bif (show Out w EX M2 rho2 H' (bif watch wt h2 then (g xs[i] env2 h2).bind fun e h1 => (b e h1).bind fun f h2 => match f with
      | .nx e2 => forL g b wt (xs.drop (i + 1)) e2 h2
      | .ct e2 => forL g b wt (xs.drop (i + 1)) e2 h2
      | .bk e2 => .ok (.nx e2) h2
      | .rt v => .ok (.rt v) h2 else .stuck) (KS w D) from o2)
    obtain ⟨g1, _, g3⟩ := gv.to st2 hr2 hw i
    refine .inr ⟨g1 hlt, fun σ' H' => ∃ M2 rho2 env2 h2, Step M1 rho1 H1 M2 rho2 H' ∧ ER w M2 rho2 H' env2 σ' ∧ HR w M2 rho2 H' h2 ∧ Out w EX M2 rho2 H' (forL g b wt (xs.drop (i + 1)) env2 h2) (KS w D), fun σ' H'' q => ⟨xs.length - (i + 1), by omega, rfl, hlt, q⟩, fun x H3 y => ?_⟩
    obtain ⟨k1, z, ez, rz⟩ := g3 x H3 hlt y
    rw [List.getElem?_eq_getElem hlt] at ez
    cases ez
    have stg : Step M2 rho2 H' M2 rho2 H3 := Step.grow k1
    have hr3 := hr2.grow k1
    refine ⟨M2, rho2, env2, h2, xs[i], er2.step stg hr2, hr3, rz, ((Out.bind o3).step stg).imp fun e h4 M4 rho4 H4 st4 hr4 o4 s4 er4 => ?_⟩
    have st5 := st2.trans (stg.trans st4)
    refine ⟨M4, rho4, e, h4, er4, hr4, (Out.bind o4).imp fun f h5 M5 rho5 H5 st6 hr5 o5 => ?_⟩
    have st7 := st5.trans st6
    cases f with
    | nx e2 => exact fun s5 er5 => ⟨M5, rho5, e2, h5, st7, er5, hr5, o5⟩
    | ct e2 => exact fun s5 er5 => ⟨M5, rho5, e2, h5, st7, er5, hr5, o5⟩
    | bk e2 => exact (show Out w EX M5 rho5 H5 (.ok (.nx e2) h5) (KS w D) from o5).now hr5
    | rt v => exact (show Out w EX M5 rho5 H5 (.ok (.rt v) h5) (KS w D) from o5).now hr5
  · have e : i = xs.length := by omega
    subst e
    rw [List.drop_length] at o2
    obtain ⟨hw, o3⟩ := Out.bif (show Out w EX M2 rho2 H' (bif watch wt h2 then .ok (.nx env2) h2 else .stuck) (KS w D) from o2)
    obtain ⟨_, g2, _⟩ := gv.to st2 hr2 hw xs.length
    exact .inl ⟨g2 rfl, o3.now hr2 _ er2⟩
end

def whileL (c : MT) (b : MS) : Nat → En → PH → R Fl
  | 0, _, _ => .stuck
  | n + 1, env, h => (c env h).bind fun t h1 => bif t then (b env h1).bind fun f h2 => match f with
    | .nx e2 => whileL c b n e2 h2
    | .ct e2 => whileL c b n e2 h2
    | .bk e2 => .ok (.nx e2) h2
    | .rt v => .ok (.rt v) h2 else .ok (.nx env) h1
def mWhile (n : Nat) (c : MT) (b : MS) : MS := fun env h => whileL c b n env h
section
variable {w : Wo} {EX : XC} {X : Cx} {k : Nat} {c : Expr} {body : List Stmt} {pos : Pos} {t : MT} {b : MS}
theorem ms_while (C : Cxt w k X) (n : Nat) (hc : PT X c (tT w EX t)) (hb : PSs X body (tS w EX b)) : PS X (.While c body [] pos) (tS w EX (mWhile n t b)) := by
  refine PS_imp (ps_while C.own hc hb) fun D s H hh => ?_
  obtain ⟨M, rho, env, h, er, hr, o⟩ := hh
  refine ⟨fun m σ H' => ∃ M2 rho2 env2 h2, ER w M2 rho2 H' env2 σ ∧ HR w M2 rho2 H' h2 ∧ Out w EX M2 rho2 H' (whileL t b m env2 h2) (KS w D), ⟨n, M, rho, env, h, er, hr, o⟩, ?_⟩
  rintro m σ H' ⟨M2, rho2, env2, h2, er2, hr2, o2⟩
  cases m with
  | zero => exact (show False from o2).elim
  | succ m =>
    refine tT.of er2 hr2 (Out.bind (show Out w EX M2 rho2 H' ((t env2 h2).bind fun t' h1 => bif t' then (b env2 h1).bind fun f h2 => match f with
      | .nx e2 => whileL t b m e2 h2
      | .ct e2 => whileL t b m e2 h2
      | .bk e2 => .ok (.nx e2) h2
      | .rt v => .ok (.rt v) h2 else .ok (.nx env2) h1) (KS w D) from o2)) fun x h3 M3 rho3 H3 st3 er3 hr3 o3 => ?_
    cases x with
    | false => exact iteF ((show Out w EX M3 rho3 H3 (.ok (.nx env2) h3) (KS w D) from o3).now hr3 _ er3)
    | true =>
      refine iteT ⟨fun σ' H'' => ∃ M2 rho2 env2 h2, ER w M2 rho2 H'' env2 σ' ∧ HR w M2 rho2 H'' h2 ∧ Out w EX M2 rho2 H'' (whileL t b m env2 h2) (KS w D), fun σ' H'' q => ⟨m, Nat.lt_succ_self _, q⟩, M3, rho3, env2, h3, er3, hr3, (Out.bind (show Out w EX M3 rho3 H3 ((b env2 h3).bind fun f h2 => match f with
        | .nx e2 => whileL t b m e2 h2
        | .ct e2 => whileL t b m e2 h2
        | .bk e2 => .ok (.nx e2) h2
        | .rt v => .ok (.rt v) h2) (KS w D) from o3)).imp fun f h5 M5 rho5 H5 st6 hr5 o5 => ?_⟩
      cases f with
      | nx e2 => exact fun s5 er5 => ⟨M5, rho5, e2, h5, er5, hr5, o5⟩
      | ct e2 => exact fun s5 er5 => ⟨M5, rho5, e2, h5, er5, hr5, o5⟩
      | bk e2 => exact (show Out w EX M5 rho5 H5 (.ok (.nx e2) h5) (KS w D) from o5).now hr5
      | rt v => exact (show Out w EX M5 rho5 H5 (.ok (.rt v) h5) (KS w D) from o5).now hr5
end

mutual
inductive Tg where
  | nm (i : Nat)
  | tp (ts : Tgs)
inductive Tgs where
  | nil
  | cons (t : Tg) (ts : Tgs)
end
mutual
def tgM : Tg → PV → En → Option En
  | .nm i, x, env => some (env.set i (some x))
  | .tp ts, x, env => match x with
    | .tup xs => tgMs ts xs env
    | _ => none
def tgMs : Tgs → List PV → En → Option En
  | .nil, [], env => some env
  | .cons t ts, x :: xs, env => match tgM t x env with
    | some e => tgMs ts xs e
    | none => none
  | _, _, _ => none
end
def tgN : Tgs → Nat
  | .nil => 0
  | .cons _ ts => tgN ts + 1
mutual
def tgG (K : PySem.W.Frag) : Tg → TG
  | .nm i => gName i
  | .tp ts => gTup K (tgN ts) (tgGs K ts)
def tgGs (K : PySem.W.Frag) : Tgs → TGs
  | .nil => gNil
  | .cons t ts => gCons (tgG K t) (tgGs K ts)
end
mutual
def tgI : Tg → List Nat
  | .nm i => [i]
  | .tp ts => tgIs ts
def tgIs : Tgs → List Nat
  | .nil => []
  | .cons t ts => tgI t ++ tgIs ts
end
theorem wipe_len (σ : L2.St) : ∀ vs : List Nat, (wipe σ vs).length = σ.length := wipe_length σ
theorem wipe_set {v : V} {i : Nat} : ∀ {vs : List Nat} (σ : L2.St), i ∈ vs → wipe (σ.set i (some v)) vs = wipe σ vs := by
  have out : ∀ {vs : List Nat} (σ : L2.St) (o : Option V), i ∉ vs → wipe (σ.set i o) vs = (wipe σ vs).set i o := by
    intro vs
    induction vs with
    | nil => intro σ o _; rfl
    | cons u vs ih =>
      intro σ o hn
      have h1 : i ≠ u := fun e => hn (by rw [e]; exact List.mem_cons_self)
      show (wipe (σ.set i o) vs).set u none = ((wipe σ vs).set u none).set i o
      rw [ih σ o fun z => hn (List.mem_cons_of_mem _ z), List.set_comm _ _ h1]
  intro vs
  induction vs with
  | nil => intro σ h; cases h
  | cons u vs ih =>
    intro σ h
    show (wipe (σ.set i (some v)) vs).set u none = (wipe σ vs).set u none
    by_cases h1 : i ∈ vs
    · rw [ih σ h1]
    · have h2 : i = u := (List.mem_cons.mp h).resolve_right h1
      subst h2
      rw [out σ _ h1, List.set_set]
section
variable {w : Wo} {M : Addr → Prop} {rho : List Addr} {H : Hp} {vs : List Nat}
mutual
theorem tg_ok : ∀ (t : Tg) {x : PV} {v : V} {env e : En} {σ : L2.St} {Q : L2.St → Hp → Prop}, tgM t x env = some e → VR w M rho H x v → ER w M rho H env σ → (∀ i ∈ tgI t, i ∈ vs) →
    (∀ σ', ER w M rho H e σ' → wipe σ' vs = wipe σ vs → Q σ' H) → tgG w.K t v σ H Q
  | .nm i, x, v, env, e, σ, Q, h, rv, er, hi, q => by
    unfold tgM at h
    cases h
    exact q _ (er.set rv i) (wipe_set σ (hi i (by unfold tgI; simp)))
  | .tp ts, x, v, env, e, σ, Q, h, rv, er, hi, q => by
    unfold tgM at h
    cases rv <;> dsimp only at h <;> try cases h
    rename_i xs us a sq rs
    unfold tgG
    obtain ⟨hl, hq⟩ := tgs_ok ts h rs er (fun i hi' => hi i (by unfold tgI; exact hi')) q
    exact ⟨a, us, rfl, sq, hl, hq⟩
theorem tgs_ok : ∀ (ts : Tgs) {xs : List PV} {us : List V} {env e : En} {σ : L2.St} {Q : L2.St → Hp → Prop}, tgMs ts xs env = some e → VRs w M rho H xs us → ER w M rho H env σ → (∀ i ∈ tgIs ts, i ∈ vs) →
    (∀ σ', ER w M rho H e σ' → wipe σ' vs = wipe σ vs → Q σ' H) → us.length = tgN ts ∧ tgGs w.K ts us σ H Q
  | .nil, xs, us, env, e, σ, Q, h, rv, er, hi, q => by
    cases rv with
    | nil =>
      unfold tgMs at h
      cases h
      exact ⟨rfl, rfl, q σ er rfl⟩
    | cons _ _ => unfold tgMs at h; cases h
  | .cons t ts, xs, us, env, e, σ, Q, h, rv, er, hi, q => by
    cases rv with
    | nil => unfold tgMs at h; cases h
    | @cons x v xs us r1 r2 =>
      unfold tgMs at h
      split at h
      · rename_i e1 h1
        have hi1 : ∀ i ∈ tgI t, i ∈ vs := fun i z => hi i (by unfold tgIs; exact List.mem_append_left _ z)
        have hi2 : ∀ i ∈ tgIs ts, i ∈ vs := fun i z => hi i (by unfold tgIs; exact List.mem_append_right _ z)
        -- the length first
        have hl : ∀ {σ' : L2.St}, ER w M rho H e1 σ' → us.length = tgN ts := fun {σ'} er' => (tgs_ok (Q := fun _ _ => True) ts h r2 er' hi2 fun _ _ _ => trivial).1
        have key : tgG w.K t v σ H fun σ' H' => us.length = tgN ts ∧ tgGs w.K ts us σ' H' Q := tg_ok t h1 r1 er hi1 fun σ' er' ew => by
          obtain ⟨a, b⟩ := tgs_ok (Q := Q) ts h r2 er' hi2 fun σ2 er2 ew2 => q σ2 er2 (ew2.trans ew)
          exact ⟨a, b⟩
        refine ⟨?_, v, us, rfl, ?_⟩
        · obtain ⟨σ', er'⟩ := (show ∃ σ', ER w M rho H e1 σ' from er_after t h1 r1 er)
          show us.length + 1 = tgN ts + 1
          rw [hl er']
        · exact tg_ok t h1 r1 er hi1 fun σ' er' ew => (tgs_ok (Q := Q) ts h r2 er' hi2 fun σ2 er2 ew2 => q σ2 er2 (ew2.trans ew)).2
      · cases h
theorem er_after : ∀ (t : Tg) {x : PV} {v : V} {env e : En} {σ : L2.St}, tgM t x env = some e → VR w M rho H x v → ER w M rho H env σ → ∃ σ', ER w M rho H e σ'
  | .nm i, x, v, env, e, σ, h, rv, er => by
    unfold tgM at h
    cases h
    exact ⟨_, er.set rv i⟩
  | .tp ts, x, v, env, e, σ, h, rv, er => by
    unfold tgM at h
    cases rv <;> dsimp only at h <;> try cases h
    rename_i xs us a sq rs
    exact ers_after ts h rs er
theorem ers_after : ∀ (ts : Tgs) {xs : List PV} {us : List V} {env e : En} {σ : L2.St}, tgMs ts xs env = some e → VRs w M rho H xs us → ER w M rho H env σ → ∃ σ', ER w M rho H e σ'
  | .nil, xs, us, env, e, σ, h, rv, er => by
    cases rv with
    | nil => unfold tgMs at h; cases h; exact ⟨_, er⟩
    | cons _ _ => unfold tgMs at h; cases h
  | .cons t ts, xs, us, env, e, σ, h, rv, er => by
    cases rv with
    | nil => unfold tgMs at h; cases h
    | cons r1 r2 =>
      unfold tgMs at h
      split at h
      · rename_i e1 h1
        obtain ⟨σ', er'⟩ := er_after t h1 r1 er
        exact ers_after ts h r2 er'
      · cases h
end
end
end MC

end
section
set_option maxRecDepth 100000
set_option maxHeartbeats 4000000
namespace MC
open PySem PySem.Spec PyProof.Rows L2

def noX {α : Type} (r : R α) : R α := match r with
  | .ok a h => .ok a h
  | _ => .stuck
theorem Out.noX {w : Wo} {EX EX2 : XC} {M : Addr → Prop} {rho : List Addr} {H : Hp} {α : Type} {r : R α} {k : KC α} (o : Out w EX M rho H (MC.noX r) k) : Out w EX2 M rho H r k := by
  cases r with
  | ok a h => exact o
  | exc c fs h => exact (show False from o).elim
  | stuck => exact o
def wipeE : En → List Nat → En
  | e, [] => e
  | e, v :: vs => (wipeE e vs).set v none
theorem wipe_wipe (σ : L2.St) : ∀ vs : List Nat, wipe (wipe σ vs) vs = wipe σ vs := by
  have out : ∀ (vs : List Nat) (σ : L2.St) (i : Nat), (wipe (σ.set i none) vs).set i none = (wipe σ vs).set i none := by
    intro vs
    induction vs with
    | nil => intro σ i; show (σ.set i none).set i none = σ.set i none; rw [List.set_set]
    | cons u vs ih =>
      intro σ i
      show ((wipe (σ.set i none) vs).set u none).set i none = ((wipe σ vs).set u none).set i none
      by_cases h : u = i
      · subst h
        rw [ih σ u]
      · rw [List.set_comm _ _ h, ih σ i, List.set_comm _ _ (Ne.symm h)]
  intro vs
  induction vs generalizing σ with
  | nil => rfl
  | cons u vs ih =>
    show (wipe ((wipe σ vs).set u none) vs).set u none = (wipe σ vs).set u none
    rw [out, ih]
section
variable {w : Wo} {M M1 M2 : Addr → Prop} {rho rho1 rho2 : List Addr} {H H1 H2 H' : Hp} {h : PH} {D : Addr}
theorem ER.wipe {e : En} {σ : L2.St} (r : ER w M rho H e σ) : ∀ vs : List Nat, ER w M rho H (wipeE e vs) (wipe σ vs)
  | [] => r
  | v :: vs => (ER.wipe r vs).drop v none
/-- all but lists stands; what is M's stands -/
structure Off (M : Addr → Prop) (H H' : Hp) : Prop where
  pos : ∀ a u, H a = some u → (∀ l, u ≠ .lst l) → H' a = some u
  own : ∀ a, M a → H' a = H a
theorem Off.sqT (f : Off M H H') {K : PySem.W.Frag} {a : Addr} {vs : List V} (q : SqT K H a vs) : SqT K H' a vs := by
  rcases q with (q | ⟨o, q⟩) | q
  · exact .inl (.inl (f.pos a _ q fun _ e => nomatch e))
  · exact .inl (.inr ⟨o, f.pos a _ q fun _ e => nomatch e⟩)
  · exact .inr q
theorem Off.scr (f : Off M H H') {a : Addr} {vs : List V} (q : ScrL w M H a vs) : ScrL w M H' a vs := by
  rcases q with q | ⟨o, q, n⟩
  · exact .inl q
  · exact .inr ⟨o, f.pos a _ q (fun _ e => nomatch e), n⟩
mutual
theorem VR.off (f : Off M H H') : ∀ {x : PV} {v : V}, VR w M rho H x v → VR w M rho H' x v
  | _, _, .non => .non
  | _, _, .bl b => .bl b
  | _, _, .int i => .int i
  | _, _, .str s => .str s
  | _, _, .tup q s => .tup (f.sqT q) (VRs.off f s)
  | _, _, .scr q s => .scr (f.scr q) (VRs.off f s)
  | _, _, .rdic e n s => .rdic (f.pos _ _ e fun _ z => nomatch z) n (KRs.off f s)
  | _, _, .ins c e n s => .ins c (f.pos _ _ e fun _ z => nomatch z) n (FRs.off f s)
  | _, _, .ref e => .ref e
  | _, _, .gl e => .gl e
theorem VRs.off (f : Off M H H') : ∀ {xs : List PV} {vs : List V}, VRs w M rho H xs vs → VRs w M rho H' xs vs
  | _, _, .nil => .nil
  | _, _, .cons a b => .cons (VR.off f a) (VRs.off f b)
theorem FRs.off (f : Off M H H') : ∀ {fs : List (Nm × PV)} {gs : List (Str × V)}, FRs w M rho H fs gs → FRs w M rho H' fs gs
  | _, _, .nil => .nil
  | _, _, .cons a b => .cons (VR.off f a) (FRs.off f b)
theorem KRs.off (f : Off M H H') : ∀ {fs : List (PV × PV)} {gs : List (Key × V)}, KRs w M rho H fs gs → KRs w M rho H' fs gs
  | _, _, .nil => .nil
  | _, _, .cons k a b => .cons k (VR.off f a) (KRs.off f b)
end
theorem OR.off (f : Off M H H') {a : Addr} (m : M a) {o : PO} (q : OR w M rho H a o) : OR w M rho H' a o := by
  have e := f.own a m
  cases o with
  | lst xs => obtain ⟨vs, p, s⟩ := q; exact ⟨vs, e.trans p, s.off f⟩
  | ins c fs => obtain ⟨C, dx, gs, p1, p, s⟩ := q; exact ⟨C, dx, gs, p1, e.trans p, s.off f⟩
  | dic lk kvs =>
    obtain ⟨ks, p, s⟩ := q
    refine ⟨ks, ?_, s.off f⟩
    cases lk with
    | false => exact e.trans p
    | true => obtain ⟨o, p⟩ := p; exact ⟨o, e.trans p⟩
theorem HR.off (f : Off M H H') (r : HR w M rho H h) : HR w M rho H' h where
  len := r.len
  nd := r.nd
  mem := r.mem
  live := fun b m => by rw [f.own b m]; exact r.live b m
  ob := fun n o q => by
    obtain ⟨a, ha, s⟩ := r.ob n o q
    exact ⟨a, ha, s.off f (r.mem a (List.mem_of_getElem? ha))⟩
theorem Off.upd {l : List V} {o : HO} (hD : H D = some (.lst l)) (n : ¬ M D) : Off M H (upd H D o) :=
  ⟨fun a u e z => by rw [upd_ne]; exact e; rintro rfl; rw [hD] at e; cases e; exact z l rfl, fun a m => upd_ne fun e => n (e ▸ m)⟩
theorem Off.hide {l : List V} (hD : H D = some (.lst l)) (n : ¬ M D) : Off M H (fun b => if b = D then none else H b) :=
  ⟨fun a u e z => by
    have : a ≠ D := by rintro rfl; rw [hD] at e; cases e; exact z l rfl
    show (if a = D then none else H a) = some u
    rw [if_neg this]; exact e, fun a m => if_neg fun (z : a = D) => n (by rw [← z]; exact m)⟩
theorem Step.late (st : Step M1 rho1 H1 M rho H) (n : H1 D = none) {o : HO} : Step M1 rho1 H1 M rho (upd H D o) where
  ext := st.ext
  mono := st.mono
  fresh := st.fresh
  new := st.new
  frame := fun b u hb e => by
    rw [upd_ne (ne_of_none e n)]
    exact st.frame b u hb e
  there := fun b e => by
    by_cases h : b = D
    · subst h; exact absurd n e
    · rw [upd_ne h]; exact st.there b e
  frz := fun b o u e => by
    rw [upd_ne (ne_of_none e n)]
    exact st.frz b o u e
/-- a list that stood apart comes to the heap's end -/
theorem take_lst {xs : List PV} {vs : List V} (st : Step M1 rho1 H1 M rho H) (n : H1 D = none) (hr : HR w M rho H h) (hD : H D = some (.lst vs)) (nD : ¬ M D) (r : VRs w M rho H xs vs) :
    Step M1 rho1 H1 (fun b => M b ∨ b = D) (rho ++ [D]) H ∧ HR w (fun b => M b ∨ b = D) (rho ++ [D]) H (h ++ [.lst xs]) ∧ VR w (fun b => M b ∨ b = D) (rho ++ [D]) H (.ref h.length) (.ref D) := by
  have f := Off.hide hD nD
  have e0 : upd (fun b => if b = D then none else H b) D (.lst vs) = H := by
    funext b
    unfold L2.upd
    by_cases h : b = D
    · rw [if_pos h, h, hD]
    · rw [if_neg h]; exact if_neg h
  have n0 : (fun b => if b = D then none else H b) D = none := if_pos rfl
  have hr0 := hr.off f
  have r0 := (r.off f).step (Step.alloc (o := .lst vs) n0) hr0
  have hr1 := hr0.alloc (o := .lst vs) n0 (po := .lst xs) ⟨vs, upd_same, r0⟩
  rw [e0] at hr1
  refine ⟨⟨fun i a e => ?_, fun b e => .inl (st.mono b e), fun b e => e.elim (st.fresh b) fun z => .inr (by rw [z]; exact n), fun b e => ?_, st.frame, st.there, st.frz⟩, hr1, .ref ?_⟩
  · have q := st.ext i a e
    rw [List.getElem?_append_left (List.getElem?_eq_some_iff.mp q).1]; exact q
  · rcases List.mem_append.mp e with z | z
    · exact st.new b z
    · rw [List.mem_singleton.mp z]; exact .inr n
  · rw [List.getElem?_append_right (by rw [hr.len]; exact Nat.le_refl _), hr.len, Nat.sub_self]
    rfl
end

def lcL (g : Tg) (t : MT) (m : ME) (wt : Wt) (e0 : En) : List PV → List PV → PH → R PV
  | [], acc, h => bif watch wt h then .ok (.ref h.length) (h ++ [.lst acc]) else .stuck
  | x :: xs, acc, h => bif watch wt h then (match tgM g x e0 with
    | some e => (noX (t e h)).bind fun b h1 => bif b then (noX (m e h1)).bind fun y h2 => bif decide (acc.length < LIM) then lcL g t m wt e0 xs (acc ++ [y]) h2 else .stuck else lcL g t m wt e0 xs acc h1
    | none => .stuck) else .stuck
def mLc (mi : MI) (g : Tg) (t : MT) (m : ME) (vs : List Nat) : ME := fun env h => (mi env h).bind fun p h1 => lcL g t m p.2 (wipeE env vs) p.1 [] h1
def mYes : MT := fun _ h => .ok true h
section
variable {w : Wo} {EX EX2 : XC} {X : Cx} {k : Nat} {tg iter elt : Expr} {ifs : List Expr} {scope : Scope} {own : List (Str × Nat)} {pos : Pos} {mi : MI} {g : Tg} {t : MT} {m : ME}
theorem mts_nil : PTs X [] (tT w EX mYes) := ⟨fun pins s σ H Q I h => by
  refine pts_nil.run pins s σ H Q I ?_
  obtain ⟨M, rho, env, h, er, hr, o⟩ := h
  exact o.now hr⟩
theorem lc_reads {vs : List Nat} {σ : L2.St} {H : Hp} {Q : VK} (hvs : (tgI g).all (vs.contains ·) = true) (hh : tM w EX (mLc mi g t m vs) σ H Q) : tLc (tI w EX mi) (tgG w.K g) (tT w EX2 t) (tM w EX2 m) vs σ H Q := by
  have hv : ∀ i ∈ tgI g, i ∈ vs := fun i hi => List.contains_iff_mem.mp (List.all_eq_true.mp hvs i hi)
  obtain ⟨M, rho, env, h, er, hr, o⟩ := hh
  refine ⟨M, rho, env, h, er, hr, (Out.bind o).imp fun p h1 M1 rho1 H1 st1 hr1 o1 J gv => ?_⟩
  obtain ⟨xs, wt⟩ := p
  intro D hD
  have erB : ER w M1 rho1 H1 (wipeE env vs) (wipe σ vs) := (er.step st1 hr).wipe vs
  have nD : ¬ M1 D := fun z => hr1.live D z hD
  refine ⟨fun i m' H' => m' = xs.length - i ∧ i ≤ xs.length ∧ ∃ M2 rho2 acc accV h2, Step M1 rho1 H1 M2 rho2 H' ∧ HR w M2 rho2 H' h2 ∧ H' D = some (.lst accV) ∧ ¬ M2 D ∧ VRs w M2 rho2 H' acc accV ∧ Out w EX M1 rho1 H1 (lcL g t m wt (wipeE env vs) (xs.drop i) acc h2) (KV w Q),
    ⟨xs.length, by simp, Nat.zero_le _, M1, rho1, [], [], h1, Step.grow (same_upd hD), hr1.grow (same_upd hD), upd_same, nD, .nil, o1⟩, ?_⟩
  rintro i m' H' ⟨rfl, hi, M2, rho2, acc, accV, h2, st2, hr2, hD2, nD2, ra, o2⟩
  by_cases hlt : i < xs.length
  · rw [List.drop_eq_getElem_cons hlt] at o2
    obtain ⟨hw, o3⟩ := Out.bif (show Out w EX M1 rho1 H1 (bif watch wt h2 then (match tgM g xs[i] (wipeE env vs) with
      | some e => (noX (t e h2)).bind fun b h1 => bif b then (noX (m e h1)).bind fun y h2 => bif decide (acc.length < LIM) then lcL g t m wt (wipeE env vs) (xs.drop (i + 1)) (acc ++ [y]) h2 else .stuck else lcL g t m wt (wipeE env vs) (xs.drop (i + 1)) acc h1
      | none => .stuck) else .stuck) (KV w Q) from o2)
    obtain ⟨g1, _, g3⟩ := gv.to st2 hr2 hw i
    refine .inr ⟨g1 hlt, fun H' => ∃ M2 rho2 acc accV h2, Step M1 rho1 H1 M2 rho2 H' ∧ HR w M2 rho2 H' h2 ∧ H' D = some (.lst accV) ∧ ¬ M2 D ∧ VRs w M2 rho2 H' acc accV ∧ Out w EX M1 rho1 H1 (lcL g t m wt (wipeE env vs) (xs.drop (i + 1)) acc h2) (KV w Q), fun H'' q => ⟨xs.length - (i + 1), by omega, rfl, hlt, q⟩, fun x H3 y => ?_⟩
    obtain ⟨k1, z, ez, rz⟩ := g3 x H3 hlt y
    rw [List.getElem?_eq_getElem hlt] at ez
    cases ez
    have stg : Step M2 rho2 H' M2 rho2 H3 := Step.grow k1
    have hr3 := hr2.grow k1
    have st3 := st2.trans stg
    split at o3
    · rename_i e he
      refine tg_ok g he rz (erB.step st3 hr1) hv fun σ2 er2 ew => ⟨by rw [ew, wipe_wipe], ?_⟩
      refine tT.of er2 hr3 (Out.noX ((Out.back o3).step st3)) fun b h4 M4 rho4 H4 st4 er4 hr4 o4 => ?_
      have stB := st3.trans st4
      have dr : ∀ {b}, b ∈ rho2 → M2 b := fun {b} hb => hr2.mem b hb
      have hD4 : H4 D = some (.lst accV) := st4.frame D _ (fun z => nD2 (dr z)) (k1 _ _ hD2)
      have nD4 : ¬ M4 D := st4.no (k1 _ _ hD2) nD2
      have ra4 := (ra.step stg hr2).step st4 hr3
      cases b with
      | false => exact iteF ⟨M4, rho4, acc, accV, h4, stB, hr4, hD4, nD4, ra4, o4⟩
      | true =>
        refine iteT (tM.of er4 hr4 (Out.noX ((Out.back (show Out w EX M1 rho1 H1 ((noX (m e h4)).bind fun y h2 => bif decide (acc.length < LIM) then lcL g t m wt (wipeE env vs) (xs.drop (i + 1)) (acc ++ [y]) h2 else .stuck) (KV w Q) from o4)).step stB)) fun y h5 M5 rho5 H5 u st5 er5 hr5 o5 ry => ?_)
        obtain ⟨hl, o6⟩ := Out.bif o5
        have stC := stB.trans st5
        have hD5 : H5 D = some (.lst accV) := st5.frame D _ (fun z => nD4 (hr4.mem D z)) hD4
        have nD5 : ¬ M5 D := st5.no hD4 nD4
        have ra5 := ra4.step st5 hr4
        have f := Off.upd (o := .lst (accV ++ [u])) hD5 nD5
        exact ⟨accV, hD5, by rw [ra5.length, lim_eq]; exact of_decide_eq_true hl, M5, rho5, acc ++ [y], accV ++ [u], h5, stC.late hD, hr5.off f, upd_same, nD5, (ra5.append (.cons ry .nil)).off f, o6⟩
    · exact (show False from o3).elim
  · have e : i = xs.length := by omega
    subst e
    rw [List.drop_length] at o2
    obtain ⟨hw, o3⟩ := Out.bif (show Out w EX M1 rho1 H1 (bif watch wt h2 then .ok (.ref h2.length) (h2 ++ [.lst acc]) else .stuck) (KV w Q) from o2)
    obtain ⟨_, g2, _⟩ := gv.to st2 hr2 hw xs.length
    obtain ⟨z1, z2, z3⟩ := take_lst st2 hD hr2 hD2 nD2 ra
    exact .inl ⟨g2 rfl, o3 _ _ _ z1 z2 _ z3⟩
theorem me_lc (C : Cxt w k X) (hN : X.N.Nodup) {vs : List Nat} (hi : PI X tg iter (tI w EX mi)) (ok : blkC X.N X.env.scope scope own = true)
    (hg : ∀ (s : Shared) (H : Hp) (A : Addr) (cl : List (Str × Addr)) (fp : List Addr), PG (X.blk s H scope (compEnvC scope cl A X.env) fp) tg (tgG w.K g)) (ht : ∀ (s : Shared) (H : Hp) (A : Addr) (cl : List (Str × Addr)) (fp : List Addr), Cxt w k (X.blk s H scope (compEnvC scope cl A X.env) fp) → PTs (X.blk s H scope (compEnvC scope cl A X.env) fp) ifs (tT w EX2 t))
    (he : ∀ (s : Shared) (H : Hp) (A : Addr) (cl : List (Str × Addr)) (fp : List Addr), Cxt w k (X.blk s H scope (compEnvC scope cl A X.env) fp) → PE (X.blk s H scope (compEnvC scope cl A X.env) fp) elt (tM w EX2 m)) (ev : own.map (·.2) = vs := by rfl) (hvs : (tgI g).all (vs.contains ·) = true := by rfl) (hs : ∀ x, foldedSetIterable iter X.env x = pure x := by intro _; rfl) :
    PE X (.ListComp elt [⟨tg, iter, ifs, 0⟩] scope pos) (tM w EX (mLc mi g t m vs)) := by
  subst ev
  exact PE.imp (pe_lc C.calm hN hi (blkOk_by ok) hg (fun s H A cl fp => ht s H A cl fp (C.blk ..)) (fun s H A cl fp => he s H A cl fp (C.blk ..)) hs) fun σ H Q h => lc_reads hvs h
/-- name = [..] on one line -/
theorem ms_setLc (C : Cxt w k X) (hN : X.N.Nodup) (i : Nat) {y : Str} {py : Pos} {spos : Pos} {vs : List Nat} (hy : X.N[i]? = some y) (hyl : X.env.scope.names.lookup y = some .local) (hsw : swapsWith (.ListComp elt [⟨tg, iter, ifs, 0⟩] scope pos) (some (.Name y py)) spos.line X.env = pure true)
    (hi : PI X tg iter (tI w EX mi)) (ok : blkC X.N X.env.scope scope own = true)
    (hg : ∀ (s : Shared) (H : Hp) (A : Addr) (cl : List (Str × Addr)) (fp : List Addr), PG (X.blk s H scope (compEnvC scope cl A X.env) fp) tg (tgG w.K g)) (ht : ∀ (s : Shared) (H : Hp) (A : Addr) (cl : List (Str × Addr)) (fp : List Addr), Cxt w k (X.blk s H scope (compEnvC scope cl A X.env) fp) → PTs (X.blk s H scope (compEnvC scope cl A X.env) fp) ifs (tT w EX2 t))
    (he : ∀ (s : Shared) (H : Hp) (A : Addr) (cl : List (Str × Addr)) (fp : List Addr), Cxt w k (X.blk s H scope (compEnvC scope cl A X.env) fp) → PE (X.blk s H scope (compEnvC scope cl A X.env) fp) elt (tM w EX2 m)) (ev : own.map (·.2) = vs := by rfl) (hvs : (tgI g).all (vs.contains ·) = true := by rfl) (hs : ∀ x, foldedSetIterable iter X.env x = pure x := by intro _; rfl) :
    PS X (.Assign [.Name y py] (.ListComp elt [⟨tg, iter, ifs, 0⟩] scope pos) spos) (tS w EX (mSet i (mLc mi g t m vs))) := by
  subst ev
  refine PS_imp (ps_setLc C.calm hN hy hyl hsw hi (blkOk_by ok) hg (fun s H A cl fp => ht s H A cl fp (C.blk ..)) (fun s H A cl fp => he s H A cl fp (C.blk ..)) hs) fun D s H hh => ?_
  obtain ⟨M, rho, env, h, er, hr, o⟩ := hh
  refine lc_reads (Q := fun x H1 => gName i x s H1 D.nx) hvs (tM.of er hr (Out.bind o) fun y h1 M1 rho1 H1 v st1 er1 hr1 o1 rv => ?_)
  exact o1.now hr1 _ (er1.set rv i)
end
end MC

end
section
set_option maxRecDepth 100000
set_option maxHeartbeats 4000000
namespace MC
open PySem PySem.Spec PyProof.Rows L2

section
variable {w : Wo} {EX : XC} {X : Cx} {k : Nat} {f : Value} {M : Addr → Prop} {rho : List Addr} {H : Hp} {h : PH}
theorem CallR.imp {r r' : List V → Hp → VK → Prop} (c : CallR X f r) (i : ∀ xs H Q, r' xs H Q → r xs H Q) : CallR X f r' := fun pins s σ H xs us Q I rv h => c pins s σ H xs us Q I rv (i xs H Q h)
theorem CallR.orI {r1 r2 r' : List V → Hp → VK → Prop} (c1 : CallR X f r1) (c2 : CallR X f r2) (i : ∀ xs H Q, r' xs H Q → r1 xs H Q ∨ r2 xs H Q) : CallR X f r' := CallR.imp (CallR.or c1 c2) i
/-- the items of a list, a tuple -/
def seqP (h : PH) : PV → Option (List PV)
  | .tup xs => some xs
  | .scr xs => some xs
  | .ref n => match h[n]? with
    | some (.lst xs) => some xs
    | _ => none
  | _ => none
theorem seq_ok (hr : HR w M rho H h) {x : PV} {v : V} {xs : List PV} (r : VR w M rho H x v) (e : seqP h x = some xs) : ∃ a vs, v = .ref a ∧ VRs w M rho H xs vs ∧ (SqL w.K H a vs ∨ (SqT w.K H a vs ∧ x = .tup xs)) := by
  cases r with
  | tup q s => cases e; exact ⟨_, _, rfl, s, .inr ⟨q, rfl⟩⟩
  | scr q s => cases e; exact ⟨_, _, rfl, s, .inl q.sq⟩
  | @ref n a ha =>
    simp only [seqP] at e
    split at e
    · rename_i ys e0
      cases e
      obtain ⟨a', ha', vs, q1, q2⟩ := hr.ob _ _ e0
      rw [ha] at ha'
      cases ha'
      exact ⟨a, vs, rfl, q2, .inl (.inl (.inl q1))⟩
    · cases e
  | _ => cases e
/-- an argument's reading -/
theorem rA1 {op : OC} {xs : List V} {Q : VK} {P : Prop} (hh : rA w EX op xs H Q) (i : ∀ M rho h (ps : List PV), HR w M rho H h → VRs w M rho H ps xs → Out w EX M rho H (op h ps) (MC.KV w Q) → P) : P := by
  obtain ⟨M, rho, h, ps, hr, rs, o⟩ := hh
  exact i M rho h ps hr rs o

def bLen : OC := fun h xs => match xs with
  | [x] => match x with
    | .str s => bif decide (s.length ≤ LIM) then .ok (.int s.length) h else .stuck
    | .rdic ks => .ok (.int ks.length) h
    | x => match seqP h x with
      | some ys => .ok (.int ys.length) h
      | none => match x with
        | .ref n => match h[n]? with
          | some (.dic false ks) => .ok (.int ks.length) h
          | _ => .stuck
        | _ => .stuck
  | _ => .stuck
theorem KRs.len {ks : List (PV × PV)} {gs : List (Key × V)} (r : KRs w M rho H ks gs) : gs.length = ks.length := (KRs.at r).1.symm
def bInt : OC := fun h xs => match xs with
    | [.int i] => .ok (.int i) h
    | [.bl b] => .ok (.int (bif b then 1 else 0)) h
    | _ => .stuck
theorem b_int (C : Cxt w k X) : CallR X (.type "int") (rA w EX bInt) := by
  refine CallR.imp call_int1 fun xs H Q hh => rA1 hh fun M rho h ps hr rs o => ?_
  unfold bInt at o
  split at o
  · cases rs with
    | cons a b => cases a; cases b; exact .inl ⟨_, rfl, o.now hr _ (.int _)⟩
  · rename_i b
    cases rs with
    | cons a c => cases a; cases c; refine .inr ⟨_, rfl, o.now hr _ ?_⟩; cases b <;> exact .int _
  · exact (show False from o).elim
def bAbs : OC := fun h xs => match xs with
    | [.int i] => .ok (.int (if i < 0 then -i else i)) h
    | _ => .stuck
theorem b_abs : CallR X (.builtin "abs") (rA w EX bAbs) := by
  refine CallR.imp call_abs fun xs H Q hh => rA1 hh fun M rho h ps hr rs o => ?_
  unfold bAbs at o
  split at o
  · cases rs with
    | cons a b => cases a; cases b; exact ⟨_, rfl, o.now hr _ (.int _)⟩
  · exact (show False from o).elim
def B30 : Int := 1073741824
def bDivmod : OC := fun h xs => match xs with
    | [.int i, .int j] => bif decide (0 < j) && decide (j < B30) then .ok (.tup [.int (i / j), .int (i % j)]) h else .stuck
    | _ => .stuck
theorem b_divmod : CallR X (.builtin "divmod") (rA w EX bDivmod) := by
  refine CallR.imp call_divmod fun xs H Q hh => rA1 hh fun M rho h ps hr rs o => ?_
  unfold bDivmod at o
  split at o
  · obtain ⟨hj, o⟩ := Out.bif o
    rw [Bool.and_eq_true, decide_eq_true_eq, decide_eq_true_eq] at hj
    cases rs with
    | cons a b => cases b with
      | cons b c => cases a; cases b; cases c; exact ⟨_, _, rfl, hj, KV.tup hr o (.cons (.int _) (.cons (.int _) .nil))⟩
  · exact (show False from o).elim
def bMax2 : OC := fun h xs => match xs with
    | [.int i, .int j] => .ok (.int (if j > i then j else i)) h
    | _ => .stuck
theorem b_max2 (C : Cxt w k X) : CallR X (.builtin "max") (rA w EX bMax2) := by
  refine CallR.imp (call_max2 C.calm) fun xs H Q hh => rA1 hh fun M rho h ps hr rs o => ?_
  unfold bMax2 at o
  split at o
  · cases rs with
    | cons a b => cases b with
      | cons b c => cases a; cases b; cases c; exact ⟨_, _, rfl, o.now hr _ (.int _)⟩
  · exact (show False from o).elim
def bMin2 : OC := fun h xs => match xs with
    | [.int i, .int j] => .ok (.int (if j < i then j else i)) h
    | _ => .stuck
theorem b_min2 (C : Cxt w k X) : CallR X (.builtin "min") (rA w EX bMin2) := by
  refine CallR.imp (call_min2 C.calm) fun xs H Q hh => rA1 hh fun M rho h ps hr rs o => ?_
  unfold bMin2 at o
  split at o
  · cases rs with
    | cons a b => cases b with
      | cons b c => cases a; cases b; cases c; exact ⟨_, _, rfl, o.now hr _ (.int _)⟩
  · exact (show False from o).elim
theorem call_lenR : CallR X (.builtin "len") (fun xs H Q => ∃ a kvs, xs = [V.ref a] ∧ Rd H a (.dK kvs) ∧ Q (.int kvs.length) H) := by
  intro pins s σ H xs us Q I r h
  obtain ⟨a, kvs, rfl, ha, q⟩ := h
  obtain ⟨u, rfl, ru⟩ := vals1 r
  cases ru
  exact d_len I ha fun t s' I' => ⟨.int kvs.length, H, I', ⟨t, rfl⟩, q⟩
theorem vrs1 {x : PV} {xs : List V} (r : VRs w M rho H [x] xs) : ∃ v, xs = [v] ∧ VR w M rho H x v := by
  cases r with
  | cons a b => cases b; exact ⟨_, rfl, a⟩
theorem OR.dic {lk : Bool} {ks : List (PV × PV)} {a : Addr} (q : OR w M rho H a (.dic lk ks)) : ∃ gs, Rd H a (.dK gs) ∧ KRs w M rho H ks gs := by
  obtain ⟨gs, q1, q2⟩ := q
  refine ⟨gs, ?_, q2⟩
  cases lk with
  | false => exact .inl q1
  | true => obtain ⟨o, q1⟩ := q1; exact .inr ⟨o, q1⟩
theorem b_len (C : Cxt w k X) : CallR X (.builtin "len") (rA w EX bLen) := by
  refine CallR.orI call_len call_lenR fun xs H Q hh => rA1 hh fun M rho h ps hr rs o => ?_
  have seqc : ∀ {x : PV} {v : V} {ys : List PV}, VR w M rho H x v → seqP h x = some ys → Out w EX M rho H (.ok (.int ys.length) h) (MC.KV w Q) → ∃ x n, [v] = [x] ∧ LenV X.K x H n ∧ Q (.int n) H := fun {x v ys} rv e o => by
    obtain ⟨a, vs, rfl, rs, q⟩ := seq_ok hr rv e
    refine ⟨_, vs.length, rfl, ?_, by rw [rs.length]; exact o.now hr _ (.int _)⟩
    rw [C.hK]
    rcases q with q | ⟨q, _⟩
    · exact .inl ⟨vs, q, rfl⟩
    · exact .inr ⟨vs, q, rfl⟩
  unfold bLen at o
  split at o
  · rename_i x
    obtain ⟨v, rfl, rv⟩ := vrs1 rs
    split at o
    · rename_i s
      obtain ⟨hl, o⟩ := Out.bif o
      cases rv
      refine .inl ⟨_, s.length, rfl, ⟨?_, ?_⟩, o.now hr _ (.int _)⟩
      · show (S s).length ≤ _; rw [S_len, lim_eq]; exact of_decide_eq_true hl
      · show _ = (S s).length; rw [S_len]
    · rename_i ks
      cases rv with
      | rdic e n rk => exact .inr ⟨_, _, rfl, .inr ⟨_, e⟩, by rw [rk.len]; exact o.now hr _ (.int _)⟩
    · split at o
      · rename_i ys e
        exact .inl (seqc rv e o)
      · split at o
        · rename_i n _
          split at o
          · rename_i ks e0
            cases rv with
            | ref ha =>
              obtain ⟨a', ha', q⟩ := hr.ob _ _ e0
              rw [ha] at ha'
              cases ha'
              obtain ⟨gs, q1, q2⟩ := q.dic
              exact .inr ⟨_, gs, rfl, q1, by rw [q2.len]; exact o.now hr _ (.int _)⟩
          · exact (show False from o).elim
        · exact (show False from o).elim
  · exact (show False from o).elim
def bTuple : OC := fun h xs => match xs with
  | [x] => match seqP h x with
    | some ys => .ok (.tup ys) h
    | none => .stuck
  | _ => .stuck
theorem b_tuple (C : Cxt w k X) : CallR X (.type "tuple") (rA w EX bTuple) := by
  refine CallR.imp call_tuple_of fun xs H Q hh => rA1 hh fun M rho h ps hr rs o => ?_
  unfold bTuple at o
  split at o
  · rename_i x
    obtain ⟨v, rfl, rv⟩ := vrs1 rs
    split at o
    · rename_i ys e
      obtain ⟨a, vs, rfl, rs, q⟩ := seq_ok hr rv e
      rw [C.hK]
      rcases q with q | ⟨q, ex⟩
      · exact ⟨a, vs, rfl, .inl ⟨q, KV.tup hr o rs⟩⟩
      · subst ex
        exact ⟨a, vs, rfl, .inr ⟨q, o.now hr _ rv⟩⟩
    · exact (show False from o).elim
  · exact (show False from o).elim
def bList : OC := fun h xs => match xs with
  | [x] => match seqP h x with
    | some ys => .ok (.ref h.length) (h ++ [.lst ys])
    | none => .stuck
  | _ => .stuck
theorem b_list (C : Cxt w k X) : CallR X (.type "list") (rA w EX bList) := by
  refine CallR.imp call_list_of fun xs H Q hh => rA1 hh fun M rho h ps hr rs o => ?_
  unfold bList at o
  split at o
  · rename_i x
    obtain ⟨v, rfl, rv⟩ := vrs1 rs
    split at o
    · rename_i ys e
      obtain ⟨a, vs, rfl, rs, q⟩ := seq_ok hr rv e
      rw [C.hK]
      refine ⟨a, vs, rfl, ?_, KV.lst hr o rs⟩
      rcases q with q | ⟨q, _⟩
      · exact .inl q
      · exact .inr q
    · exact (show False from o).elim
  · exact (show False from o).elim
/-- all bools, all ints, all texts -/
def blsP : List PV → Option (List Bool)
  | [] => some []
  | .bl b :: r => match blsP r with
    | some bs => some (b :: bs)
    | none => none
  | _ => none
def intsP : List PV → Option (List Int)
  | [] => some []
  | .int b :: r => match intsP r with
    | some bs => some (b :: bs)
    | none => none
  | _ => none
def strsP : List PV → Option (List (List Nat))
  | [] => some []
  | .str b :: r => match strsP r with
    | some bs => some (b :: bs)
    | none => none
  | _ => none
theorem bls_ok : ∀ {xs : List PV} {vs : List V} {bs : List Bool}, VRs w M rho H xs vs → blsP xs = some bs → vs = bs.map V.bl
  | _, _, _, .nil, e => by cases e; rfl
  | _, _, _, .cons a b, e => by
    cases a <;> simp only [blsP, reduceCtorEq] at e
    split at e
    · rename_i bs e2
      cases e
      rw [bls_ok b e2]; rfl
    · cases e
theorem ints_ok : ∀ {xs : List PV} {vs : List V} {bs : List Int}, VRs w M rho H xs vs → intsP xs = some bs → vs = bs.map V.int
  | _, _, _, .nil, e => by cases e; rfl
  | _, _, _, .cons a b, e => by
    cases a <;> simp only [intsP, reduceCtorEq] at e
    split at e
    · rename_i bs e2
      cases e
      rw [ints_ok b e2]; rfl
    · cases e
theorem strs_ok : ∀ {xs : List PV} {vs : List V} {bs : List (List Nat)}, VRs w M rho H xs vs → strsP xs = some bs → vs = (bs.map S).map V.str
  | _, _, _, .nil, e => by cases e; rfl
  | _, _, _, .cons a b, e => by
    cases a <;> simp only [strsP, reduceCtorEq] at e
    split at e
    · rename_i bs e2
      cases e
      rw [strs_ok b e2]; rfl
    · cases e
/-- a list (no tuple) of bools, of ints -/
def lstP (h : PH) : PV → Option (List PV)
  | .scr xs => some xs
  | .ref n => match h[n]? with
    | some (.lst xs) => some xs
    | _ => none
  | _ => none
theorem lst_ok (hr : HR w M rho H h) {x : PV} {v : V} {xs : List PV} (r : VR w M rho H x v) (e : lstP h x = some xs) : ∃ a vs, v = .ref a ∧ VRs w M rho H xs vs ∧ SqL w.K H a vs := by
  cases r with
  | scr q s => cases e; exact ⟨_, _, rfl, s, q.sq⟩
  | @ref n a ha =>
    simp only [lstP] at e
    split at e
    · rename_i ys e0
      cases e
      obtain ⟨a', ha', vs, q1, q2⟩ := hr.ob _ _ e0
      rw [ha] at ha'
      cases ha'
      exact ⟨a, vs, rfl, q2, .inl (.inl q1)⟩
    · cases e
  | _ => cases e
def bAll : OC := fun h xs => match xs with
  | [x] => match lstP h x with
    | some ys => match blsP ys with
      | some bs => .ok (.bl (bs.all id)) h
      | none => .stuck
    | none => .stuck
  | _ => .stuck
def bAny : OC := fun h xs => match xs with
  | [x] => match lstP h x with
    | some ys => match blsP ys with
      | some bs => .ok (.bl (bs.any id)) h
      | none => .stuck
    | none => .stuck
  | _ => .stuck
def bSum : OC := fun h xs => match xs with
  | [x] => match lstP h x with
    | some ys => match intsP ys with
      | some bs => .ok (.int bs.sum) h
      | none => .stuck
    | none => .stuck
  | _ => .stuck
theorem b_all (C : Cxt w k X) : CallR X (.builtin "all") (rA w EX bAll) := by
  refine CallR.imp (cr_all C.calm) fun xs H Q hh => rA1 hh fun M rho h ps hr rs o => ?_
  unfold bAll at o
  split at o
  · rename_i x
    obtain ⟨v, rfl, rv⟩ := vrs1 rs
    split at o
    · rename_i ys e
      obtain ⟨a, vs, rfl, rs, q⟩ := lst_ok hr rv e
      split at o
      · rename_i bs e2
        exact ⟨a, bs, rfl, by rw [C.hK, ← bls_ok rs e2]; exact q, o.now hr _ (.bl _)⟩
      · exact (show False from o).elim
    · exact (show False from o).elim
  · exact (show False from o).elim
theorem b_any (C : Cxt w k X) : CallR X (.builtin "any") (rA w EX bAny) := by
  refine CallR.imp (cr_any C.calm) fun xs H Q hh => rA1 hh fun M rho h ps hr rs o => ?_
  unfold bAny at o
  split at o
  · rename_i x
    obtain ⟨v, rfl, rv⟩ := vrs1 rs
    split at o
    · rename_i ys e
      obtain ⟨a, vs, rfl, rs, q⟩ := lst_ok hr rv e
      split at o
      · rename_i bs e2
        exact ⟨a, bs, rfl, by rw [C.hK, ← bls_ok rs e2]; exact q, o.now hr _ (.bl _)⟩
      · exact (show False from o).elim
    · exact (show False from o).elim
  · exact (show False from o).elim
theorem b_sum (C : Cxt w k X) : CallR X (.builtin "sum") (rA w EX bSum) := by
  refine CallR.imp (cr_sum C.calm) fun xs H Q hh => rA1 hh fun M rho h ps hr rs o => ?_
  unfold bSum at o
  split at o
  · rename_i x
    obtain ⟨v, rfl, rv⟩ := vrs1 rs
    split at o
    · rename_i ys e
      obtain ⟨a, vs, rfl, rs, q⟩ := lst_ok hr rv e
      split at o
      · rename_i bs e2
        exact ⟨a, bs, rfl, by rw [C.hK, ← ints_ok rs e2]; exact q, o.now hr _ (.int _)⟩
      · exact (show False from o).elim
    · exact (show False from o).elim
  · exact (show False from o).elim
end

/-- the kinds of values: 0 None, 1 bool, 2 int, 3 str, 4 tuple, 5 list, 6 dict -/
def kindN : Nat → String
  | 0 => "NoneType"
  | 1 => "bool"
  | 2 => "int"
  | 3 => "str"
  | 4 => "tuple"
  | 5 => "list"
  | _ => "dict"
def kindP (h : PH) : PV → Option (Nat ⊕ Nat)
  | .non => some (.inl 0)
  | .bl _ => some (.inl 1)
  | .int _ => some (.inl 2)
  | .str _ => some (.inl 3)
  | .tup _ => some (.inl 4)
  | .scr _ => some (.inl 5)
  | .rdic _ => some (.inl 6)
  | .ins c _ => some (.inr c)
  | .ref n => match h[n]? with
    | some (.lst _) => some (.inl 5)
    | some (.dic _ _) => some (.inl 6)
    | some (.ins c _) => some (.inr c)
    | none => none
  | .gl _ => none
/-- what isinstance says of a kind, by the tables tb (kinds) and cs (classes) -/
def isiT (tb cs : List (Nat × Bool)) : Nat ⊕ Nat → Option Bool
  | .inl n => tb.lookup n
  | .inr n => cs.lookup n
def mIsi (tb cs : List (Nat × Bool)) (m : ME) : ME := fun env h => (m env h).bind fun x h1 => match kindP h1 x with
  | some k => match isiT tb cs k with
    | some b => .ok (.bl b) h1
    | none => .stuck
  | none => .stuck
/-- what is known of a class for isinstance -/
structure ClsI (K : PySem.W.Frag) (C : Addr) : Prop where
  cl : Cls K C
  ha : PySem.W.findIn K (.ref C) "__class__" = some (some (.builtin "object.__class__"))
  hn : PySem.W.specialIn K (.builtin "object.__class__") "__get__" = some (some (.builtin "getset_descriptor.__get__"))
  htk : PySem.W.takesIn K (.builtin "object.__class__") = some true
  hm : PySem.W.mroIn K C (.type "object") = some true
/-- the tables are right -/
structure IsiOk (w : Wo) (u : Value) (tb cs : List (Nat × Bool)) : Prop where
  ty : ∀ p ∈ tb, PySem.W.kitOne w.K (.type (kindN p.1)) u = some p.2
  own : ∀ p ∈ cs, ∀ C, w.cl p.1 = some C → ClsI w.K C ∧ PySem.W.kitOne w.K (.ref C) u = some p.2
theorem lookup_mem {α : Type} {n : Nat} {b : α} : ∀ {l : List (Nat × α)}, l.lookup n = some b → (n, b) ∈ l
  | [], e => by cases e
  | (m, c) :: r, e => by
    rw [List.lookup_cons] at e
    cases q : n == m with
    | true => rw [q] at e; cases e; rw [beq_iff_eq.mp q]; exact List.mem_cons_self
    | false => rw [q] at e; exact List.mem_cons_of_mem _ (lookup_mem e)
section
variable {w : Wo} {EX : XC} {X : Cx} {k : Nat} {e c : Expr} {m : ME} {p pos : Pos} {M : Addr → Prop} {rho : List Addr} {H : Hp} {h : PH}
theorem kind_ok (hr : HR w M rho H h) {x : PV} {v : V} (r : VR w M rho H x v) {q : Nat ⊕ Nat} (ek : kindP h x = some q) : (∃ n, q = .inl n ∧ TyX w.K H v (.type (kindN n))) ∨ ∃ n C, q = .inr n ∧ w.cl n = some C ∧ (ClsI w.K C → TyX w.K H v (.ref C)) := by
  cases r with
  | non => cases ek; exact .inl ⟨0, rfl, .base .non⟩
  | bl b => cases ek; exact .inl ⟨1, rfl, .base (.bl b)⟩
  | int i => cases ek; exact .inl ⟨2, rfl, .base (.int i)⟩
  | str s => cases ek; exact .inl ⟨3, rfl, .base (.str _)⟩
  | tup s _ =>
    cases ek
    refine .inl ⟨4, rfl, ?_⟩
    rcases s with (s | ⟨o, s⟩) | ⟨o, its, n, s, c, _⟩
    · exact .base (.tup s)
    · exact .fTuple s
    · exact .kTuple s c
  | scr s _ =>
    cases ek
    refine .inl ⟨5, rfl, ?_⟩
    rcases s with ⟨o, its, n, s, c, _⟩ | ⟨o, s, _⟩
    · exact .kList s c
    · exact .base (.frz s)
  | rdic e n _ => cases ek; exact .inl ⟨6, rfl, .fDict e⟩
  | ins c e n _ =>
    cases ek
    exact .inr ⟨_, _, rfl, c, fun ci => .base (.ins e ci.cl ci.ha ci.hn ci.htk ci.hm)⟩
  | ref ha =>
    simp only [kindP] at ek
    split at ek
    · rename_i e0
      cases ek
      obtain ⟨a', ha', vs, q1, q2⟩ := hr.ob _ _ e0
      rw [ha] at ha'; cases ha'
      exact .inl ⟨5, rfl, .base (.lst q1)⟩
    · rename_i e0
      cases ek
      obtain ⟨a', ha', q⟩ := hr.ob _ _ e0
      rw [ha] at ha'; cases ha'
      obtain ⟨gs, q1, _⟩ := q.dic
      rcases q1 with q1 | ⟨o, q1⟩
      · exact .inl ⟨6, rfl, .base (.dK q1)⟩
      · exact .inl ⟨6, rfl, .fDict q1⟩
    · rename_i e0
      cases ek
      obtain ⟨a', ha', C, dx, gs, c, q1, q2⟩ := hr.ob _ _ e0
      rw [ha] at ha'; cases ha'
      exact .inr ⟨_, _, rfl, c, fun ci => .base (.ins q1 ci.cl ci.ha ci.hn ci.htk ci.hm)⟩
    · cases ek
  | gl _ => cases ek
theorem isi_reads {u : Value} {cv : V} {tb cs : List (Nat × Bool)} (C : Cxt w k X) (B : IsiOk w u tb cs) (kc : ClsV cv u) {σ : L2.St} {Q : VK} (hh : tM w EX (mIsi tb cs m) σ H Q) : tCB (rIsi X.K) (tCons (tM w EX m) (tCons (tC cv) tNil)) σ H Q := by
  obtain ⟨M, rho, env, h, er, hr, o⟩ := hh
  refine tM.of er hr (Out.bind o) fun x h1 M1 rho1 H1 v st1 er1 hr1 o1 rv => ?_
  split at o1
  · rename_i kd ek
    split at o1
    · rename_i b eb
      have q := o1.now hr1 _ (.bl b)
      rcases kind_ok hr1 rv ek with ⟨n, rfl, ty⟩ | ⟨n, A, rfl, hA, ty⟩
      · have z := B.ty _ (lookup_mem (show tb.lookup n = some b from eb))
        exact ⟨v, cv, _, u, b, rfl, kc, by rw [C.hK]; exact ty, by rw [C.hK]; exact z, q⟩
      · obtain ⟨ci, z⟩ := B.own _ (lookup_mem (show cs.lookup n = some b from eb)) A hA
        exact ⟨v, cv, _, u, b, rfl, kc, by rw [C.hK]; exact ty ci, by rw [C.hK]; exact z, q⟩
    · exact (show False from o1).elim
  · exact (show False from o1).elim
/-- isinstance(e, T), T a builtin type -/
theorem me_isiT {x : Str} {T : String} {p1 p2 : Pos} {tb cs : List (Nat × Bool)} (C : Cxt w k X) (B : IsiOk w (.type T) tb cs) (he : PE X e (tM w EX m)) (hg : Gl X "isinstance") (hm : X.mg "isinstance" = none) (hg2 : Gl X x) (hm2 : X.mg x = none) (hv2 : bootBuiltins x = some (.type T)) (hn2 : x ≠ "__name__" := by decide) (hd2 : (x == ("__debug__" : Str)) = false := by decide)
    (hs : starEach [e, .Name x p2] X.env = (false, eval e X.env) :: starEach [.Name x p2] X.env := by rfl) (hs2 : starEach [.Name x p2] X.env = (false, eval (.Name x p2) X.env) :: starEach [] X.env := by rfl) (hpl : (backTo pos (starEach [.Name x p2] X.env)).any (·.1) = false := by rfl) :
    PE X (.Call (.Name "isinstance" p1) [e, .Name x p2] [] pos) (tM w EX (mIsi tb cs m)) :=
  PE.imp (pe_callB call_isi hg hm (by decide +kernel) (pa_cons he (pa_cons (pe_bltn (v := .ty T) hg2 hm2 hv2 rfl hn2 hd2) pa_nil hs2) hs) (by decide) (by decide) hs hpl) fun σ H Q h => isi_reads C B (.ty T) h
/-- isinstance(e, C), C an own class -/
theorem me_isiC {x : Str} {A : Addr} {p1 p2 : Pos} {tb cs : List (Nat × Bool)} (C : Cxt w k X) (B : IsiOk w (.ref A) tb cs) (he : PE X e (tM w EX m)) (hg : Gl X "isinstance") (hm : X.mg "isinstance" = none) (hg2 : Gl X x) (hm2 : X.mg x = some (.ref A)) (hd2 : (x == ("__debug__" : Str)) = false := by decide)
    (hs : starEach [e, .Name x p2] X.env = (false, eval e X.env) :: starEach [.Name x p2] X.env := by rfl) (hs2 : starEach [.Name x p2] X.env = (false, eval (.Name x p2) X.env) :: starEach [] X.env := by rfl) (hpl : (backTo pos (starEach [.Name x p2] X.env)).any (·.1) = false := by rfl) :
    PE X (.Call (.Name "isinstance" p1) [e, .Name x p2] [] pos) (tM w EX (mIsi tb cs m)) :=
  PE.imp (pe_callB call_isi hg hm (by decide +kernel) (pa_cons he (pa_cons (pe_glob (v := .ref A) hg2 hm2 rfl hd2) pa_nil hs2) hs) (by decide) (by decide) hs hpl) fun σ H Q h => isi_reads C B (.own A) h
end
end MC

end
section
set_option maxRecDepth 100000
set_option maxHeartbeats 4000000
namespace MC
open PySem PySem.Spec PyProof.Rows L2

/-- the receiver's kind: 0 text, 1 list -/
def isTy (h : PH) : Nat → PV → Bool
  | 0, .str _ => true
  | 1, x => (lstP h x).isSome
  | _, _ => false
def tyNm : Nat → String
  | 0 => "str"
  | _ => "list"
def mBM (ty : Nat) (op : OC) (mo : ME) (ma : MA) : ME := fun env h => (mo env h).bind fun x h1 => bif isTy h1 ty x then (ma env h1).bind fun xs h2 => op h2 (x :: xs) else .stuck
def rM (w : Wo) (EX : XC) (op : OC) : V → List V → Hp → VK → Prop := fun x xs H Q => ∃ M rho h px ps, HR w M rho H h ∧ VR w M rho H px x ∧ VRs w M rho H ps xs ∧ Out w EX M rho H (op h (px :: ps)) (MC.KV w Q)
section
variable {w : Wo} {EX : XC} {X : Cx} {k : Nat} {M : Addr → Prop} {rho : List Addr} {H : Hp} {h : PH}
theorem isTy_ok {K : PySem.W.Frag} (hK : K = w.K) (hr : HR w M rho H h) {ty : Nat} {x : PV} {v : V} (r : VR w M rho H x v) (e : isTy h ty x = true) : tyV K (tyNm ty) v H := by
  subst hK
  match ty with
  | 0 =>
    cases r <;> first
      | exact (show "str" = "str" from rfl)
      | (exact absurd e (by simp [isTy]))
  | 1 =>
    obtain ⟨xs, ex⟩ := Option.isSome_iff_exists.mp (show (lstP h x).isSome = true by cases x <;> exact e)
    obtain ⟨a, vs, rfl, rs, q⟩ := lst_ok hr r ex
    exact .inl ⟨rfl, vs, q⟩
  | n + 2 => exact absurd e (by simp [isTy])
variable {o e : Expr} {es : List Expr} {mo : ME} {ma : MA} {name : Str} {apos cpos : Pos} {id : String} {op : OC}
theorem me_bm (C : Cxt w k X) (ty : Nat) (pa : PlainAttrs (tyNm ty)) (slot : Slot (tyNm ty) name id) (hty : typeOf (.builtin id) = pure (.type "method_descriptor")) (hm : MtR X id (rM w EX op)) (ho : PE X o (tM w EX mo)) (ha : PA X (e :: es) (tA w EX ma))
    (hbase : attributeBase o name X.env (eval o X.env) = eval o X.env := by rfl)
    (hfew : ((backTo cpos (starEach (e :: es) X.env)).all (fun x => !x.1) && (backToKw cpos (keywordEach [] X.env)).all (fun x => x.1.isSome)
      && decide ((e :: es).length + ([] : List Keyword).length + (if ([] : List Keyword).isEmpty then 0 else 1) < 30)) = true := by rfl)
    (hline : (apos.endLine == cpos.line) = true := by rfl) (hs : starEach (e :: es) X.env = (false, eval e X.env) :: starEach es X.env := by rfl) (hplain : (backTo cpos (starEach es X.env)).any (·.1) = false := by rfl) :
    PE X (.Call (.Attribute o name apos) (e :: es) [] cpos) (tM w EX (mBM ty op mo ma)) := by
  refine PE.imp (pe_bm pa slot hty hm ho ha hbase hfew hline hs hplain) fun σ H Q hh => ?_
  obtain ⟨M, rho, env, h, er, hr, oo⟩ := hh
  refine tM.of er hr (Out.bind oo) fun x h1 M1 rho1 H1 v st1 er1 hr1 o1 rv => ?_
  obtain ⟨ht, o1⟩ := Out.bif o1
  refine ⟨isTy_ok C.hK hr1 rv ht, tA.of er1 hr1 (Out.bind o1) fun xs h2 M2 rho2 H2 vs st2 er2 hr2 o2 rs => ?_⟩
  exact ⟨M2, rho2, h2, x, xs, hr2, rv.step st2 hr1, rs, o2⟩
theorem me_bm0 (C : Cxt w k X) (ty : Nat) (pa : PlainAttrs (tyNm ty)) (slot : Slot (tyNm ty) name id) (hty : typeOf (.builtin id) = pure (.type "method_descriptor")) (hm : MtR X id (rM w EX op)) (ho : PE X o (tM w EX mo))
    (hbase : attributeBase o name X.env (eval o X.env) = eval o X.env := by rfl) (hline : (apos.endLine == cpos.line) = true := by rfl) : PE X (.Call (.Attribute o name apos) [] [] cpos) (tM w EX (mBM ty op mo maNil)) := by
  refine PE.imp (pe_bm0 pa slot hty hm ho hbase hline) fun σ H Q hh => ?_
  obtain ⟨M, rho, env, h, er, hr, oo⟩ := hh
  refine tM.of er hr (Out.bind oo) fun x h1 M1 rho1 H1 v st1 er1 hr1 o1 rv => ?_
  obtain ⟨ht, o1⟩ := Out.bif o1
  exact ⟨isTy_ok C.hK hr1 rv ht, M1, rho1, h1, x, [], hr1, rv, .nil, o1⟩
theorem MtR.imp {r r' : V → List V → Hp → VK → Prop} (c : MtR X id r) (i : ∀ x xs H Q, r' x xs H Q → r x xs H Q) : MtR X id r' := fun pins s σ H x xs v us Q I rx rs h => c pins s σ H x xs v us Q I rx rs (i x xs H Q h)
theorem vrs0 {xs : List V} (r : VRs w M rho H [] xs) : xs = [] := by cases r; rfl
theorem vrs2 {x y : PV} {xs : List V} (r : VRs w M rho H [x, y] xs) : ∃ v u, xs = [v, u] ∧ VR w M rho H x v ∧ VR w M rho H y u := by
  cases r with
  | cons a b => cases b with
    | cons b c => cases c; exact ⟨_, _, rfl, a, b⟩
/-- the n-th object, a list, written -/
theorem KV.put {x : PV} {v : V} {n : Nat} {a : Addr} {xs : List PV} {vs : List V} {Q : VK} (hr : HR w M rho H h) (ha : rho[n]? = some a) {os : List PV} (h0 : h[n]? = some (.lst os)) (o : Out w EX M rho H (.ok x (h.set n (.lst xs))) (MC.KV w Q)) (rv : VR w M rho H x v) (r : VRs w M rho H xs vs) : Q v (upd H a (.lst vs)) := by
  have nf : ∀ p u, H a ≠ some (.frz p u) := fun p u z => by
    obtain ⟨a', ha', us, q1, _⟩ := hr.ob _ _ h0
    rw [ha] at ha'
    cases ha'
    rw [z] at q1
    cases q1
  have st := Step.write hr (o := .lst vs) ha nf
  exact o _ _ _ st (hr.write ha nf ⟨vs, upd_same, r.step st hr⟩) _ (rv.step st hr)
def oAppend : OC := fun h xs => match xs with
  | [.ref n, y] => match h[n]? with
    | some (.lst ys) => bif decide (ys.length < LIM) then .ok .non (h.set n (.lst (ys ++ [y]))) else .stuck
    | _ => .stuck
  | _ => .stuck
theorem ref_lst (hr : HR w M rho H h) {n : Nat} {v : V} {ys : List PV} (r : VR w M rho H (.ref n) v) (e : h[n]? = some (.lst ys)) : ∃ a vs, v = .ref a ∧ rho[n]? = some a ∧ H a = some (.lst vs) ∧ VRs w M rho H ys vs := by
  cases r with
  | ref ha =>
    obtain ⟨a', ha', vs, q1, q2⟩ := hr.ob _ _ e
    rw [ha] at ha'
    cases ha'
    exact ⟨_, vs, rfl, ha, q1, q2⟩
theorem o_append : MtR X "list.append" (rM w EX oAppend) := by
  refine MtR.imp mt_append fun x xs H Q hh => ?_
  obtain ⟨M, rho, h, px, ps, hr, rx, rs, o⟩ := hh
  unfold oAppend at o
  split at o
  · rename_i n y e
    cases e
    obtain ⟨u, rfl, ru⟩ := vrs1 rs
    split at o
    · rename_i ys e0
      obtain ⟨hl, o⟩ := Out.bif o
      obtain ⟨a, vs, rfl, ha, q1, q2⟩ := ref_lst hr rx e0
      exact ⟨a, vs, u, rfl, rfl, q1, by rw [q2.length, lim_eq]; exact of_decide_eq_true hl, KV.put hr ha e0 o .non (q2.append (.cons ru .nil))⟩
    · exact (show False from o).elim
  · exact (show False from o).elim
def oPop : OC := fun h xs => match xs with
  | [.ref n] => match h[n]? with
    | some (.lst ys) => match ys[ys.length - 1]? with
      | some y => .ok y (h.set n (.lst ys.dropLast))
      | none => .stuck
    | _ => .stuck
  | _ => .stuck
theorem VRs.dropLast {xs : List PV} {vs : List V} (r : VRs w M rho H xs vs) : VRs w M rho H xs.dropLast vs.dropLast := by
  rw [List.dropLast_eq_take, List.dropLast_eq_take, r.length]
  exact r.take _
theorem o_pop : MtR X "list.pop" (rM w EX oPop) := by
  refine MtR.imp mt_pop fun x xs H Q hh => ?_
  obtain ⟨M, rho, h, px, ps, hr, rx, rs, o⟩ := hh
  unfold oPop at o
  split at o
  · rename_i n e
    cases e
    cases vrs0 rs
    split at o
    · rename_i ys e0
      obtain ⟨a, vs, rfl, ha, q1, q2⟩ := ref_lst hr rx e0
      split at o
      · rename_i y ey
        obtain ⟨v, ev, rv⟩ := q2.get ey
        exact ⟨a, vs, v, rfl, rfl, q1, by rw [q2.length]; exact ev, KV.put hr ha e0 o rv q2.dropLast⟩
      · exact (show False from o).elim
    · exact (show False from o).elim
  · exact (show False from o).elim
/-- the texts with sep between -/
def glue (sep : List Nat) : List (List Nat) → List Nat
  | [] => []
  | [x] => x
  | x :: y :: r => x ++ (sep ++ glue sep (y :: r))
def totL (xs : List (List Nat)) : Nat := (xs.map (·.length)).sum
theorem glue_S (sep : List Nat) : ∀ ys : List (List Nat), TL.joinL sep ys = glue sep ys
  | [] => rfl
  | [_] => rfl
  | x :: y :: r => by
    show x ++ (sep ++ TL.joinL sep (y :: r)) = x ++ (sep ++ glue sep (y :: r))
    rw [glue_S sep (y :: r)]
theorem join_S (sep : List Nat) (ys : List (List Nat)) : Txt.join (S sep) (ys.map S) = S (glue sep ys) := by
  rw [TL.join_eq]
  refine TL.ext_tl ?_
  rw [TL.tl_join, ← glue_S]
  have e : (ys.map S).map TL.tl = ys := by
    rw [List.map_map]
    conv => rhs; rw [← List.map_id ys]
    exact List.map_congr_left fun x _ => S_list x
  rw [e]
  have e2 : TL.tl (S sep) = sep := S_list sep
  rw [e2]
  exact (S_list _).symm
def oJoin : OC := fun h xs => match xs with
  | [.str sep, x] => match seqP h x with
    | some ys => match strsP ys with
      | some zs => bif decide (totL zs + zs.length * sep.length ≤ LIM) then .ok (.str (glue sep zs)) h else .stuck
      | none => .stuck
    | none => .stuck
  | _ => .stuck
theorem totL_S (zs : List (List Nat)) : ((zs.map S).map (·.length)).sum = totL zs := by
  unfold totL
  rw [List.map_map]
  exact congrArg List.sum (List.map_congr_left fun x _ => S_len x)
theorem o_join (C : Cxt w k X) : MtR X "str.join" (rM w EX oJoin) := by
  refine MtR.imp mt_join fun x xs H Q hh => ?_
  obtain ⟨M, rho, h, px, ps, hr, rx, rs, o⟩ := hh
  unfold oJoin at o
  split at o
  · rename_i sep y e
    cases e
    obtain ⟨v, rfl, rv⟩ := vrs1 rs
    split at o
    · rename_i ys e0
      obtain ⟨a, vs, rfl, rs, q⟩ := seq_ok hr rv e0
      split at o
      · rename_i zs ez
        obtain ⟨hl, o⟩ := Out.bif o
        cases rx
        have ev := strs_ok rs ez
        subst ev
        refine ⟨S sep, a, zs.map S, rfl, rfl, ?_, ?_, ?_⟩
        · rw [C.hK]
          rcases q with q | ⟨q, _⟩
          · exact .inl q
          · exact .inr q
        · rw [totL_S, List.length_map, S_len]
          exact of_decide_eq_true hl
        · rw [join_S]
          exact o.now hr _ (.str _)
      · exact (show False from o).elim
    · exact (show False from o).elim
  · exact (show False from o).elim
/-- the first place of a sign -/
def idxOf1 (c : Nat) : List Nat → Option Nat
  | [] => none
  | x :: r => bif x == c then some 0 else match idxOf1 c r with
    | some i => some (i + 1)
    | none => none
def oIndex : OC := fun h xs => match xs with
  | [.str s, .str [c]] => match idxOf1 c s with
    | some i => .ok (.int i) h
    | none => .stuck
  | _ => .stuck
theorem idx1_ok {c : Nat} : ∀ {s : List Nat} {i : Nat}, idxOf1 c s = some i → s[i]? = some c ∧ ∀ j, j < i → s[j]? ≠ some c
  | [], _, e => by cases e
  | x :: r, i, e => by
    unfold idxOf1 at e
    cases q : x == c with
    | true =>
      rw [q, cond_true] at e
      cases e
      exact ⟨by rw [beq_iff_eq.mp q]; rfl, fun j hj => absurd hj (Nat.not_lt_zero j)⟩
    | false =>
      rw [q, cond_false] at e
      split at e
      · rename_i i' e'
        cases e
        obtain ⟨h1, h2⟩ := idx1_ok e'
        refine ⟨by simpa using h1, fun j hj => ?_⟩
        cases j with
        | zero => simpa using beq_eq_false_iff_ne.mp q
        | succ j => simpa using h2 j (by omega)
      · cases e
theorem o_index : MtR X "str.index" (rM w EX oIndex) := by
  refine MtR.imp mt_sindex fun x xs H Q hh => ?_
  obtain ⟨M, rho, h, px, ps, hr, rx, rs, o⟩ := hh
  unfold oIndex at o
  split at o
  · rename_i s c e
    cases e
    obtain ⟨v, rfl, rv⟩ := vrs1 rs
    cases rx
    cases rv
    split at o
    · rename_i i ei
      obtain ⟨h1, h2⟩ := idx1_ok ei
      have at1 : ∀ j, StrLaws.At (S s) (S [c]) (S s).length j ↔ s[j]? = some c := fun j => StrLaws.subAt_one (S s) c j
      rcases StrLaws.occ_head (S s) (S [c]) 1 (Nat.le_refl _) with ⟨_, hn⟩ | ⟨j, r, e1, e2, e3⟩
      · exact absurd ((at1 i).mpr h1) (hn i)
      · have e2' := (at1 j).mp e2
        have : j = i := by
          rcases Nat.lt_trichotomy j i with z | z | z
          · exact absurd e2' (h2 j z)
          · exact z
          · exact absurd ((at1 i).mpr h1) (e3 i z)
        subst this
        exact ⟨S s, S [c], j, r, rfl, rfl, e1, o.now hr _ (.int _)⟩
    · exact (show False from o).elim
  · exact (show False from o).elim
/-- the text begins with -/
def isPre : List Nat → List Nat → Bool
  | [], _ => true
  | x :: xs, y :: ys => x == y && isPre xs ys
  | _ :: _, [] => false
theorem isPre_eq : ∀ (p s : List Nat), isPre p s = (decide (p.length ≤ s.length) && (s.take p.length == p))
  | [], s => by simp [isPre]
  | x :: xs, [] => by simp [isPre]
  | x :: xs, y :: ys => by
    unfold isPre
    rw [isPre_eq xs ys]
    simp only [List.length_cons, List.take_succ_cons, Nat.add_le_add_iff_right]
    by_cases h : x = y
    · subst h; simp
    · have h1 : (x == y) = false := beq_eq_false_iff_ne.mpr h
      have h2 : (y == x) = false := beq_eq_false_iff_ne.mpr (Ne.symm h)
      simp [h1, h2, Ne.symm h]
def oStarts : OC := fun h xs => match xs with
  | [.str s, .str p] => .ok (.bl (isPre p s)) h
  | _ => .stuck
theorem o_starts : MtR X "str.startswith" (rM w EX oStarts) := by
  refine MtR.imp mt_startswith fun x xs H Q hh => ?_
  obtain ⟨M, rho, h, px, ps, hr, rx, rs, o⟩ := hh
  unfold oStarts at o
  split at o
  · rename_i s c e
    cases e
    obtain ⟨v, rfl, rv⟩ := vrs1 rs
    cases rx
    cases rv
    refine ⟨S s, S c, rfl, rfl, ?_⟩
    have e1 : Txt.startswith (S s) (S c) = isPre c s := by
      unfold Txt.startswith
      rw [isPre_eq, StrLaws.subAt_eq, S_len, S_len, Nat.zero_add]
      rfl
    rw [e1]
    exact o.now hr _ (.bl _)
  · exact (show False from o).elim
end
end MC

end
section
set_option maxRecDepth 100000
set_option maxHeartbeats 4000000
namespace MC
open PySem PySem.Spec PyProof.Rows L2

section
variable {w : Wo} {EX : XC} {X : Cx} {k : Nat} {M : Addr → Prop} {rho : List Addr} {H : Hp} {h : PH}
/-- o[i] = v, by values -/
abbrev O3 := PH → PV → PV → PV → R Unit
def oSetIx : O3 := fun h o i v => match o, i with
  | .ref n, .int j => match h[n]? with
    | some (.lst xs) => match ixN xs.length j with
      | some k => .ok () (h.set n (.lst (xs.set k v)))
      | none => .stuck
    | _ => .stuck
  | _, _ => .stuck
def gSubM (op : O3) (mo mi : ME) : MG := fun x env h => (mo env h).bind fun o h1 => (mi env h1).bind fun i h2 => (op h2 o i x).bind fun _ h3 => .ok env h3
def r3 (w : Wo) (EX : XC) (op : O3) : TSet := fun o i v H Q => ∃ M rho h po pi pv, HR w M rho H h ∧ VR w M rho H po o ∧ VR w M rho H pi i ∧ VR w M rho H pv v ∧ Out w EX M rho H (op h po pi pv) fun _ _ _ _ H' => Q H'
theorem PSet.imp {t t' : TSet} (p : PSet X t) (i : ∀ o j v H Q, t' o j v H Q → t o j v H Q) : PSet X t' := fun pins s σ H o j v ov iv u Q I ro ri rv h => p pins s σ H o j v ov iv u Q I ro ri rv (i o j v H Q h)
theorem p_setIx : PSet X (r3 w EX oSetIx) := by
  refine PSet.imp set_list fun o j v H Q hh => ?_
  obtain ⟨M, rho, h, po, pi, pv, hr, ro, ri, rv, oo⟩ := hh
  unfold oSetIx at oo
  split at oo
  · rename_i n i
    split at oo
    · rename_i xs e0
      obtain ⟨a, vs, rfl, ha, q1, q2⟩ := ref_lst hr ro e0
      cases ri
      split at oo
      · rename_i k ek
        refine ⟨a, vs, i, k, rfl, rfl, q1, by rw [q2.length]; exact ek, ?_⟩
        have r' := q2.set rv k
        have nf : ∀ p u, H a ≠ some (.frz p u) := fun p u z => by rw [q1] at z; cases z
        have st := Step.write hr (o := .lst (vs.set k v)) ha nf
        exact oo _ _ _ st (hr.write ha nf ⟨_, upd_same, r'.step st hr⟩)
      · exact (show False from oo).elim
    · exact (show False from oo).elim
  · exact (show False from oo).elim
theorem mg_sub {o i : Expr} {mo mi : ME} {op : O3} {pos : Pos} (hs : PSet X (r3 w EX op)) (ho : PE X o (tM w EX mo)) (hi : PE X i (tM w EX mi))
    (ha : ∀ v, assign (.Subscript o i pos) X.env v = (do
      let ov ← holding [v] (eval o X.env)
      let iv ← holding [v, ov] (eval i X.env)
      standAt pos
      holding [v, ov, iv] (setItem ov iv v)
      release [v, ov, iv] []) := by intro _; rfl) : PG X (.Subscript o i pos) (tG w EX (gSubM op mo mi)) := by
  refine PG_imp (pg_sub ho hi hs ha) fun v s H Q hh => ?_
  obtain ⟨M, rho, env, h, x, er, hr, rv, oo⟩ := hh
  refine tM.of er hr (Out.bind oo) fun y h1 M1 rho1 H1 u st1 er1 hr1 o1 ry => ?_
  refine tM.of er1 hr1 (Out.bind o1) fun z h2 M2 rho2 H2 u2 st2 er2 hr2 o2 rz => ?_
  refine ⟨M2, rho2, h2, y, z, x, hr2, ry.step st2 hr1, rz, (rv.step st1 hr).step st2 hr1, (Out.bind o2).imp fun _ h3 M3 rho3 H3 st3 hr3 o3 => ?_⟩
  exact o3.now hr3 _ (er2.step st3 hr2)

def putP (f : Nm) (v : PV) : List (Nm × PV) → List (Nm × PV)
  | [] => [(f, v)]
  | (g, x) :: r => bif g == f then (g, v) :: r else (g, x) :: putP f v r
theorem FRs.put {f : Nm} {x : PV} {v : V} (r : VR w M rho H x v) : ∀ {fs : List (Nm × PV)} {gs : List (Str × V)}, FRs w M rho H fs gs → FRs w M rho H (putP f x fs) (putF (nmS f) v gs)
  | _, _, .nil => .cons r .nil
  | _, _, .cons (k := g) a b => by
    unfold putP putF
    cases q : g == f with
    | true =>
      rw [cond_true, if_pos (by rw [beq_iff_eq.mp q])]
      exact .cons r b
    | false =>
      rw [cond_false, if_neg (fun e => beq_eq_false_iff_ne.mp q (nmS_inj e))]
      exact .cons a (FRs.put r b)
theorem FRs.len : ∀ {fs : List (Nm × PV)} {gs : List (Str × V)}, FRs w M rho H fs gs → gs.length = fs.length
  | _, _, .nil => rfl
  | _, _, .cons a b => by rw [List.length_cons, List.length_cons, b.len]
/-- o.f = e -/
def mSetF (cs : List Nat) (f : Nm) (mo me : ME) : MS := fun env h => (me env h).bind fun v h1 => (mo env h1).bind fun o h2 => match o with
  | .ref n => match h2[n]? with
    | some (.ins c fs) => bif cs.contains c && decide (fs.length < 1000) then .ok (.nx env) (h2.set n (.ins c (putP f v fs))) else .stuck
    | _ => .stuck
  | _ => .stuck
theorem ms_fld {cs : List Nat} {o e : Expr} {z : Str} {mo me : ME} {pos pos' : Pos} (C : Cxt w k X) (f : Nm) (hf : z = nmS f) (hA : Fld w cs f) (ho : PE X o (tM w EX mo)) (he : PE X e (tM w EX me)) (hs : swapsWith e (some (.Attribute o z pos')) pos.line X.env = pure false := by rfl) :
    PS X (.Assign [.Attribute o z pos'] e pos) (tS w EX (mSetF cs f mo me)) := by
  subst hf
  refine PS_imp (ps_fld ho he hs) fun D s H hh => ?_
  obtain ⟨M, rho, env, h, er, hr, oo⟩ := hh
  refine tM.of er hr (Out.bind oo) fun x h1 M1 rho1 H1 v st1 er1 hr1 o1 rv => ?_
  refine tM.of er1 hr1 (Out.bind o1) fun y h2 M2 rho2 H2 u st2 er2 hr2 o2 ry => ?_
  split at o2
  · rename_i n
    split at o2
    · rename_i c fs e0
      obtain ⟨hc, o2⟩ := Out.bif o2
      rw [Bool.and_eq_true] at hc
      cases ry with
      | ref ha =>
        obtain ⟨a', ha', A, dx, gs, q1, q2, q3⟩ := hr2.ob _ _ e0
        rw [ha] at ha'
        cases ha'
        obtain ⟨f1, f2⟩ := hA c A (List.contains_iff_mem.mp hc.1) q1
        refine ⟨_, A, dx, gs, rfl, q2, by rw [C.hK]; exact f1, by rw [C.hK]; exact f2, by rw [q3.len]; exact of_decide_eq_true hc.2, ?_⟩
        have r' := q3.put (f := f) (rv.step st2 hr1)
        have nf : ∀ p u, H2 _ ≠ some (.frz p u) := fun p u z => by rw [q2] at z; cases z
        have st := Step.write hr2 (o := .ins A dx (putF (nmS f) v gs)) ha nf
        exact o2 _ _ _ st (hr2.write ha nf ⟨A, dx, _, q1, upd_same, r'.step st hr2⟩) _ (er2.step st hr2)
    · exact (show False from o2).elim
  · exact (show False from o2).elim

def mAug (i : Nat) (op : O2) (me : ME) : MS := fun env h => match env[i]? with
  | some (some x) => (me env h).bind fun y h1 => (op h1 x y).bind fun z h2 => .ok (.nx (env.set i (some z))) h2
  | _ => .stuck
theorem ms_aug (i : Nat) {x : Str} {e : Expr} {op : Operator} {f : O2} {me : ME} {pos pos' : Pos} (hN : X.N.Nodup) (ho : OpR X (inplaceOp op) (r2 w EX f)) (he : PE X e (tM w EX me)) (hi : X.N[i]? = some x := by rfl) (hx : Loc X.env.scope x := by first | exact Or.inl rfl | exact Or.inr rfl)
    (hf : X.fn x = true ∨ X.env.scope.names.lookup x = some .local := by first | exact .inl rfl | exact .inr rfl | assumption) : PS X (.AugAssign (.Name x pos') op e pos) (tS w EX (mAug i f me)) := by
  refine PS_imp (ps_aug (ti := r2 w EX f) hN hi hx he ho hf) fun D s H hh => ?_
  obtain ⟨M, rho, env, h, er, hr, oo⟩ := hh
  unfold mAug at oo
  split at oo
  · rename_i x0 e0
    obtain ⟨v, e1, r1⟩ := er.get e0
    refine ⟨v, e1, tM.of er hr (Out.bind oo) fun y h1 M1 rho1 H1 u st1 er1 hr1 o1 ry => ?_⟩
    refine ⟨M1, rho1, h1, x0, y, hr1, r1.step st1 hr, ry, (Out.bind o1).imp fun z h2 M2 rho2 H2 st2 hr2 o2 V rV => ?_⟩
    exact o2.now hr2 _ ((er1.step st2 hr1).set rV i)
  · exact (show False from oo).elim
/-- +=: ints, texts, a list by a list -/
def opIadd : O2 := fun h x y => match x, y with
  | .int i, .int j => .ok (.int (i + j)) h
  | .str a, .str b => bif decide (a.length + b.length ≤ LIM) then .ok (.str (a ++ b)) h else .stuck
  | .ref n, .ref m => match h[n]?, h[m]? with
    | some (.lst xs), some (.lst ys) => bif decide (xs.length + ys.length ≤ LIM) then .ok (.ref n) (h.set n (.lst (xs ++ ys))) else .stuck
    | _, _ => .stuck
  | _, _ => .stuck
theorem o_iadd : OpR X (inplaceOp .Add) (r2 w EX opIadd) := by
  intro pins s σ H x y v u Q I rx ry ⟨M, rho, h, px, py, hr, vx, vy, o⟩
  unfold opIadd at o
  split at o
  · cases vx; cases vy
    exact iop_add pins s σ H _ _ v u Q I rx ry ⟨_, _, rfl, rfl, o.now hr _ (.int _)⟩
  · rename_i a b
    obtain ⟨hl, o⟩ := Out.bif o
    cases vx; cases vy
    refine iop_add_str pins s σ H _ _ v u Q I rx ry ⟨S a, S b, rfl, rfl, by rw [S_len, S_len, lim_eq]; exact of_decide_eq_true hl, ?_⟩
    rw [S_app]
    exact o.now hr _ (.str _)
  · rename_i n m
    split at o
    · rename_i xs ys e0 e1
      obtain ⟨hl, o⟩ := Out.bif o
      obtain ⟨a, vs, rfl, ha, q1, q2⟩ := ref_lst hr vx e0
      obtain ⟨b, us, rfl, hb, p1, p2⟩ := ref_lst hr vy e1
      exact iop_ext pins s σ H _ _ v u Q I rx ry ⟨a, b, vs, us, rfl, rfl, q1, p1, by rw [q2.length, p2.length, lim_eq]; exact of_decide_eq_true hl, KV.put hr ha e0 o vx (q2.append p2)⟩
    · exact (show False from o).elim
  · exact (show False from o).elim
def opIsub : O2 := fun h x y => match x, y with
  | .int i, .int j => .ok (.int (i - j)) h
  | _, _ => .stuck
theorem o_isub : OpR X (inplaceOp .Sub) (r2 w EX opIsub) := by
  intro pins s σ H x y v u Q I rx ry ⟨M, rho, h, px, py, hr, vx, vy, o⟩
  unfold opIsub at o
  split at o
  · cases vx; cases vy
    exact iop_sub pins s σ H _ _ v u Q I rx ry ⟨_, _, rfl, rfl, o.now hr _ (.int _)⟩
  · exact (show False from o).elim
/-- a, b, c = x, y, z: plain local names -/
def mPar3 (i j l : Nat) (ma mb mc : ME) : MS := fun env h => (ma env h).bind fun x h1 => (mb env h1).bind fun y h2 => (mc env h2).bind fun z h3 => .ok (.nx (((env.set i (some x)).set j (some y)).set l (some z))) h3
theorem ms_par3 (C : Cxt w k X) (i j l : Nat) {x y z : Str} {a b c : Expr} {ma mb mc : ME} {px py pz pt pos : Pos} {kt k2 pt2} (hN : X.N.Nodup) (ha : PE X a (tM w EX ma)) (hb : PE X b (tM w EX mb)) (hc : PE X c (tM w EX mc)) (hi : X.N[i]? = some x := by rfl) (hj : X.N[j]? = some y := by rfl) (hl : X.N[l]? = some z := by rfl)
    (hij : i ≠ j := by decide) (hil : i ≠ l := by decide) (hjl : j ≠ l := by decide)
    (hx : X.env.scope.names.lookup x = some .local := by rfl) (hy : X.env.scope.names.lookup y = some .local := by rfl) (hz : X.env.scope.names.lookup z = some .local := by rfl)
    (hw : swappedStores [.Tuple [.Name x px, .Name y py, .Name z pz] kt pt] (.Tuple [a, b, c] k2 pt2) X.env = pure (some [x, y, z]) := by rfl)
    (hs : swapsWithSole [.Tuple [.Name x px, .Name y py, .Name z pz] kt pt] (.Tuple [a, b, c] k2 pt2) pos.line X.env = pure false := by rfl)
    (s1 : starEach [a, b, c] X.env = (false, eval a X.env) :: starEach [b, c] X.env := by rfl) (s2 : starEach [b, c] X.env = (false, eval b X.env) :: starEach [c] X.env := by rfl) (s3 : starEach [c] X.env = (false, eval c X.env) :: starEach [] X.env := by rfl) :
    PS X (.Assign [.Tuple [.Name x px, .Name y py, .Name z pz] kt pt] (.Tuple [a, b, c] k2 pt2) pos) (tS w EX (mPar3 i j l ma mb mc)) := by
  refine PS_imp (ps_par3 C.calm hN hi hj hl hij hil hjl hx hy hz (pa_cons ha (pa_cons hb (pa_cons hc pa_nil s3) s2) s1) hw hs) fun D s H hh => ?_
  obtain ⟨M, rho, env, h, er, hr, o⟩ := hh
  refine tM.of er hr (Out.bind o) fun x h1 M1 rho1 H1 v st1 er1 hr1 o1 rv => ?_
  refine tM.of er1 hr1 (Out.bind o1) fun y h2 M2 rho2 H2 u st2 er2 hr2 o2 ru => ?_
  refine tM.of er2 hr2 (Out.bind o2) fun z h3 M3 rho3 H3 u3 st3 er3 hr3 o3 r3 => ?_
  exact ⟨v, u, u3, rfl, o3.now hr3 _ (((er3.set ((rv.step st2 hr1).step st3 hr2) i).set (ru.step st3 hr2) j).set r3 l)⟩
end
end MC

end
section
set_option maxRecDepth 100000
set_option maxHeartbeats 4000000
namespace MC
open PySem PySem.Spec PyProof.Rows L2

def reprD (h : PH) (x : PV) : Option (List Nat) := match toD h DEP x with
  | some d => bif PyData.showable d && (!d.hasDict && (decide (d.depth ≤ 60) && decide (d.shown.length ≤ LIM))) then some d.shown.cps.toList else none
  | none => none
def isRefV : PV → Bool
  | .tup _ => true
  | .scr _ => true
  | .ref _ => true
  | _ => false
def bRepr : OC := fun h xs => match xs with
  | [x] => bif isRefV x then (match reprD h x with
    | some s => .ok (.str s) h
    | none => .stuck) else .stuck
  | _ => .stuck
section
variable {w : Wo} {EX : XC} {X : Cx} {k : Nat} {M : Addr → Prop} {rho : List Addr} {H : Hp} {h : PH}
theorem b_repr (C : Cxt w k X) : CallR X (.builtin "repr") (rA w EX bRepr) := by
  intro pins s σ H xs us Q I r hh
  obtain ⟨M, rho, h, ps, hr, rs, o⟩ := hh
  unfold bRepr at o
  split at o
  · rename_i x
    obtain ⟨v, rfl, rv⟩ := vrs1 rs
    obtain ⟨u, rfl, ru⟩ := vals1 r
    obtain ⟨hx, o⟩ := Out.bif o
    obtain ⟨a, rfl⟩ : ∃ a, v = .ref a := by
      cases rv <;> first | exact ⟨_, rfl⟩ | exact absurd hx (by simp [isRefV])
    obtain rfl : u = Value.ref a := ru
    unfold reprD at o
    split at o
    · rename_i z ez
      split at ez
      · rename_i d ed
        cases hc : (PyData.showable d && (!d.hasDict && (decide (d.depth ≤ 60) && decide (d.shown.length ≤ LIM)))) with
        | false => rw [hc] at ez; cases ez
        | true =>
          rw [hc] at ez
          cases ez
          simp only [Bool.and_eq_true, decide_eq_true_eq, Bool.not_eq_true'] at hc
          obtain ⟨c1, c2, c3, c4⟩ := hc
          have dp := toD_dp hr _ _ _ _ ed rv
          rw [← C.hK] at dp
          obtain ⟨as, rd⟩ := Dp.reads I d _ _ dp (show RelV (V.ref a) (Value.ref a) from rfl)
          have hu := C.units
          refine repr_of_reads' rd c1 (PyData.noDict_hsm c2) C.grd (by omega) (fun _ _ e => e) (fun h' u tk hk => ?_) (by rw [lim_eq]; exact c4)
          exact ⟨.str d.shown, H, I.kept (t' := tk) hk, ⟨u, rfl⟩, by
            have := o.now hr _ (.str _)
            rw [show (⟨d.shown.cps.toList.toArray⟩ : Str) = d.shown from S_of _] at this
            exact this⟩
      · cases ez
    · exact (show False from o).elim
  · exact (show False from o).elim

def mRev (m : ME) : ME := fun env h => (m env h).bind fun x h1 => match x with
  | .str s => bif decide (s.length ≤ LIM) then .ok (.str s.reverse) h1 else .stuck
  | x => match lstP h1 x with
    | some ys => .ok (.ref h1.length) (h1 ++ [.lst ys.reverse])
    | none => .stuck
theorem VRs.reverse {xs : List PV} {vs : List V} (r : VRs w M rho H xs vs) : VRs w M rho H xs.reverse vs.reverse := by
  induction xs generalizing vs with
  | nil => cases r; exact .nil
  | cons x xs ih =>
    cases r with
    | cons a b =>
      rw [List.reverse_cons, List.reverse_cons]
      exact (ih b).append (.cons a .nil)
theorem str_all (s : List Nat) : (List.range s.length).filterMap (fun i => s.toArray[i]?) = s := by
  have e : (fun (i : Nat) => s.toArray[i]?) = fun (i : Nat) => s[i]? := by funext i; simp
  rw [e]
  have : ∀ (s : List Nat), (List.range s.length).filterMap (fun i => s[i]?) = s := by
    intro s
    induction s with
    | nil => rfl
    | cons x r ih =>
      rw [List.length_cons, List.range_succ_eq_map, List.filterMap_cons]
      simp only [List.getElem?_cons_zero, List.filterMap_map]
      congr 1
  exact this s
theorem rev_made (s : List Nat) (t tk : Tok) : sliceMade (S s) t none none (some (-1, tk)) = Made.str (S s.reverse) := by
  unfold sliceMade
  rw [if_neg (by simp)]
  congr 1
  unfold slicePicked Builtin.Str.strSliceIndices
  have e : (S s).length = s.length := S_len s
  simp only [Option.map_none, Option.map_some, Option.getD_some, e]
  show (⟨_⟩ : Str) = _
  have e2 : (sliceRange ((s.length : Int) - 1) (-1) (-1)) = (List.range s.length).reverse := by rw [PySem.W.krv_sliceRange, PySem.W.krv_range]
  have e3 : ((sliceRange ((s.length : Int) - 1) (-1) (-1)).filterMap ((S s).cps[·]?)) = s.reverse := by
    rw [e2, List.filterMap_reverse]
    exact congrArg List.reverse (str_all s)
  exact congrArg (fun l : List Nat => (⟨l.toArray⟩ : Str)) e3
theorem me_rev {e : Expr} {m : ME} {kc : Nat} {p1 p2 p3 pos : Pos} (C : Cxt w k X) (he : PE X e (tM w EX m)) : PE X (.Subscript e (.Slice none none (some (.UnaryOp .USub (.Constant (.int 1) kc p1) p2)) p3) pos) (tM w EX (mRev m)) := by
  refine ⟨fun pins s σ H Q I hh => ?_⟩
  obtain ⟨M, rho, env, h, er, hr, oo⟩ := hh
  refine Subscript_ (thn (he.run pins s σ H (fun v H1 => ∃ M1 rho1 h1 x, HR w M1 rho1 H1 h1 ∧ VR w M1 rho1 H1 x v ∧ Out w EX M1 rho1 H1 (match x with
    | .str s => bif decide (s.length ≤ LIM) then .ok (.str s.reverse) h1 else .stuck
    | x => match lstP h1 x with
      | some ys => .ok (.ref h1.length) (h1 ++ [.lst ys.reverse])
      | none => .stuck) (MC.KV w Q)) I (tM.of er hr (Out.bind oo) fun x h1 M1 rho1 H1 v st1 er1 hr1 o1 rv => ⟨M1, rho1, h1, x, hr1, rv, o1⟩)) fun v s1 ⟨x, H1, I1, r1, M1, rho1, h1, px, hr1, rv, o1⟩ => ?_)
  have hst : L2.PO X (some (.UnaryOp .USub (.Constant (.int 1) kc p1) p2)) (tPart (tUn (rU fun i => .int (-i)) (tC (.int 1)))) := po_some (pe_un un_neg pe_int)
  refine wpAny_Slice (thn (po_none.run pins s1 σ H1 (fun o H2 => o = none ∧ H2 = H1) I1 ⟨rfl, rfl⟩) fun vl s2 ⟨l, H2, I2, pl, el, e2⟩ => ?_)
  subst el e2
  refine thn (po_none.run pins s2 σ H2 (fun o H3 => o = none ∧ H3 = H2) I2 ⟨rfl, rfl⟩) fun vu s3 ⟨u, H3, I3, pu, eu, e3⟩ => ?_
  subst eu e3
  refine thn (hst.run pins s3 σ H3 (fun o H4 => o = some (-1) ∧ H4 = H3) I3 ⟨1, rfl, -1, rfl, rfl, rfl⟩) fun vs s4 ⟨o, H4, I4, ps, eo, e4⟩ => ?_
  subst eo e4
  have I5 : Inv X pins σ H4 { s4 with heap := s4.heap.push { cls := .type "slice", data := .fields #[vl, vu, vs] } } := I4.kept (t' := s4.toks) fun b ob q => Heap.get?_push_of_some _ q
  show wpAny (model X.prog X.w) X.A (subscriptTail e (.Slice none none (some (.UnaryOp .USub (.Constant (.int 1) kc p1) p2)) p3) v (.ref s4.heap.objs.size)) (EP X pins σ Q) X.xe { s4 with heap := s4.heap.push { cls := .type "slice", data := .fields #[vl, vu, vs] } }
  have lst : ∀ {a : Addr} {us : List V} {ys : List PV}, x = .ref a → SqL w.K H4 a us → VRs w M1 rho1 H4 ys us → Out w EX M1 rho1 H4 (.ok (.ref h1.length) (h1 ++ [.lst ys.reverse])) (MC.KV w Q) →
      wpAny (model X.prog X.w) X.A (subscriptTail e (.Slice none none (some (.UnaryOp .USub (.Constant (.int 1) kc p1) p2)) p3) v (.ref s4.heap.objs.size)) (EP X pins σ Q) X.xe { s4 with heap := s4.heap.push { cls := .type "slice", data := .fields #[vl, vu, vs] } } := fun {a us ys} ex hx sa o => by
    subst ex
    cases r1
    rw [← C.hK] at hx
    obtain ⟨its, r, ht, hz⟩ := I5.list hx
    have hlen := r.length
    refine tail_any (ops := [.ref a, .ref s4.heap.objs.size]) ht.isList.typeIs (PySem.slot_list_getitem.lookup) ?_ (by with_unfolding_all rfl)
    refine wpAny_getItem_list_slice ht.isList (Heap.IsSliceOf.new _ vl vu vs) pl pu ps (by decide) ?_ (by rw [List.size_toArray]; omega)
    rw [PySem.W.krv_pick]
    refine ⟨.ref _, _, I5.laid (t' := s4.toks) (o := .lst us.reverse) (fun b ob q => Heap.get?_push_of_some _ q) (Nat.le_refl _) ?_, rfl, KV.lst hr1 o sa.reverse _ (I5.hok.fresh (Nat.le_refl _))⟩
    exact ⟨by rw [List.length_reverse]; exact hz, _, 0, r.reverse, Heap.get?_push_size _ rfl⟩
  have rest : ∀ {ys : List PV}, lstP h1 px = some ys → Out w EX M1 rho1 H4 (.ok (.ref h1.length) (h1 ++ [.lst ys.reverse])) (MC.KV w Q) →
      wpAny (model X.prog X.w) X.A (subscriptTail e (.Slice none none (some (.UnaryOp .USub (.Constant (.int 1) kc p1) p2)) p3) v (.ref s4.heap.objs.size)) (EP X pins σ Q) X.xe { s4 with heap := s4.heap.push { cls := .type "slice", data := .fields #[vl, vu, vs] } } := fun {ys} ep o => by
    obtain ⟨a, us, ex, sa, q⟩ := lst_ok hr1 rv ep
    exact lst ex q sa o
  split at o1
  · rename_i z
    obtain ⟨hl, o1⟩ := Out.bif o1
    cases rv
    obtain ⟨t, rfl⟩ := (show ∃ t, v = Value.str (S z) t from r1)
    obtain ⟨tk, rfl⟩ : ∃ tk, vs = Value.int (-1) tk := by cases ps; exact ⟨_, rfl⟩
    refine tail_any (T := "str") (ops := [.ref s4.heap.objs.size, .str (S z) t]) (typeIs_str _ _ _) F.slot_str_getitem.lookup ?_ (by with_unfolding_all rfl)
    cases pl
    cases pu
    refine wpAny_getItem_str_slice (l := none) (u := none) (st := some (-1, tk)) ⟨_, Heap.get?_push_size _ rfl, rfl, rfl⟩ (by rfl) ?_
    rw [rev_made]
    refine ⟨?_, .str (S z.reverse), H4, ?_, ⟨_, rfl⟩, o1.now hr1 _ (.str _)⟩
    · rw [S_len, List.length_reverse, lim_eq]; exact of_decide_eq_true hl
    · exact I5.tok _
  · split at o1
    · rename_i ys ep
      exact rest ep o1
    · exact (show False from o1).elim
end
end MC

end
section
set_option maxRecDepth 100000
set_option maxHeartbeats 4000000
namespace MC
open PySem PySem.Spec PyProof.Rows L2

set_option maxHeartbeats 8000000 in
theorem newEnum {v : Value} {o : Obj} {H : Heap → Prop} (B : Begins v o H) :
    Meets (Builtin.«enumerate.__new__» ⟨[.type "enumerate", v], []⟩) (fun _ R s => H s.heap ∧
      R (.ok (.ret (.ref (s.heap.push o).objs.size))) { s with heap := (s.heap.push o).push { cls := .type "enumerate", data := .fields #[.none, .bool false, .ref s.heap.objs.size, rawInt 0, .none, .none] } }) :=
  .of_wp fun prog w A R s h => by
    obtain ⟨hp, g, d, tk, os⟩ := s; obtain ⟨h1, h⟩ := h
    have hsub := sub_enumerate
    have begun : ∀ {A' : Around} {E : Value → Shared → Prop} {Q : Value → Shared → Prop}, Q (.ref hp.objs.size) ⟨hp.push o, g, d, tk, os⟩ → wpAny (model prog w) A' (pyIter v) Q E ⟨hp, g, d, tk, os⟩ :=
      fun q => B.iter prog w _ _ ⟨hp, g, d, tk, os⟩ _ h1 q
    wp_walk using begun
    refine wpAny_stack_any fun st => wpAny_pure ?_
    split
    · rename_i c _ _ _ _ _
      cases (c == Value.type "enumerate") <;> (wp_walk using begun; exact ⟨_, rfl, h⟩)
    · wp_walk using begun
      exact ⟨_, rfl, h⟩
section
variable {prog : Program} {w : World} {A : Around} {E : Value → Shared → Prop} {s : Shared}
theorem callEnum {v : Value} {o : Obj} {H : Heap → Prop} {Q : Value → Shared → Prop} (B : Begins v o H) (h1 : H s.heap)
    (h : ∀ h', IsEnum h' (s.heap.objs.size + 1) s.heap.objs.size 0 .none → h'.get? s.heap.objs.size = some o → h'.objs.size = s.heap.objs.size + 2 →
      (∀ b o, s.heap.get? b = some o → h'.get? b = some o) → Q (.ref (s.heap.objs.size + 1)) { s with heap := h' }) :
    wpAny (model prog w) A (call (.type "enumerate") [v]) Q E s := by
  refine callType_new F.called_enumerate (by decide) (F.typeCall_enumerate_1 _) (F.newCall_enumerate_1 _) (fun obj => F.args_object_init_2 obj _) F.entry_enumerate_new (newEnum B) ⟨h1, ?_⟩
  have sz : (s.heap.push o).objs.size = s.heap.objs.size + 1 := Heap.size_push ..
  show _ ∧ _
  rw [sz]
  have en : IsEnum ((s.heap.push o).push { cls := .type "enumerate", data := .fields #[.none, .bool false, .ref s.heap.objs.size, rawInt 0, .none, .none] }) (s.heap.objs.size + 1) s.heap.objs.size 0 .none := by
    have z := Heap.get?_push_size (s.heap.push o) (o := { cls := .type "enumerate", data := .fields #[.none, .bool false, .ref s.heap.objs.size, rawInt 0, .none, .none] }) rfl
    rw [sz] at z; exact z
  refine ⟨⟨_, en, rfl⟩, h _ en (Heap.get?_push_of_some _ (Heap.get?_push_size _ B.free)) (by rw [Heap.size_push, sz]) fun b o x => Heap.get?_push_of_some _ (Heap.get?_push_of_some _ x)⟩
end

/-- the tuple at a, each item with its number in a new pair -/
def ItE (K : PySem.W.Frag) (a : Addr) : It :=
  ⟨fun i H => ∃ (xs : List V) (x : V), SqT K H a xs ∧ xs[i]? = some x, fun i H v H' => ∃ T x, v = .ref T ∧ H T = none ∧ H' = upd H T (.tup [.int (i : Nat), x]) ∧ ∀ xs, SqT K H a xs → xs[i]? = some x, fun i H => ∃ xs : List V, SqT K H a xs ∧ xs.length ≤ i⟩
theorem turnE {P : Program} {w : World} {K : PySem.W.Frag} {elts : List Expr} {kk : Nat} {tpos : Pos} (a e it : Addr) :
    Turn P w K (.Tuple elts kk tpos) (ItE K a) [e, it] e (fun i h => (∃ old, IsEnum h e it ((i : Nat) : Int) old) ∧ h.IsTupleIter it a i ∧ e ≠ it ∧ a ≠ it ∧ a ≠ e) where
  mem := by simp
  obj := fun i h st b hb => by
    obtain ⟨⟨old, he⟩, ⟨o, ho, hc, hd⟩, _⟩ := st
    have e' : b = e ∨ b = it := by simpa using hb
    rcases e' with rfl | rfl
    · exact ⟨_, he, fun v q => nomatch q⟩
    · exact ⟨o, ho, fun v q => by rw [hd] at q; cases q⟩
  keep := fun i h h' st k => by
    obtain ⟨⟨old, he⟩, hi, hne⟩ := st
    exact ⟨⟨old, k e (by simp) _ he⟩, hi.at fun o q => k it (by simp) o q, hne⟩
  item := by
    intro X hP hw hK hc i pins s σ H E I hf st hg
    subst hP hw hK
    obtain ⟨⟨old, he⟩, hit, hne, ha1, ha2⟩ := st
    obtain ⟨xs, x, hq, hx⟩ := hg
    obtain ⟨its, rv, p, hz⟩ := I.tuple hq
    obtain ⟨u, hu, ru⟩ := rv.get hx
    have hel : e < s.heap.objs.size := Heap.lt_size he
    have hil : it < s.heap.objs.size := by obtain ⟨_, q, _⟩ := hit; exact Heap.lt_size q
    have D := Draws.tuple (prog := X.prog) (w := X.w) (A := X.A.in1) (by exact (I.ok.hd hc : X.A.handled = none)) it a ha1 its.toArray
    have hlt : i < its.toArray.size := by
      rw [List.size_toArray]
      exact (List.getElem?_eq_some_iff.mp hu).1
    refine wpAny_pyNext_enum_itemD D he ⟨hit, p⟩ hlt hne (by simp [hne, Ne.symm ha2]) fun z h' tk hPz ho hst hT hsz hk => ?_
    have ez : z = u := by
      have z1 : its.toArray[i]? = some u := by simpa using hu
      rw [show its.toArray[i]? = some z from hPz] at z1
      exact Option.some.inj z1
    subst ez
    refine ⟨_, rfl, wpAny_letOwnedTupleGo_enum (s := { s with heap := h', toks := tk + 1 }) ho fun h'' he' sb => ?_⟩
    have hT2 : h''.get? s.heap.objs.size = some { cls := .type "tuple", data := .seq #[.int i tk, z] } := (sb.2 _ (Nat.ne_of_gt hel)).trans hT
    have new : ObjOk X.prog X.w (upd H s.heap.objs.size (.tup [.int (i : Nat), x])) h'' s.heap.objs.size (.tup [.int (i : Nat), x]) :=
      ⟨by show 2 ≤ sizeLine; decide, [.int i tk, z], .cons ⟨_, rfl⟩ (.cons ru .nil), ⟨_, hT2, rfl, _, rfl⟩⟩
    have I1 : Inv X pins σ (upd H s.heap.objs.size (.tup [.int (i : Nat), x])) { s with heap := h'', toks := tk + 1 } :=
      I.turnedNew (ch := [e, it]) (fun b ob hb q => (sb.2 b (fun z => hb (by simp [z]))).trans (hk b ob (fun z => hb (by simp [z])) (fun z => hb (by simp [z])) q)) hf (Nat.le_refl _) new
    refine ⟨.ref s.heap.objs.size, _, I1, rfl, ⟨_, x, rfl, I.hok.fresh (Nat.le_refl _), rfl, fun ys hy => by rw [I.tuple_inj hy hq]; exact hx⟩, ⟨⟨z, ?_⟩, hst.1.at fun o q => (sb.2 it (Ne.symm hne)).trans q, hne, ha1, ha2⟩, fun b hb => ?_⟩
    · have e1 : ((i + 1 : Nat) : Int) = (i : Int) + 1 := by omega
      rw [e1]; exact he'
    · have hb' : b < s.heap.objs.size := by
        have e' : b = e ∨ b = it := by simpa using hb
        rcases e' with rfl | rfl
        · exact hel
        · exact hil
      rw [upd_ne (Nat.ne_of_lt hb')]
      exact (hf b hb).1
  done := by
    intro X hP hw hK hc i pins s σ H E I hf st hg
    subst hP hw hK
    obtain ⟨⟨old, he⟩, hit, hne, ha1, ha2⟩ := st
    obtain ⟨xs, hq, hx⟩ := hg
    obtain ⟨its, rv, p, hz⟩ := I.tuple hq
    obtain ⟨f0, f1, f2, f3, f4, f5⟩ := hf it (by simp)
    have hl := rv.length
    have hL : its.toArray.size ≤ i := by rw [List.size_toArray]; omega
    unfold pyNext
    refine wpAny_bind (wpAny_attempt (wpAny_callSpecial?_slot (name := Str.ofString "__next__") (T := "enumerate") ⟨_, he, rfl⟩ F.slot_enumerate_next
      (wpAny_call_entry F.slot_enumerate_next (show s.TypeIs (.ref e) "enumerate" from ⟨_, he, rfl⟩) F.entry_enumerate_next ?_ (F.args_enumerate_next_1 _))))
    show wpAny _ _ (field (.ref e) 2 >>= _) _ _ _
    refine wpAny_bind (wpAny_field he rfl (x := .ref it) rfl ?_)
    refine wpAny_bind (wpAny_nextOf_tuple_end (by exact (I.ok.hd hc : X.A.handled = none)) hit p (by simp; omega) fun h' x eb hx' => ?_)
    obtain ⟨o, ho, hcl⟩ := hx'
    refine wpAny_bind (wpAny_isInstance (T := "StopIteration") (b := true) ⟨o, ho, hcl⟩ isSubtype_stop ?_)
    exact wpAny_pure ⟨rfl, I.turned (t' := s.toks) (fun b o hb q => eb b o hb q) f0 f1 f3 f4 f5⟩
  self := fun A i s Q E st h => let ⟨⟨_, he⟩, _⟩ := st; wpAny_pyIter_enum he h

/-- the pairs of numbers and items -/
def numbered : Nat → List PV → List PV
  | _, [] => []
  | i, x :: r => .tup [.int i, x] :: numbered (i + 1) r
theorem numbered_get : ∀ (xs : List PV) (j i : Nat), (numbered j xs)[i]? = match xs[i]? with
    | some x => some (.tup [.int ((j + i : Nat) : Int), x])
    | none => none
  | [], j, i => by simp [numbered]
  | x :: r, j, 0 => by simp [numbered]
  | x :: r, j, i + 1 => by
    have := numbered_get r (j + 1) i
    simp only [numbered, List.getElem?_cons_succ]
    rw [this]
    have e : j + 1 + i = j + (i + 1) := by omega
    rw [e]
theorem numbered_len : ∀ (xs : List PV) (j : Nat), (numbered j xs).length = xs.length
  | [], _ => rfl
  | x :: r, j => by simp [numbered, numbered_len r (j + 1)]
/-- what must stay of a source -/
def wtOf (ys : List PV) : PV → Wt
  | .ref n => [(n, ys)]
  | _ => []
def miEnum (ma : MA) : MI := fun env h => (ma env h).bind fun xs h1 => match xs with
  | [x] => match seqP h1 x with
    | some ys => .ok (numbered 0 ys, wtOf ys x) h1
    | none => .stuck
  | _ => .stuck
section
variable {w : Wo} {EX : XC} {X : Cx} {k : Nat} {M : Addr → Prop} {rho : List Addr} {H : Hp} {h : PH}
theorem pair_new {H1 : Hp} {T : Addr} {x y : PV} {u v : V} {M1 : Addr → Prop} {rho1 : List Addr} {h1 : PH} (hr : HR w M1 rho1 H1 h1) (n : H1 T = none) (rx : VR w M1 rho1 H1 x u) (ry : VR w M1 rho1 H1 y v) :
    (∀ b o, H1 b = some o → upd H1 T (.tup [u, v]) b = some o) ∧ VR w M1 rho1 (upd H1 T (.tup [u, v])) (.tup [x, y]) (.ref T) := by
  have st : Step M1 rho1 H1 M1 rho1 (upd H1 T (.tup [u, v])) := Step.grow (same_upd n)
  exact ⟨same_upd n, .tup (SqT.of upd_same) (.cons (rx.step st hr) (.cons (ry.step st hr) .nil))⟩
theorem gives_enumL {ys : List PV} {wt : Wt} {a : Addr} (hs : ∀ {M1 : Addr → Prop} {rho1 : List Addr} {H1 : Hp} {h1 : PH}, Step M rho H M1 rho1 H1 → HR w M1 rho1 H1 h1 → watch wt h1 = true → ∃ vs, SqL w.K H1 a vs ∧ VRs w M1 rho1 H1 ys vs) : Gives w M rho H (numbered 0 ys) wt (Ite w.K a) := by
  refine ⟨fun {M1 rho1 H1 h1} st hr hw i => ?_⟩
  obtain ⟨vs, q, rv⟩ := hs st hr hw
  have W := walk_enum (K := w.K) (a := a) (xs := vs)
  rw [rv.length] at W
  rw [numbered_len]
  refine ⟨fun hi => W.goes i H1 hi q, fun hi => by subst hi; exact W.stops H1 q, fun v H' hi y => ?_⟩
  obtain ⟨T, x, u, e1, e2, e3, e4, e5⟩ := W.yields i H1 v H' hi q y
  subst e1; subst e3
  cases e4
  obtain ⟨z, hz⟩ : ∃ z, ys[i]? = some z := ⟨_, List.getElem?_eq_getElem hi⟩
  obtain ⟨v', f1, f2⟩ := rv.get hz
  have e5 : vs[i]? = some u := e5
  rw [e5] at f1
  cases f1
  obtain ⟨g1, g2⟩ := pair_new hr e2 (.int ((i : Nat) : Int)) f2
  exact ⟨g1, _, by rw [numbered_get, hz, Nat.zero_add], g2⟩
theorem gives_enumT {ys : List PV} {a : Addr} {vs : List V} (hr0 : HR w M rho H h) (q : SqT w.K H a vs) (rv : VRs w M rho H ys vs) : Gives w M rho H (numbered 0 ys) [] (ItE w.K a) := by
  refine ⟨fun {M1 rho1 H1 h1} st hr hw i => ?_⟩
  have q := st.sqT hr0 q
  have rv := rv.step st hr0
  rw [numbered_len]
  refine ⟨fun hi => ?_, fun hi => ?_, fun v H' hi y => ?_⟩
  · obtain ⟨z, hz⟩ : ∃ z, ys[i]? = some z := ⟨_, List.getElem?_eq_getElem hi⟩
    obtain ⟨v', f1, _⟩ := rv.get hz
    exact ⟨vs, v', q, f1⟩
  · subst hi
    exact ⟨vs, q, by rw [rv.length]; exact Nat.le_refl _⟩
  · obtain ⟨T, x, e1, e2, e3, e4⟩ := y
    subst e1; subst e3
    obtain ⟨z, hz⟩ : ∃ z, ys[i]? = some z := ⟨_, List.getElem?_eq_getElem hi⟩
    obtain ⟨v', f1, f2⟩ := rv.get hz
    rw [e4 vs q] at f1
    cases f1
    obtain ⟨g1, g2⟩ := pair_new hr e2 (.int ((i : Nat) : Int)) f2
    exact ⟨g1, _, by rw [numbered_get, hz, Nat.zero_add], g2⟩
/-- a list's items stay while it is watched -/
theorem lst_stays (hr : HR w M rho H h) {x : PV} {v : V} {ys : List PV} (r : VR w M rho H x v) (e : lstP h x = some ys) : ∃ a, v = .ref a ∧ (∃ vs, SqL w.K H a vs) ∧ ∀ {M1 : Addr → Prop} {rho1 : List Addr} {H1 : Hp} {h1 : PH}, Step M rho H M1 rho1 H1 → HR w M1 rho1 H1 h1 →
    watch (wtOf ys x) h1 = true → ∃ vs, SqL w.K H1 a vs ∧ VRs w M1 rho1 H1 ys vs := by
  cases r with
  | scr q s => cases e; exact ⟨_, rfl, ⟨_, q.sq⟩, fun st hr1 _ => ⟨_, (st.scr hr q).sq, s.step st hr⟩⟩
  | @ref n a ha =>
    simp only [lstP] at e
    split at e
    · rename_i zs e0
      cases e
      obtain ⟨a', ha', vs, q1, q2⟩ := hr.ob _ _ e0
      rw [ha] at ha'
      cases ha'
      refine ⟨a, rfl, ⟨vs, .inl (.inl q1)⟩, fun st hr1 hw => ?_⟩
      obtain ⟨a2, ha2, vs2, z1, z2⟩ := hr1.ob _ _ (watch_one hw)
      rw [st.ext _ _ ha] at ha2
      cases ha2
      exact ⟨vs2, .inl (.inl z1), z2⟩
    · cases e
  | _ => cases e
theorem seq_cases {x : PV} {ys : List PV} (e : seqP h x = some ys) : x = .tup ys ∨ lstP h x = some ys := by
  cases x <;> first
    | exact .inr e
    | (cases e; exact .inl rfl)
    | (cases e; done)
theorem mi_enum {e : Expr} {ma : MA} {p pos tpos : Pos} {elts : List Expr} {kk : Nat} (C : Cxt w k X) (hg : Gl X "enumerate") (hm : X.mg "enumerate" = none) (ha : PA X [e] (tA w EX ma)) (hs : starEach [e] X.env = [(false, eval e X.env)] := by rfl) :
    PI X (.Tuple elts kk tpos) (.Call (.Name "enumerate" p) [e] [] pos) (tI w EX (miEnum ma)) := by
  refine ⟨fun pins s σ H R I hh => ?_⟩
  obtain ⟨M, rho, env, h, er, hr, oo⟩ := hh
  refine Call_ (ld_blt I hg hm boot_enumerate (PyProof.Rows.callWith_type1 (thn (ha.run pos pins s σ H _ I (tA.of er hr (Out.bind oo) fun xs h1 M1 rho1 H1 vs st1 er1 hr1 o1 rs =>
    (⟨M1, rho1, h1, xs, hr1, rs, o1⟩ : ∃ M1 rho1 h1 xs, HR w M1 rho1 H1 h1 ∧ VRs w M1 rho1 H1 xs vs ∧ Out w EX M1 rho1 H1 (match xs with
      | [x] => match seqP h1 x with
        | some ys => .ok (numbered 0 ys, wtOf ys x) h1
        | none => .stuck
      | _ => .stuck) (KI w R)))) fun us s1 ⟨vs, H1, I1, r1, M1, rho1, h1, xs, hr1, rs, o1⟩ => ?_) hs rfl))
  split at o1
  · rename_i x
    obtain ⟨v, rfl, rv⟩ := vrs1 rs
    obtain ⟨u, rfl, ru⟩ := vals1 r1
    split at o1
    · rename_i ys es
      have q := o1.now hr1
      rcases seq_cases es with rfl | el
      · cases rv with
        | @tup _ us' a sq rs' =>
          obtain rfl : u = Value.ref a := ru
          have hR := q _ (gives_enumT hr1 sq rs')
          rw [← C.hK] at hR sq
          obtain ⟨its, rv, p', hz⟩ := I1.tuple sq
          have hal : a < s1.heap.objs.size := by obtain ⟨_, q, _⟩ := (show s1.heap.IsTuple a its.toArray from p'); exact Heap.lt_size q
          refine callEnum (begins_tuple a its.toArray) p' fun h' he hit hsz hk => wpAny_pyIter_enum he ?_
          have I2 : Inv X pins σ H1 { s1 with heap := h' } := I1.kept (t' := s1.toks) hk
          refine ⟨s1.heap.objs.size + 1, [s1.heap.objs.size + 1, s1.heap.objs.size], _, _, H1, rfl, I2, turnE a (s1.heap.objs.size + 1) s1.heap.objs.size, ⟨⟨.none, he⟩, ⟨_, hit, rfl, rfl⟩, Nat.succ_ne_self _, Nat.ne_of_lt hal, Nat.ne_of_lt (Nat.lt_succ_of_lt hal)⟩, fun b hb => ?_, hR⟩
          have e' : b = s1.heap.objs.size + 1 ∨ b = s1.heap.objs.size := by simpa using hb
          have hle : s1.heap.objs.size ≤ b := by rcases e' with rfl | rfl <;> omega
          exact I1.fpOk hle (I1.hok.fresh hle)
      · obtain ⟨a, rfl, ⟨vs, hq⟩, hst⟩ := lst_stays hr1 rv el
        obtain rfl : u = Value.ref a := ru
        have hR := q _ (gives_enumL hst)
        rw [← C.hK] at hR hq
        obtain ⟨its, rv, p', hz⟩ := I1.list hq
        refine call_enumerate_list p'.isList fun h' he hit hsz hk => wpAny_pyIter_enum he ?_
        have I2 : Inv X pins σ H1 { s1 with heap := h' } := I1.kept (t' := s1.toks) hk
        refine ⟨s1.heap.objs.size + 1, [s1.heap.objs.size + 1, s1.heap.objs.size], _, _, H1, rfl, I2, turn_enum a (s1.heap.objs.size + 1) s1.heap.objs.size, ⟨⟨.none, he⟩, hit, Nat.succ_ne_self _⟩, fun b hb => ?_, hR⟩
        have e' : b = s1.heap.objs.size + 1 ∨ b = s1.heap.objs.size := by simpa using hb
        have hle : s1.heap.objs.size ≤ b := by rcases e' with rfl | rfl <;> omega
        exact I1.fpOk hle (I1.hok.fresh hle)
    · exact (show False from o1).elim
  · exact (show False from o1).elim
end
end MC

end
section
set_option maxRecDepth 100000
set_option maxHeartbeats 4000000
namespace MC
open PySem PySem.Spec PyProof.Rows L2

def pairs : List PV → List PV → List PV
  | x :: xs, y :: ys => .tup [x, y] :: pairs xs ys
  | _, _ => []
theorem pairs_len : ∀ (xs ys : List PV), (pairs xs ys).length = min xs.length ys.length
  | [], _ => by simp [pairs]
  | _ :: _, [] => by simp [pairs]
  | x :: xs, y :: ys => by simp only [pairs, List.length_cons, pairs_len xs ys]; omega
theorem pairs_get : ∀ {xs ys : List PV} {i : Nat} {x y : PV}, xs[i]? = some x → ys[i]? = some y → (pairs xs ys)[i]? = some (.tup [x, y])
  | [], _, _, _, _, h, _ => by simp at h
  | _ :: _, [], _, _, _, _, h => by simp at h
  | x :: xs, y :: ys, 0, _, _, h, g => by simp at h g; subst h; subst g; rfl
  | x :: xs, y :: ys, i + 1, _, _, h, g => by
    simp only [pairs, List.getElem?_cons_succ]
    exact pairs_get (by simpa using h) (by simpa using g)
def miZip (ma : MA) : MI := fun env h => (ma env h).bind fun xs h1 => match xs with
  | [x, y] => match x, y with
    | .tup xs, .tup ys => .ok (pairs xs ys, []) h1
    | x, y => match lstP h1 x, lstP h1 y with
      | some xs, some ys => .ok (pairs xs ys, wtOf xs x ++ wtOf ys y) h1
      | _, _ => .stuck
  | _ => .stuck
section
variable {w : Wo} {EX : XC} {X : Cx} {k : Nat} {M : Addr → Prop} {rho : List Addr} {H : Hp} {h : PH}
theorem watch_app : ∀ {a b : Wt} {h : PH}, watch (a ++ b) h = true → watch a h = true ∧ watch b h = true
  | [], _, _, e => ⟨rfl, e⟩
  | (n, xs) :: r, b, h, e => by
    rw [List.cons_append] at e
    unfold watch at e
    rw [Bool.and_eq_true] at e
    obtain ⟨e1, e2⟩ := watch_app e.2
    refine ⟨?_, e2⟩
    unfold watch
    rw [Bool.and_eq_true]
    exact ⟨e.1, e1⟩
theorem zip_yield {xs ys : List PV} {vs us : List V} {H1 : Hp} {M1 : Addr → Prop} {rho1 : List Addr} {h1 : PH} (hr : HR w M1 rho1 H1 h1) (rx : VRs w M1 rho1 H1 xs vs) (ry : VRs w M1 rho1 H1 ys us) {i : Nat} {T : Addr} {x y : V} (n : H1 T = none) (ex : vs[i]? = some x) (ey : us[i]? = some y) :
    (∀ b o, H1 b = some o → upd H1 T (.tup [x, y]) b = some o) ∧ ∃ z, (pairs xs ys)[i]? = some z ∧ VR w M1 rho1 (upd H1 T (.tup [x, y])) z (.ref T) := by
  have l1 : i < xs.length := by rw [← rx.length]; exact (List.getElem?_eq_some_iff.mp ex).1
  have l2 : i < ys.length := by rw [← ry.length]; exact (List.getElem?_eq_some_iff.mp ey).1
  obtain ⟨v', f1, f2⟩ := rx.get (List.getElem?_eq_getElem l1)
  obtain ⟨u', f3, f4⟩ := ry.get (List.getElem?_eq_getElem l2)
  rw [ex] at f1
  rw [ey] at f3
  cases f1
  cases f3
  obtain ⟨g1, g2⟩ := pair_new hr n f2 f4
  exact ⟨g1, _, pairs_get (List.getElem?_eq_getElem l1) (List.getElem?_eq_getElem l2), g2⟩
theorem mi_zip {e e2 : Expr} {ma : MA} {p pos tpos : Pos} {elts : List Expr} {kk : Nat} (C : Cxt w k X) (hg : Gl X "zip") (hm : X.mg "zip" = none) (ha : PA X [e, e2] (tA w EX ma))
    (hs : starEach [e, e2] X.env = (false, eval e X.env) :: starEach [e2] X.env := by rfl) (hpl : (backTo pos (starEach [e2] X.env)).any (·.1) = false := by rfl) :
    PI X (.Tuple elts kk tpos) (.Call (.Name "zip" p) [e, e2] [] pos) (tI w EX (miZip ma)) := by
  refine PI.imp (RZ.pi_zipA hg hm ha hs hpl) fun σ H R hh => ?_
  obtain ⟨M, rho, env, h, er, hr, oo⟩ := hh
  refine tA.of er hr (Out.bind oo) fun xs h1 M1 rho1 H1 vs st1 er1 hr1 o1 rs => ?_
  split at o1
  · rename_i x y
    obtain ⟨v, u, rfl, rv, ru⟩ := vrs2 rs
    split at o1
    · rename_i xs ys
      have q := o1.now hr1
      cases rv with
      | @tup _ vs a sa ra =>
        cases ru with
        | @tup _ us b sb rb =>
          refine ⟨a, b, vs, us, rfl, .inr ⟨by rw [C.hK]; exact sa, by rw [C.hK]; exact sb, ?_⟩⟩
          rw [C.hK]
          refine q _ ⟨fun {M2 rho2 H2 h2} st hr2 hw i => ?_⟩
          have sa := st.sqT hr1 sa
          have sb := st.sqT hr1 sb
          have ra := ra.step st hr1
          have rb := rb.step st hr1
          rw [pairs_len]
          refine ⟨fun hi => ?_, fun hi => ⟨vs, us, sa, sb, by rw [ra.length, rb.length]; omega⟩, fun v H' hi y => ?_⟩
          · have l1 : i < vs.length := by rw [ra.length]; omega
            have l2 : i < us.length := by rw [rb.length]; omega
            exact ⟨vs, us, vs[i], us[i], sa, sb, List.getElem?_eq_getElem l1, List.getElem?_eq_getElem l2⟩
          · obtain ⟨T, x, z, e1, e2, e3, e4, e5⟩ := y
            subst e1; subst e3
            exact zip_yield hr2 ra rb e2 (e4 vs sa) (e5 us sb)
    · split at o1
      · rename_i xs ys ex ey
        have q := o1.now hr1
        obtain ⟨a, rfl, ⟨vs0, hq1⟩, s1⟩ := lst_stays hr1 rv ex
        obtain ⟨b, rfl, ⟨us0, hq2⟩, s2⟩ := lst_stays hr1 ru ey
        refine ⟨a, b, vs0, us0, rfl, .inl ⟨by rw [C.hK]; exact hq1, by rw [C.hK]; exact hq2, ?_⟩⟩
        rw [C.hK]
        refine q _ ⟨fun {M2 rho2 H2 h2} st hr2 hw i => ?_⟩
        obtain ⟨w1, w2⟩ := watch_app hw
        obtain ⟨vs, sa, ra⟩ := s1 st hr2 w1
        obtain ⟨us, sb, rb⟩ := s2 st hr2 w2
        rw [pairs_len]
        refine ⟨fun hi => ?_, fun hi => ⟨vs, us, sa, sb, by rw [ra.length, rb.length]; omega⟩, fun v H' hi y => ?_⟩
        · have l1 : i < vs.length := by rw [ra.length]; omega
          have l2 : i < us.length := by rw [rb.length]; omega
          exact ⟨vs, us, vs[i], us[i], sa, sb, List.getElem?_eq_getElem l1, List.getElem?_eq_getElem l2⟩
        · obtain ⟨T, x, z, e1, e2, e3, e4, e5⟩ := y
          subst e1; subst e3
          exact zip_yield hr2 ra rb e2 (e4 vs sa) (e5 us sb)
      · exact (show False from o1).elim
  · exact (show False from o1).elim
end
end MC

end
section
set_option maxRecDepth 100000
set_option maxHeartbeats 4000000
namespace MC
open PySem PySem.Spec PyProof.Rows L2

theorem kit_tc {K : PySem.W.Frag} {C : Addr} {cd : ClassData} {a : String} {b : Bool} (h1 : PySem.W.clsIn K C = some cd) (h2 : PySem.W.typeIn K (.ref C) = some (.type "type")) (h3 : PySem.W.subIn K (.type a) (.ref C) = some b) : PySem.W.kitOne K (.type a) (.ref C) = some b := by
  unfold PySem.W.kitOne PySem.W.kitCls
  have e : (Value.type a == Value.ref C) = false := rfl
  simp only [e, h1, h2, h3]
  rfl
theorem kit_ct {K : PySem.W.Frag} {C : Addr} {T : String} {b : Bool} (h1 : PySem.W.kitMeta T = true) (h3 : PySem.W.subIn K (.ref C) (.type T) = some b) : PySem.W.kitOne K (.ref C) (.type T) = some b := by
  unfold PySem.W.kitOne PySem.W.kitCls
  have e : (Value.ref C == Value.type T) = false := rfl
  simp only [e, h1, h3]
  rfl
theorem kit_cc {K : PySem.W.Frag} {C : Addr} : PySem.W.kitOne K (.ref C) (.ref C) = some true := if_pos (beq_self_eq_true _)
abbrev EXF : XC := fun _ _ _ _ _ _ => False
abbrev exF : XK → XC := fun _ => EXF
/-- a call of a def; a class made and taken over as a value -/
@[reducible] def opF (m : MF) (ix : List Nat) (dp : List PV) : OC := fun h xs => callG takeBack m (gI ix (xs ++ dp)) h
@[reducible] def opC (c : Nat) (m : MF) (ix : List Nat) (dp : List PV) : OC := fun h xs => callG takeFrz (initM c m ix dp) xs h
/-- a while's turns -/
def WF : Nat := 20000
/-- the law's reading: the script is an unchanging list of ints -/
theorem law_reads {w : Wo} {EX : XC} {m : MF} {H : Hp} {a : Addr} {ns : List Int} (hO : Only H) (hS : SqL w.K H a (ns.map V.int)) (hm : ∃ h, m [.scr (ns.map PV.int)] [] = .ok (.bl true) h) :
    spM w EX m [.ref a] H fun v _ => v = .bl true := by
  obtain ⟨h, hm⟩ := hm
  have rs : ∀ ns : List Int, VRs w (fun _ => False) [] H (ns.map PV.int) (ns.map V.int) := fun ns => by
    induction ns with
    | nil => exact .nil
    | cons n r ih => exact .cons (.int n) ih
  have hL : ScrL w (fun _ => False) H a (ns.map V.int) := by
    rcases hS with (q | ⟨o, q⟩) | q
    · rcases hO a with z | ⟨o, xs, z⟩ <;> (rw [q] at z; cases z)
    · exact .inr ⟨o, q, fun z => z⟩
    · exact .inl q
  refine ⟨fun _ => False, [], [.scr (ns.map PV.int)], [], .cons (.scr hL (rs ns)) .nil, ⟨rfl, List.nodup_nil, (fun _ z => nomatch z), (fun _ z => z.elim), fun n o z => by simp at z⟩, ?_⟩
  rw [hm]
  intro M' rho' H' st hr v rv
  cases rv
  rfl

theorem law_run {P : Program} {W : World} {K : PySem.W.Frag} {mg mb : Str → Option Value} {k : Nat} {fa a : Addr} {fd : FuncData} {x : Str} {m : MF} {s : Shared} {vs : List Value} {ns : List Int}
    (kin : K.In s.heap) (nsG : s.heap.Ns mainGlobals mg) (nsB : s.heap.Ns builtinsNs mb) (isB : ∀ y : Str, y ≠ "__name__" → mb y = bootBuiltins y) (noL : s.heap.NoLimit) (gen0 : s.gens = #[])
    (at0 : s.heap.get? a = some { cls := .type "list", data := .seq vs.toArray }) (areI : IntsAre vs ns) (le : ns.length ≤ sizeLine) (room : Room k callerA)
    (F : ∀ base : Heap, K.In base → base.Ns mainGlobals mg → ∃ w : Wo, w.K = K ∧ FnM P W w mg base CX0 exF k fa fd [x] m) (bind : ∀ (s : Shared) (u : Value), BindsTo s fd ⟨[u], []⟩ [(x, u)])
    (hm : ∃ h, m [.scr (ns.map PV.int)] [] = .ok (.bl true) h) :
    codeAny (model P W) callerA (.call (.ref fa) ⟨[.ref a], []⟩) (fun r s' => r = .ok (.ret (.bool true)) ∧ OldK s.heap s'.heap ∧ s'.os = s.os ∧ AllBare s'.gens) s := by
  have vals := vals_ints areI
  have sz := areI.length
  have main : ∀ H : Hp, Only H → SqL K H a (ns.map V.int) → HOk P W H s.heap → (∀ b, H b ≠ none → b = a) → (H a ≠ none → K.lookup a = none) →
      codeAny (model P W) callerA (.call (.ref fa) ⟨[.ref a], []⟩) (fun r s' => r = .ok (.ret (.bool true)) ∧ OldK s.heap s'.heap ∧ s'.os = s.os ∧ AllBare s'.gens) s := by
    intro H only sq ok onlyA noK
    have none_of : ∀ {b : Addr} {ob : Obj}, s.heap.get? b = some ob → (b = a → False) → H b = none := fun {b ob} e z => by
      cases q : H b with
      | none => rfl
      | some u => exact (z (onlyA b (by rw [q]; exact Option.some_ne_none _))).elim
    have kept : ∀ {b : Addr} {mm : Str → Option Value}, s.heap.Ns b mm → (hidT s.heap H).Ns b mm := fun {b mm} ⟨ob, es, ep, e, d, r⟩ =>
      ⟨ob, es, ep, hidT_get e (none_of e fun z => by subst z; rw [at0] at e; cases e; exact Data.noConfusion (show Data.seq vs.toArray _ = Data.dict es ep from d)), d, r⟩
    have inK : K.In (hidT s.heap H) := fun b ob e => hidT_get (kin b ob e) (by
      cases q : H b with
      | none => rfl
      | some u =>
        have z := onlyA b (by rw [q]; exact Option.some_ne_none _)
        subst z
        rw [noK (by rw [q]; exact Option.some_ne_none _)] at e
        cases e)
    obtain ⟨w, hw, FM⟩ := F _ inK (kept nsG)
    have md : Mod K mg (hidT s.heap H) := ⟨inK, kept nsG, ⟨mb, kept nsB, isB⟩, by obtain ⟨mc, z1, z2⟩ := noL; exact ⟨mc, kept z1, z2⟩⟩
    have env : Env0 P W w.K mg (hidT s.heap H) callerA [] s H := by
      rw [hw]
      exact ⟨rfl, md, fun b ob e => of_hidT e, Nat.le_of_eq (hidT_size _ _), trivial, fun b z => by simp [frs] at z, ok, .of_eq gen0⟩
    refine codeAny_mono (FM.run callerA [] s H ⟨[.ref a], []⟩ [.ref a] [.ref a] (fun v _ => v = .bl true) (fun _ _ _ => False) room rfl env (bind s (.ref a)) (.cons rfl .nil) rfl (law_reads only (by rw [hw]; exact sq) hm)) fun r s' q => ?_
    rcases r with e | fl
    · exact (show False from q).elim
    · cases fl <;> try exact (show False from q).elim
      rename_i u
      obtain ⟨v, H', e1, e2, un, ok2, rv, ev⟩ := q
      cases (show v = V.bl true from ev)
      cases (show u = Value.bool true from rv)
      refine ⟨rfl, OldK.of_keep fun b ob e => ?_, e1, e2⟩
      rcases only b with z | ⟨o2, xs, z⟩
      · exact un.keep b ob e z (fun y => by simp [frs] at y) (by simp)
      · obtain ⟨y1, _⟩ := ok b _ z
        obtain ⟨y2, _⟩ := ok2 b _ (un.frzs b o2 _ z)
        rw [e] at y1
        cases y1
        exact y2
  rcases hk : K.lookup a with _ | o
  · refine main (fun b => if b = a then some (.frz { cls := .type "list", data := .seq vs.toArray } (.lst (ns.map V.int))) else none) (fun b => ?_) (.inl (.inr ⟨_, if_pos rfl⟩)) (fun b u z => ?_) (fun b z => ?_) fun _ => hk
    · by_cases e : b = a
      · exact .inr ⟨_, _, if_pos e⟩
      · exact .inl (if_neg e)
    · by_cases e : b = a
      · cases (if_pos e).symm.trans z
        subst e
        exact ⟨at0, by rw [List.length_map]; exact le, vs, _, vals, at0⟩
      · cases (if_neg e).symm.trans z
    · by_cases e : b = a
      · exact e
      · exact absurd (if_neg e) z
  · have e := kin a o hk
    rw [at0] at e
    cases e
    exact main (fun _ => none) (fun _ => .inl rfl) (.inr ⟨_, vs.toArray, _, hk, rfl, rfl, rfl, by rw [List.size_toArray, sz]; exact le, by simpa using vals⟩) (fun b u z => by cases (show (none : Option HO) = some u from z)) (fun b z => absurd rfl z) fun z => absurd rfl z

/-- the walk: from the law's mirror, true on every script -/
theorem walkM {l : PySem.W.OpenLaw} {n k : Nat} {q : Program} {loose : List Str} {XP : (Str → Option Value) → Heap → Prop} {YP : World → Heap → Prop} {d : DefRec} {K : Params → PySem.W.Frag} {x : Str} {m : MF}
    (hn : l.most = some n) (le : n ≤ sizeLine) (hdf : d.params.defaults = []) (room : Room k callerA) (hY : ∀ (W : World) (h : Heap), YP W h → (K W.params).In h)
    (F : ∀ (W : World) (mg : Str → Option Value) (fa : Addr) (h : Heap), (K W.params).In h → h.Ns mainGlobals mg → mg d.name = some (.ref fa) →
      ∃ fd : FuncData, (∀ (s : Shared) (u : Value), BindsTo s fd ⟨[u], []⟩ [(x, u)]) ∧
        ∀ base : Heap, (K W.params).In base → base.Ns mainGlobals mg → ∃ w : Wo, w.K = K W.params ∧ FnM l.prog W w mg base CX0 exF k fa fd [x] m)
    (hm : ∀ ns : List Int, ns.length ≤ n → ∃ h, m [.scr (ns.map PV.int)] [] = .ok (.bl true) h) : PySem.W.WalkO q loose XP YP l.row.toRowW d [] (fun f vs => PySem.call f vs) := by
  refine Att.attach_call hn hdf fun W s0 s1 mg mb fa o pm cd doc a vs ns G Y ho hd hcd hmg hobj areI hlen gen0 => ?_
  obtain ⟨fd, hb, hF⟩ := F W mg fa _ (hY W _ Y) G.T.g hmg
  exact law_run (hY W _ Y) G.T.g G.T.b G.T.builtins G.T.nolimit gen0 hobj areI (Nat.le_trans hlen le) room hF hb (hm ns hlen)
end MC

end
section
set_option maxRecDepth 100000
set_option maxHeartbeats 4000000
namespace MC
open PySem PySem.Spec PyProof.Rows L2

def putKP (k x : PV) (kvs : List (PV × PV)) : List (PV × PV) := bif (lookP k kvs).isSome then kvs.map (fun p => bif keyQ p.1 k then (p.1, x) else p) else kvs ++ [(k, x)]
section
variable {w : Wo} {EX : XC} {X : Cx} {k : Nat} {M : Addr → Prop} {rho : List Addr} {H : Hp} {h : PH}
theorem KRs.append : ∀ {as bs : List (PV × PV)} {cs ds : List (Key × V)}, KRs w M rho H as cs → KRs w M rho H bs ds → KRs w M rho H (as ++ bs) (cs ++ ds)
  | _, _, _, _, .nil, s => s
  | _, _, _, _, .cons k r t, s => .cons k r (KRs.append t s)
theorem KRs.put {q x : PV} {j : Key} {v : V} {v0 : V} {kvs : List (PV × PV)} {ks : List (Key × V)} (hx : isKey q = true) (rq : VR w M rho H q v0) (hq : keyP q = some j) (rx : VR w M rho H x v) (r : KRs w M rho H kvs ks) : KRs w M rho H (putKP q x kvs) (putK ks j v) := by
  have rep : ∀ {kvs : List (PV × PV)} {ks : List (Key × V)}, KRs w M rho H kvs ks → KRs w M rho H (kvs.map fun p => bif keyQ p.1 q then (p.1, x) else p) (ks.map fun kv => if kv.1 = j then (kv.1, v) else kv) := by
    intro kvs
    induction kvs with
    | nil => intro ks r; cases r; exact .nil
    | cons p kvs ih =>
      intro ks r
      cases r with
      | @cons k y i u _ gs hk hv ht =>
        obtain ⟨i', h1', _, e⟩ := keyQ_iff hk hx rq
        rw [hq] at h1'
        cases h1'
        rw [List.map_cons, List.map_cons]
        by_cases q : i = j
        · simp only [e, q, decide_true, cond_true, if_true]
          exact .cons (by rw [← q]; exact hk) rx (ih ht)
        · simp only [e, q, decide_false, cond_false, if_false]
          exact .cons hk hv (ih ht)
  obtain ⟨i, h1, _, h3⟩ := lookP_ok hx rq
  rw [hq] at h1
  cases h1
  unfold putKP putK
  rcases h3 r with ⟨z1, z2⟩ | ⟨y, u, z1, z2, _⟩
  · rw [valV_any, z1, z2]
    exact r.append (.cons hq rx .nil)
  · rw [valV_any, z1, z2]
    exact rep r

/-- o[i] = v: lists and dicts -/
def oSetIxD : O3 := fun h o i v => match o with
  | .ref n => match h[n]? with
    | some (.dic false kvs) => bif isKey i && decide (kvs.length < LIM) then .ok () (h.set n (.dic false (putKP i v kvs))) else .stuck
    | _ => oSetIx h o i v
  | _ => .stuck
theorem ref_dic (hr : HR w M rho H h) {n : Nat} {v : V} {kvs : List (PV × PV)} (r : VR w M rho H (.ref n) v) (e : h[n]? = some (.dic false kvs)) : ∃ a ks, v = .ref a ∧ rho[n]? = some a ∧ H a = some (.dK ks) ∧ KRs w M rho H kvs ks := by
  cases r with
  | ref ha =>
    obtain ⟨a', ha', ks, q1, q2⟩ := hr.ob _ _ e
    rw [ha] at ha'
    cases ha'
    exact ⟨_, ks, rfl, ha, q1, q2⟩
theorem p_setIxD (C : Cxt w k X) : PSet X (r3 w EX oSetIxD) := by
  intro pins s σ H o j v ov iv u Q I ro ri rv ⟨M, rho, h, po, pi, pv, hr, so, si, sv, oo⟩
  have hu := C.units
  unfold oSetIxD at oo
  split at oo
  · rename_i n
    split at oo
    · rename_i kvs e0
      obtain ⟨hc, oo⟩ := Out.bif oo
      rw [Bool.and_eq_true] at hc
      obtain ⟨a, ks, rfl, ha, q1, q2⟩ := ref_dic hr so e0
      obtain rfl : ov = Value.ref a := ro
      obtain ⟨i, e1, e2, _⟩ := lookP_ok hc.1 si
      subst e2
      have hl : ks.length < sizeLine := by rw [q2.length, lim_eq]; exact of_decide_eq_true hc.2
      refine d_setItem (by omega) I (.inl ⟨ks, i, q1, rfl, hl, rfl⟩) ri rv fun s' I' => ⟨_, I', ?_⟩
      have nf : ∀ p u, H a ≠ some (.frz p u) := fun p u z => by rw [q1] at z; cases z
      have st := Step.write hr (o := .dK (putK ks i v)) ha nf
      exact oo _ _ _ st (hr.write ha nf ⟨_, upd_same, (q2.put hc.1 si e1 sv).step st hr⟩)
    · exact p_setIx pins s σ H o j v ov iv u Q I ro ri rv ⟨M, rho, h, _, pi, pv, hr, so, si, sv, oo⟩
  · exact (show False from oo).elim

/-- the pairs of a display -/
def mkKs : List PV → Option (List (PV × PV))
  | [] => some []
  | k :: v :: r => match mkKs r with
    | some ps => bif isKey k then some ((k, v) :: ps) else none
    | none => none
  | _ => none
def putAll : List (PV × PV) → List (PV × PV) → List (PV × PV)
  | kvs, [] => kvs
  | kvs, (k, v) :: r => putAll (putKP k v kvs) r
def mDict (ma : MA) : ME := fun env h => (ma env (h ++ [.dic false []])).bind fun xs h1 => match h1[h.length]?, mkKs xs with
  | some (.dic false []), some ps => bif decide (ps.length ≤ 15) then .ok (.ref h.length) (h1.set h.length (.dic false (putAll [] ps))) else .stuck
  | _, _ => .stuck
def mDict0 : ME := fun _ h => .ok (.ref h.length) (h ++ [.dic false []])
/-- the pairs, read one behind the other -/
structure PPm (X : Cx) (w : Wo) (EX : XC) (pos : Pos) (keys : List (Option Expr)) (values : List Expr) (m : MA) : Prop where
  run : ∃ trs : List (TE × TE), PPs X pos keys values trs ∧ ∀ (σ : L2.St) (H : Hp) (Q : List (V × V) → Hp → Prop), tA w EX m σ H (fun vs H1 => ∀ ps : List (V × V), vs = ps.flatMap (fun p => [p.1, p.2]) → Q ps H1) → tPairs trs σ H Q
theorem md_nil {pos : Pos} : PPm X w EX pos [] [] maNil := ⟨[], pps_nil, fun σ H Q hh => by
  obtain ⟨M, rho, env, h, er, hr, o⟩ := hh
  exact o.now hr [] .nil [] rfl⟩
theorem md_cons {pos : Pos} {kx vx : Expr} {ks : List (Option Expr)} {vs : List Expr} {mk mv : ME} {m : MA} (hk : PE X kx (tM w EX mk)) (hv : PE X vx (tM w EX mv)) (hr : PPm X w EX pos ks vs m) :
    PPm X w EX pos (some kx :: ks) (vx :: vs) (maCons mk (maCons mv m)) := by
  obtain ⟨trs, h1, h2⟩ := hr.run
  refine ⟨_, pps_cons hk hv h1, fun σ H Q hh => ?_⟩
  obtain ⟨M, rho, env, h, er, hr, o⟩ := hh
  refine tM.of er hr (Out.bind o) fun x h1 M1 rho1 H1 v st1 er1 hr1 o1 rv => ?_
  refine tM.of er1 hr1 (Out.bind (Out.bind o1)) fun y h2' M2 rho2 H2 u st2 er2 hr2 o2 ru => ?_
  refine h2 σ H2 _ ⟨M2, rho2, env, h2', er2, hr2, (Out.bind o2).imp fun zs h3 M3 rho3 H3 st3 hr3 o3 ws rs ps e => ?_⟩
  have o4 : Out w EX M3 rho3 H3 (.ok (x :: y :: zs) h3) (KA w fun vs H1 => ∀ ps : List (V × V), vs = ps.flatMap (fun p => [p.1, p.2]) → Q ps H1) := o3.now hr3
  exact o4.now hr3 (v :: u :: ws) (.cons ((rv.step st2 hr1).step st3 hr2) (.cons (ru.step st3 hr2) rs)) ((v, u) :: ps) (by rw [e]; rfl)
theorem mkKs_ok : ∀ {xs : List PV} {vs : List V} {ps : List (PV × PV)} {qs : List (V × V)}, VRs w M rho H xs vs → mkKs xs = some ps → vs = qs.flatMap (fun p => [p.1, p.2]) →
    ∃ ks : List (Key × V), qs = ks.map (fun kv => (kV kv.1, kv.2)) ∧ KRs w M rho H ps ks ∧ ps.length = ks.length
  | [], _, ps, qs, r, e, eq => by
    cases r
    cases e
    cases qs with
    | nil => exact ⟨[], rfl, .nil, rfl⟩
    | cons q qs => simp at eq
  | [x], _, ps, qs, r, e, eq => by cases e
  | x :: y :: xs, _, ps, qs, r, e, eq => by
    cases r with
    | cons r1 r2 =>
      cases r2 with
      | cons r2 r3 =>
        unfold mkKs at e
        split at e
        · rename_i ps' e1
          cases hk : isKey x with
          | false => rw [hk, cond_false] at e; cases e
          | true =>
            rw [hk, cond_true] at e
            cases e
            cases qs with
            | nil => simp at eq
            | cons q qs =>
              obtain ⟨qa, qb⟩ := q
              simp only [List.flatMap_cons, List.cons_append, List.nil_append, List.cons.injEq] at eq
              obtain ⟨rfl, rfl, eq⟩ := eq
              obtain ⟨ks, h1, h2, h3⟩ := mkKs_ok r3 e1 eq
              obtain ⟨i, e2, e3, _⟩ := lookP_ok hk r1
              exact ⟨(i, _) :: ks, by rw [List.map_cons, h1, e3], .cons e2 r2 h2, by rw [List.length_cons, List.length_cons, h3]⟩
        · cases e
theorem KRs.putAll : ∀ {ps : List (PV × PV)} {ks : List (Key × V)} {kvs : List (PV × PV)} {gs : List (Key × V)}, KRs w M rho H ps ks → KRs w M rho H kvs gs → KRs w M rho H (putAll kvs ps) (mergeK gs ks)
  | _, _, _, _, .nil, r => r
  | _, _, kvs, gs, .cons (k := q) (j := j) hk hx ht, r => by
    have rq : VR w M rho H q (kV j) := by
      cases q <;> (unfold keyP at hk; cases hk)
      · exact .int _
      · exact .str _
    have hq : isKey q = true := by
      cases q <;> (unfold keyP at hk; cases hk) <;> rfl
    have z := KRs.putAll ht (r.put hq rq hk hx)
    exact z
theorem me_dict {pos : Pos} {keys : List (Option Expr)} {values : List Expr} {m : MA} (B : PPm X w EX pos keys values m) (hall : keys.all (·.isSome) = true := by rfl) (hl : keys.length = values.length := by rfl) (h0 : keys ≠ [] := by exact fun e => nomatch e) (h15 : keys.length ≤ 15 := by decide) :
    PE X (.Dict keys values pos) (tM w EX (mDict m)) := by
  obtain ⟨trs, h1, h2⟩ := B.run
  refine PE.imp (pe_disp h1 hall hl h0 h15) fun σ H Q hh => ?_
  obtain ⟨M, rho, env, h, er, hr, o⟩ := hh
  intro p hp
  have st := Step.alloc (M := M) (rho := rho) (o := .dK []) hp
  have hr1 := hr.alloc hp (po := .dic false []) ⟨[], upd_same, .nil⟩
  have hi : (rho ++ [p])[h.length]? = some p := by
    rw [List.getElem?_append_right (by rw [hr.len]; exact Nat.le_refl _), hr.len, Nat.sub_self]; rfl
  refine h2 σ _ _ (tA.of (er.step st hr) hr1 (Out.bind (o.step st)) fun xs h3 M3 rho3 H3 vs st3 er3 hr3 o3 rs qs eq => ?_)
  split at o3
  · rename_i ps e1 e2
    obtain ⟨hc, o3⟩ := Out.bif o3
    obtain ⟨ks, k1, k2, k3⟩ := mkKs_ok rs e2 eq
    have ha := st3.ext _ _ hi
    obtain ⟨a', ha', gs, q1, q2⟩ := hr3.ob _ _ e1
    rw [ha] at ha'
    cases ha'
    cases q2
    refine ⟨q1, ks, k1, by rw [← k3]; exact of_decide_eq_true hc, ?_⟩
    have nf : ∀ p' u, H3 p ≠ some (.frz p' u) := fun p' u z => by
      have q1' : H3 p = some (.dK []) := q1
      rw [q1'] at z; cases z
    have st4 := Step.write hr3 (o := .dK (mergeK [] ks)) ha nf
    exact o3 _ _ _ st4 (hr3.write ha nf ⟨_, upd_same, (KRs.putAll k2 .nil).step st4 hr3⟩) _ (.ref (st4.ext _ _ ha))
  · exact (show False from o3).elim
theorem me_dict0 {pos : Pos} : PE X (.Dict [] [] pos) (tM w EX mDict0) := by
  refine PE.imp pe_dnewK fun σ H Q hh => ?_
  obtain ⟨M, rho, env, h, er, hr, o⟩ := hh
  intro p hp
  have st := Step.alloc (M := M) (rho := rho) (o := .dK []) hp
  have hr1 := hr.alloc hp (po := .dic false []) ⟨[], upd_same, .nil⟩
  have hi : (rho ++ [p])[h.length]? = some p := by
    rw [List.getElem?_append_right (by rw [hr.len]; exact Nat.le_refl _), hr.len, Nat.sub_self]; rfl
  exact o _ _ _ st hr1 _ (.ref hi)

def lookD (h : PH) (x k d : PV) : R PV := match x with
  | .ref n => match h[n]? with
    | some (.dic _ kvs) => bif isKey k then .ok ((lookP k kvs).getD d) h else .stuck
    | _ => .stuck
  | .rdic kvs => bif isKey k then .ok ((lookP k kvs).getD d) h else .stuck
  | _ => .stuck
def isDic (h : PH) : PV → Bool
  | .ref n => match h[n]? with
    | some (.dic _ _) => true
    | _ => false
  | .rdic _ => true
  | _ => false
def mGet1 (mo mk : ME) : ME := fun env h => (mo env h).bind fun x h1 => bif isDic h1 x then (mk env h1).bind fun k h2 => lookD h2 x k .non else .stuck
def mGet2 (mo mk md : ME) : ME := fun env h => (mo env h).bind fun x h1 => bif isDic h1 x then (mk env h1).bind fun k h2 => (md env h2).bind fun d h3 => lookD h3 x k d else .stuck
theorem isDic_ok (hr : HR w M rho H h) {x : PV} {v : V} (r : VR w M rho H x v) (e : isDic h x = true) : ∃ a, v = .ref a ∧ IsD H a := by
  cases r <;> try (exact (Bool.false_ne_true e).elim)
  · rename_i kvs ks a o ha hn sa
    exact ⟨a, rfl, .inl ⟨ks, .inr ⟨o, ha⟩⟩⟩
  · rename_i n a ha
    simp only [isDic] at e
    split at e
    · rename_i lk kvs e0
      obtain ⟨b, hb, ks, h1, sa⟩ := hr.ob n _ e0
      rw [ha] at hb; cases hb
      refine ⟨a, rfl, .inl ⟨ks, ?_⟩⟩
      cases lk with
      | false => exact .inl h1
      | true => exact .inr h1
    · cases e
theorem lookD_ok (hr : HR w M rho H h) {x k d : PV} {v y z : V} {Q : VK} (r : VR w M rho H x v) (rk : VR w M rho H k y) (rd : VR w M rho H d z) (o : Out w EX M rho H (lookD h x k d) (KV w Q)) : ∃ a ov, v = .ref a ∧ DGet H a y ov ∧ Q (ov.getD z) H := by
  have core : ∀ {a : Addr} {kvs : List (PV × PV)} {ks : List (Key × V)}, Rd H a (.dK ks) → KRs w M rho H kvs ks → Out w EX M rho H (bif isKey k then .ok ((lookP k kvs).getD d) h else .stuck) (KV w Q) → ∃ ov, DGet H a y ov ∧ Q (ov.getD z) H := by
    intro a kvs ks rdd sa o
    obtain ⟨hx, o⟩ := Out.bif o
    obtain ⟨i, e1, e2, e3⟩ := lookP_ok hx rk
    subst e2
    refine ⟨valV ks i, .inl ⟨ks, i, rdd, rfl, rfl⟩, ?_⟩
    rcases e3 sa with ⟨z1, z2⟩ | ⟨y', u', z1, z2, r'⟩
    · rw [z1] at o; rw [z2]; exact o.now hr _ rd
    · rw [z1] at o; rw [z2]; exact o.now hr _ r'
  cases r <;> try (exact (show False from o).elim)
  · rename_i kvs ks a ob ha hn sa
    obtain ⟨ov, g, q⟩ := core (.inr ⟨ob, ha⟩) sa o
    exact ⟨a, ov, rfl, g, q⟩
  · rename_i n a ha
    have o' : Out w EX M rho H (match h[n]? with
      | some (.dic _ kvs) => bif isKey k then .ok ((lookP k kvs).getD d) h else .stuck
      | _ => .stuck) (KV w Q) := o
    split at o'
    · rename_i lk kvs e0
      obtain ⟨b, hb, ks, h1, sa⟩ := hr.ob n _ e0
      rw [ha] at hb; cases hb
      have rdd : Rd H a (.dK ks) := by
        cases lk with
        | false => exact .inl h1
        | true => exact .inr h1
      obtain ⟨ov, g, q⟩ := core rdd sa o'
      exact ⟨a, ov, rfl, g, q⟩
    · exact (show False from o').elim
theorem me_get1 (C : Cxt w k X) {o e : Expr} {mo mk : ME} {apos cpos : Pos} (ho : PE X o (tM w EX mo)) (he : PE X e (tM w EX mk)) (hm : M1 X o "get" apos e cpos := by exact ⟨rfl, rfl, rfl, rfl⟩) : PE X (.Call (.Attribute o "get" apos) [e] [] cpos) (tM w EX (mGet1 mo mk)) := by
  have hu := C.units
  refine PE.imp (pe_dget1 (by omega) ho he hm) fun σ H Q hh => ?_
  obtain ⟨M, rho, env, h, er, hr, oo⟩ := hh
  refine tM.of er hr (Out.bind oo) fun x h1 M1 rho1 H1 v st1 er1 hr1 o1 rv => ?_
  obtain ⟨hd, o1⟩ := Out.bif o1
  obtain ⟨a, ev, isd⟩ := isDic_ok hr1 rv hd
  refine ⟨a, ev, isd, tM.of er1 hr1 (Out.bind o1) fun y h2 M2 rho2 H2 u st2 er2 hr2 o2 ru => ?_⟩
  obtain ⟨a', ov, ea, g, q⟩ := lookD_ok hr2 (rv.step st2 hr1) ru .non o2
  rw [ev] at ea; cases ea
  exact ⟨ov, g, q⟩
theorem me_get2 (C : Cxt w k X) {o e f : Expr} {mo mk md : ME} {apos cpos : Pos} (ho : PE X o (tM w EX mo)) (he : PE X e (tM w EX mk)) (hf : PE X f (tM w EX md)) (hm : M2 X o "get" apos e f cpos := by exact ⟨rfl, rfl, rfl, rfl⟩) : PE X (.Call (.Attribute o "get" apos) [e, f] [] cpos) (tM w EX (mGet2 mo mk md)) := by
  have hu := C.units
  refine PE.imp (pe_dget2 (by omega) ho he hf hm) fun σ H Q hh => ?_
  obtain ⟨M, rho, env, h, er, hr, oo⟩ := hh
  refine tM.of er hr (Out.bind oo) fun x h1 M1 rho1 H1 v st1 er1 hr1 o1 rv => ?_
  obtain ⟨hd, o1⟩ := Out.bif o1
  obtain ⟨a, ev, isd⟩ := isDic_ok hr1 rv hd
  refine ⟨a, ev, isd, tM.of er1 hr1 (Out.bind o1) fun y h2 M2 rho2 H2 u st2 er2 hr2 o2 ru => ?_⟩
  refine tM.of er2 hr2 (Out.bind o2) fun z h3 M3 rho3 H3 u3 st3 er3 hr3 o3 ru3 => ?_
  obtain ⟨a', ov, ea, g, q⟩ := lookD_ok hr3 ((rv.step st2 hr1).step st3 hr2) (ru.step st3 hr2) ru3 o3
  rw [ev] at ea; cases ea
  exact ⟨ov, g, q⟩

def itemsD (h : PH) : PV → R (List PV × Wt)
  | .ref n => match h[n]? with
    | some (.dic false kvs) => .ok (kvs.map (fun p => .tup [p.1, p.2]), []) (h.set n (.dic true kvs))
    | some (.dic true kvs) => .ok (kvs.map (fun p => .tup [p.1, p.2]), []) h
    | _ => .stuck
  | _ => .stuck
def miItems (m : ME) : MI := fun env h => (m env h).bind fun x h1 => itemsD h1 x
theorem gives_items {a : Addr} {o : Obj} {ks : List (PV × PV)} {gs : List (Key × V)} (hr0 : HR w M rho H h) (q : H a = some (.frz o (.dK gs))) (rv : KRs w M rho H ks gs) : Gives w M rho H (ks.map fun p => .tup [p.1, p.2]) [] (Iti a o gs) := by
  refine ⟨fun {M1 rho1 H1 h1} st hr hw i => ?_⟩
  have q := st.frz _ _ _ q
  have rv := rv.step st hr0
  obtain ⟨hl, hg⟩ := rv.at
  have W := walk_items (d := a) (o := o) (kvs := gs)
  rw [List.length_map, hl]
  refine ⟨fun hi => W.goes i H1 hi q, fun hi => by subst hi; exact W.stops H1 q, fun v H' hi y => ?_⟩
  obtain ⟨T, x, z, e1, e2, e3, e4, e5⟩ := W.yields i H1 v H' hi q y
  subst e1; subst e3
  obtain ⟨p, eg⟩ : ∃ p, gs[i]? = some p := ⟨_, List.getElem?_eq_getElem hi⟩
  obtain ⟨kk, vv⟩ := p
  dsimp only at e4 e5
  rw [eg] at e4 e5
  cases e4
  cases e5
  obtain ⟨p, x, z1, z2, z3⟩ := hg eg
  have sg : Step M1 rho1 H1 M1 rho1 (upd H1 T (.tup [kV kk, vv])) := Step.grow (same_upd e2)
  exact ⟨same_upd e2, .tup [p, x], by rw [List.getElem?_map, z1]; rfl, .tup (SqT.of upd_same) (.cons (z2.step sg hr) (.cons (z3.step sg hr) .nil))⟩
theorem mi_items {e : Expr} {m : ME} {elts : List Expr} {kk : Nat} {tpos apos cpos : Pos} (he : PE X e (tM w EX m)) (hbase : attributeBase e "items" X.env (eval e X.env) = eval e X.env := by rfl) (hline : (apos.endLine == cpos.line) = true := by rfl) :
    PI X (.Tuple elts kk tpos) (.Call (.Attribute e "items" apos) [] [] cpos) (tI w EX (miItems m)) := by
  refine ⟨fun pins s σ H R I h => ?_⟩
  obtain ⟨M, rho, env, hh, er, hr, oo⟩ := h
  refine wpAny_Call_method (T := "dict") (id := "dict.items") hbase rfl hline F.plainAttrs_dict F.slot_dict_items F.type_dict_items (thn (he.run pins s σ H (fun v H1 => ∃ M1 rho1 h1 x, HR w M1 rho1 H1 h1 ∧ VR w M1 rho1 H1 x v ∧ Out w EX M1 rho1 H1 (itemsD h1 x) (KI w R)) I (tM.of er hr (Out.bind oo) fun x h1 M1 rho1 H1 v st1 er1 hr1 o1 rv => ⟨M1, rho1, h1, x, hr1, rv, o1⟩)) fun u s1 ⟨v, H1, I1, ru, M1, rho1, h1, x, hr1, rv, o1⟩ => ?_)
  have go : ∀ {H1 : Hp} {h1 : PH} {d : Addr} {o : Obj} {gs : List (Key × V)} {kvs : List (PV × PV)}, Inv X pins σ H1 s1 → HR w M1 rho1 H1 h1 → H1 d = some (.frz o (.dK gs)) → KRs w M1 rho1 H1 kvs gs → KI w R (kvs.map (fun p => .tup [p.1, p.2]), []) h1 M1 rho1 H1 →
      s1.TypeIs (.ref d) "dict" ∧ (∀ b, Value.ref d = .ref b → ∃ ob, s1.heap.get? b = some ob ∧ ob.dict = none) ∧ wpAny (model X.prog X.w) X.A (callWith cpos (.builtin "dict.items") [.ref d] [] []) (fun it s2 => wpAny (model X.prog X.w) X.A (pyIter it) (PIE X pins σ (.Tuple elts kk tpos) R) X.xe s2) X.xe s1 := by
    intro H1 h1 d o gs kvs I1 hr1 hd rk q
    obtain ⟨hs, hgd, hx, es, ep, vs, hdt, hsz, kv, hm⟩ := I1.frzK hd
    have hl : gs.length = vs.length := Paired.length kv
    refine ⟨hm.dictOf.typeIs, hm.dictOf.mapOf.noDict, ?_⟩
    have I2 : Inv X pins σ H1 { s1 with heap := s1.heap.push { cls := .type "dict_items", data := .fields #[.ref d] } } := I1.kept (t' := s1.toks) fun b ob q => Heap.get?_push_of_some _ q
    have fin : wpAny (model X.prog X.w) X.A (pyIter (.ref s1.heap.objs.size)) (PIE X pins σ (.Tuple elts kk tpos) R) X.xe { s1 with heap := s1.heap.push { cls := .type "dict_items", data := .fields #[.ref d] } } := by
      refine wpAny_pyIter_items (d := d) (knd := mixKind X.prog X.w) ⟨_, Heap.get?_push_size _ rfl, rfl, rfl⟩ (hm.push _) (pi_one (tk := s1.toks) I2 _ (turn_items _ hdt) ⟨.none, .none, ?_⟩ (q _ (gives_items hr1 hd rk)))
      rw [hl]
      exact Heap.get?_push_size _ rfl
    exact method_meetsIn F.slot_dict_items F.entry_dict_items rfl (PySem.evalArgs_none ⟨rfl, hm.dictOf.typeIs, F.args_dict_items_1 _, _, meets_dict_items (mixKind X.prog X.w) d hs, ⟨vs, hm.dictOf⟩, fin⟩)
  cases x <;> try exact (show False from o1).elim
  rename_i n
  simp only [itemsD] at o1
  split at o1
  · rename_i kvs e0
    obtain ⟨a, od, ks, rfl, I', st, hr', rk⟩ := lock_dic I1 hr1 rv e0
    obtain rfl : u = Value.ref a := ru
    exact go I' hr' upd_same rk (o1 _ _ _ st hr')
  · rename_i kvs e0
    cases rv with
    | @ref n a ha =>
      obtain rfl : u = Value.ref a := ru
      obtain ⟨a', ha', ks, ⟨od, q1⟩, q2⟩ := hr1.ob _ _ e0
      rw [ha] at ha'
      cases ha'
      exact go I1 hr1 q1 q2 (o1.now hr1)
  · exact (show False from o1).elim
end
end MC

end
section
set_option maxRecDepth 100000
set_option maxHeartbeats 4000000
namespace MC
open PySem PySem.Spec PyProof.Rows L2

/-- a class made whose instance may change -/
@[reducible] def opM (c : Nat) (m : MF) (ix : List Nat) (dp : List PV) : OC := fun h xs => callG takeBack (initM c m ix dp) xs h
theorem fnm_stuck {P : Program} {W : World} {w : Wo} {mg : Str → Option Value} {base : Heap} {CX : CXT} {ex : XK → XC} {k : Nat} {f : Addr} {fd : FuncData} {ps : List Str} : FnM P W w mg base CX ex k f fd ps fun _ _ => .stuck :=
  ⟨fun _ _ _ _ _ _ _ _ _ _ _ _ _ _ _ ⟨_, _, _, _, _, _, o⟩ => (show False from o).elim⟩

def maStar (m : ME) (ms : MA) : MA := fun env h => (m env h).bind fun x h1 => match seqP h1 x with
  | some ys => (ms env h1).bind fun xs h2 => .ok (ys ++ xs) h2
  | none => .stuck
section
variable {w : Wo} {EX : XC} {X : Cx} {k n c : Nat} {M : Addr → Prop} {rho : List Addr} {H : Hp} {h : PH}
theorem ma_star (C : Cxt w k X) {e : Expr} {es : List Expr} {p : Pos} {m : ME} {ms : MA} (ha : PE X e (tM w EX m)) (hb : PA X es (tA w EX ms)) (hs : starEach (.Starred e p :: es) X.env = (true, eval e X.env) :: starEach es X.env := by rfl) : PA X (.Starred e p :: es) (tA w EX (maStar m ms)) := by
  refine PA.imp (StX.pa_star ha hb hs) fun σ H Q h => ?_
  obtain ⟨M, rho, env, hh, er, hr, o⟩ := h
  refine tM.of er hr (Out.bind o) fun x h1 M1 rho1 H1 v st1 er1 hr1 o1 rv => ?_
  split at o1
  · rename_i ys ey
    obtain ⟨a, vs, rfl, rs, q⟩ := seq_ok hr1 rv ey
    refine ⟨a, vs, rfl, by rw [C.hK]; exact q.elim .inr fun z => .inl z.1, M1, rho1, env, h1, er1, hr1, (Out.bind o1).imp fun zs h2 M2 rho2 H2 st2 hr2 o2 us ru => ?_⟩
    exact o2.now hr2 _ ((rs.step st2 hr1).append ru)
  · exact (show False from o1).elim

def mMeK (c : Nat) (m : Nm) (op : OC) (n j : Nat) (mo : ME) (ma mk : MA) : ME := fun env h => (mo env h).bind fun x h1 => match fldsOf h1 x with
  | some (d, fs) => bif d == c && (lookF m fs).isNone then (ma env h1).bind fun xs h2 => (mk env h2).bind fun ys h3 => bif (x :: xs).length == n && ys.length == j then op h3 (x :: xs ++ ys) else .stuck else .stuck
  | none => .stuck
variable {f A : Addr} {ks : List Str} {op : OC} {m : Nm} {pos apos : Pos} {e o : Expr} {es : List Expr} {kws : List Keyword} {ma mk : MA} {mo : ME} {pl : Sem Bool}
theorem me_methK0 (C : Cxt w k X) (c : Nat) (hA : w.cl c = some A) (hc : Cls w.K A) (hm : Meth w.K A (nmS m) f) (B : Clb X w EX (.ref f) 1 ks op) (ho : PE X o (tM w EX mo)) (hkw : PK X kws (tA w EX mk)) (j : Nat) (hj : ks.length = j := by rfl)
    (hall : (backToKw pos (keywordEach kws X.env)).all (·.1.isSome) = true := by rfl) (hks : (backToKw pos (keywordEach kws X.env)).filterMap (·.1) = ks := by rfl)
    (hpl : ((backTo pos (starEach [] X.env)).any (·.1) || (backToKw pos (keywordEach kws X.env)).any (·.1.isNone)) = false := by rfl)
    (ht : eval (.Call (.Attribute o (nmS m) apos) [] kws pos) X.env = (do
      let ov ← eval o X.env
      standAt apos.atName
      let (f, first) ← holding [ov] (getMethod ov (nmS m) pl)
      callWith pos f first (backTo pos (starEach [] X.env)) (backToKw pos (keywordEach kws X.env))) := by rfl) :
    PE X (.Call (.Attribute o (nmS m) apos) [] kws pos) (tM w EX (mMeK c m op 1 j mo maNil mk)) := by
  subst hj
  refine ⟨fun pins s σ H Q I h => ?_⟩
  obtain ⟨M, rho, env, hh, er, hr, oo⟩ := h
  refine PySem.W.methodCall_KW (pl := pl) (thn (ho.run pins s σ H (fun v H1 => ∃ M1 rho1 h1 x, ER w M1 rho1 H1 env σ ∧ HR w M1 rho1 H1 h1 ∧ VR w M1 rho1 H1 x v ∧ Out w EX M1 rho1 H1 (match fldsOf h1 x with
    | some (d, fs) => bif d == c && (lookF m fs).isNone then (maNil env h1).bind fun xs h2 => (mk env h2).bind fun ys h3 => bif (x :: xs).length == 1 && ys.length == ks.length then op h3 (x :: xs ++ ys) else .stuck else .stuck
    | none => .stuck) (KV w Q)) I (tM.of er hr (Out.bind oo) fun x h1 M1 rho1 H1 v st1 er1 hr1 o1 rv => ⟨M1, rho1, h1, x, er1, hr1, rv, o1⟩)) fun u s1 hh1 => ?_) ht
  obtain ⟨v, H1, I1, rx, M1, rho1, h1, x, er1, hr1, rv, o1⟩ := hh1
  split at o1
  · rename_i d fs ef
    obtain ⟨hq, oB⟩ := Out.bif o1
    rw [Bool.and_eq_true] at hq
    obtain ⟨a, D, dx, gs, rfl, q1, q2, q3⟩ := flds_ok hr1 rv ef
    have hd := beq_iff_eq.mp hq.1
    subst hd
    rw [hA] at q1
    cases q1
    obtain rfl : u = Value.ref a := rx
    refine getmeth_ok I1 q2 (by rw [C.hK]; exact hc) (by rw [C.hK]; exact hm) (lookF_none q3 (Option.isNone_iff_eq_none.mp hq.2)) ?_
    have oC : Out w EX M1 rho1 H1 ((mk env h1).bind fun ys h3 => bif ([x] : List PV).length == 1 && ys.length == ks.length then op h3 ([x] ++ ys) else .stuck) (KV w Q) := oB
    refine PySem.W.callWith_KW0 (first := [.ref a]) (h₀ := X.base) I1.ok.mod.kin B.kp hall (thn (hkw.run pos pins s1 σ H1 _ I1 (tA.of er1 hr1 (Out.bind oC) fun ys h2 M2 rho2 H2 zs st2 er2 hr2 o2 ry =>
      (⟨M2, rho2, h2, ys, hr2, rv.step st2 hr1, ry, o2⟩ : ∃ M2 rho2 h2 ys, HR w M2 rho2 H2 h2 ∧ VR w M2 rho2 H2 x (.ref a) ∧ VRs w M2 rho2 H2 ys zs ∧ Out w EX M2 rho2 H2 (bif ([x] : List PV).length == 1 && ys.length == ks.length then op h2 ([x] ++ ys) else .stuck) (KV w Q)))) fun ws s2 ⟨zs, H2, I2, rz, q2⟩ => ⟨I2.kIn, ?_⟩) hpl
    rw [hks]
    obtain ⟨M2, rho2, h2, ys, hr2, rx2, ry2, o2⟩ := q2
    exact clb_kw (us := [.ref a]) (vs := [.ref a]) (xs := [x]) B I2 (.cons (show RelV (V.ref a) (Value.ref a) from rfl) .nil) rz hr2 (.cons rx2 .nil) ry2 o2
  · exact (show False from o1).elim
end
end MC

end
section
set_option maxRecDepth 100000
set_option maxHeartbeats 4000000
namespace MC
open PySem PySem.Spec PyProof.Rows L2

section
variable {w : Wo} {X : Cx} {k n : Nat} {f : Addr} {fd : FuncData} {ps : List Str} {m : MF} {ix : List Nat} {M : Addr → Prop} {rho : List Addr} {h : PH} {pins : List (Addr × Obj)} {σ : L2.St} {H : Hp} {s : Shared}
/-- a def called from within a builtin -/
theorem call_in1 (C : Cxt w (k + 1) X) (F : FnM X.prog X.w w X.mg X.base CX0 exF k f fd ps m) (B : Bd w.K fd ps [] n [] ix) {xs : List PV} {vs : List V} {us : List Value} {kk : KC PV} {E : Value → Shared → Prop} (I : Inv X pins σ H s) (r : Vals vs us) (lu : us.length = n)
    (hr : HR w M rho H h) (rx : VRs w M rho H xs vs) {EX : XC} (o : Out w EX M rho H (callG takeBack m (gI ix xs) h) kk) :
    wpAny (model X.prog X.w) X.A.in1 (call (.ref f) us) (fun u s' => ∃ x h1 M1 rho1 H1 v, Inv X pins σ H1 s' ∧ Step M rho H M1 rho1 H1 ∧ HR w M1 rho1 H1 h1 ∧ VR w M1 rho1 H1 x v ∧ RelV v u ∧ kk x h1 M1 rho1 H1) E s := by
  have e0 : Env0 X.prog X.w w.K X.mg X.base X.A.in1 X.stack s H := by rw [← C.hK]; exact I.env0.in1
  have bt := B.to s us [] (by rw [← C.hK]; exact I.kIn) lu rfl
  have hlen : (gI ix us).length = ps.length := by
    rw [gI_len, B.len]
    intro i hi
    have := B.lo i hi
    simpa [lu] using this
  rw [List.append_nil, List.append_nil] at bt
  obtain ⟨rho', as, hc, r3, hr3, o3⟩ := callG_ok (EX2 := EXF) tb_ok hr (rx.gI ix) o
  have r2 := gI_vals r ix
  refine wpAny_call (codeAny_mono (F.run X.A.in1 X.stack s H ⟨us, []⟩ (gI ix us) (gI ix vs) (fun v H1 => ∃ x h1 M1 rho1, Step M rho H M1 rho1 H1 ∧ HR w M1 rho1 H1 h1 ∧ VR w M1 rho1 H1 x v ∧ kk x h1 M1 rho1 H1) (fun _ _ _ => False) C.room.in1 C.grd e0 bt r2 (by rw [r2.length]; exact hlen)
    ⟨M, rho', as, hc, r3, hr3, o3.imp fun v g M1 rho1 H1 st1 hr1 q V rv => ?_⟩) fun rs s' q => ?_)
  · obtain ⟨M2, rho2, u, h2, st2, hr2, ru, kq⟩ := q V rv
    exact ⟨u, h2, M2, rho2, st2, hr2, ru, kq⟩
  · cases rs with
    | error e => exact (show False from q).elim
    | ok fl =>
      cases fl with
      | ret u =>
        obtain ⟨v, H1, I1, ru, x, h1, M1, rho1, a1, a2, a3, a4⟩ := I.after q
        exact ⟨x, h1, M1, rho1, H1, v, I1, a1, a2, a3, ru, a4⟩
      | next => exact (show False from q).elim
      | brk => exact (show False from q).elim
      | cont => exact (show False from q).elim

/-- order of keys -/
def ltKey : PV → PV → Option Bool
  | .tup [.int i, .str a], .tup [.int j, .str b] => some (bif i == j then ltN a b else decide (i < j))
  | _, _ => none
theorem ltN_rf : ∀ a : List Nat, ltN a a = false
  | [] => rfl
  | x :: xs => by unfold ltN; rw [beq_self_eq_true, cond_true]; exact ltN_rf xs
theorem ltKey_rc (hK : X.K = w.K) (I : Inv X pins σ H s) {x y : PV} {v u : V} {v' u' : Value} {c : Bool} {A : Around} (hu : A.units < cLine) (e : ltKey x y = some c) (rx : VR w M rho H x v) (ry : VR w M rho H y u) (rv : RelV v v') (ru : RelV u u') :
    Ob.RcOp .Lt A s v' u' c := by
  unfold ltKey at e
  split at e
  · rename_i i a j b
    cases e
    cases rx with
    | tup q1 r1 =>
      cases ry with
      | tup q2 r2 =>
        cases r1 with
        | cons a1 a2 =>
          cases a2 with
          | cons a2 a3 =>
            cases a1; cases a2; cases a3
            cases r2 with
            | cons b1 b2 =>
              cases b2 with
              | cons b2 b3 =>
                cases b1; cases b2; cases b3
                cases rv; cases ru
                rw [← hK] at q1 q2
                obtain ⟨its, rr, p, _⟩ := I.tuple q1
                obtain ⟨its2, rr2, p2, _⟩ := I.tuple q2
                cases rr with
                | cons c1 c2 =>
                  cases c2 with
                  | cons c2 c3 =>
                    cases c3
                    obtain ⟨t1, rfl⟩ := c1
                    obtain ⟨t2, rfl⟩ := c2
                    cases rr2 with
                    | cons d1 d2 =>
                      cases d2 with
                      | cons d2 d3 =>
                        cases d3
                        obtain ⟨t3, rfl⟩ := d1
                        obtain ⟨t4, rfl⟩ := d2
                        have z := Ob.RcOp.tuples_lt (A := A) (s := s) (e := fun q => bif q == 0 then i == j else (⟨a.toArray⟩ : Str) == ⟨b.toArray⟩) (r := fun q => bif q == 0 then decide (i < j) else decide (a < b)) p p2 hu (fun q h1 h2 => ?_) (fun q h1 h2 _ => ?_)
                        · have ez : Ob.lexAt (fun q => bif q == 0 then i == j else (⟨a.toArray⟩ : Str) == ⟨b.toArray⟩) (fun q => bif q == 0 then decide (i < j) else decide (a < b)) (decide ([Value.int i t1, Value.str ⟨a.toArray⟩ t2].toArray.size < [Value.int j t3, Value.str ⟨b.toArray⟩ t4].toArray.size)) 0 (min [Value.int i t1, Value.str ⟨a.toArray⟩ t2].toArray.size [Value.int j t3, Value.str ⟨b.toArray⟩ t4].toArray.size) = (bif i == j then ltN a b else decide (i < j)) := by
                            show Ob.lexAt _ _ false 0 2 = _
                            rw [Ob.lexAt_succ]
                            simp only [beq_self_eq_true, cond_true]
                            by_cases eij : i = j
                            · subst eij
                              rw [beq_self_eq_true, if_pos rfl, cond_true, Ob.lexAt_succ]
                              have e1 : ((0 + 1 : Nat) == 0) = false := rfl
                              simp only [e1, cond_false]
                              by_cases eab : a = b
                              · subst eab
                                rw [beq_self_eq_true, if_pos rfl, Ob.lexAt_zero, ltN_rf]
                              · have : ((⟨a.toArray⟩ : Str) == ⟨b.toArray⟩) = false := beq_eq_false_iff_ne.mpr fun z => eab (S_inj z)
                                rw [this, if_neg Bool.false_ne_true, ltN_iff]
                            · rw [beq_eq_false_iff_ne.mpr eij, if_neg Bool.false_ne_true, cond_false]
                          rw [ez] at z
                          exact z
                        · match q, h1, h2 with
                          | 0, _, _ => exact SeqAt.EqAt.int_int i t1 j t3
                          | 1, _, _ => exact SeqAt.EqAt.str_str ⟨a.toArray⟩ t2 ⟨b.toArray⟩ t4
                          | q + 2, h1, _ => exact absurd h1 (by simp)
                        · match q, h1, h2 with
                          | 0, _, _ => exact Ob.RcOp.lt_int i j t1 t3
                          | 1, _, _ =>
                            intro prog w' E Q hq
                            refine DT.rcLt_str _ _ _ _ _ _ prog w' E Q ?_
                            simpa using hq
                          | q + 2, h1, _ => exact absurd h1 (by simp)
  · cases e

def minL (g : PV → PH → R PV) (wt : Wt) : List PV → PV → PV → PH → R PV
  | [], b, _, h => bif watch wt h then .ok b h else .stuck
  | x :: xs, b, bv, h => bif watch wt h then (g x h).bind fun v h1 => match ltKey v bv with
    | some true => minL g wt xs x v h1
    | some false => minL g wt xs b bv h1
    | none => .stuck else .stuck
def bMinKey (m : MF) (ix : List Nat) : OC := fun h xs => match xs with
  | [x] => match lstP h x with
    | some (y :: ys) => bif watch (wtOf (y :: ys) x) h then (callG takeBack m (gI ix [y]) h).bind fun v h1 => minL (fun x h => callG takeBack m (gI ix [x]) h) (wtOf (y :: ys) x) ys y v h1 else .stuck
    | _ => .stuck
  | _ => .stuck
theorem same_but {S : Addr} {h h' : Heap} (e : Heap.SameBut S h h') : ∀ b o, b ∉ [S] → h.get? b = some o → h'.get? b = some o := fun b o n q => (e.2 b (by simpa using n)).trans q
/-- the list at l holds all -/
def Holds0 (w : Wo) (M : Addr → Prop) (rho : List Addr) (H : Hp) (l : Addr) (all : List PV) (wt : Wt) : Prop := ∀ {M1 : Addr → Prop} {rho1 : List Addr} {H1 : Hp} {h1 : PH}, Step M rho H M1 rho1 H1 → HR w M1 rho1 H1 h1 → watch wt h1 = true → ∃ vs, SqL w.K H1 l vs ∧ VRs w M1 rho1 H1 all vs
theorem min_loop (C : Cxt w (k + 1) X) (F : FnM X.prog X.w w X.mg X.base CX0 exF k f fd ps m) (B : Bd w.K fd ps [] 1 [] ix) {l S I : Addr} {wt : Wt} {all : List PV} {Q : VK} {R : Result → Shared → Prop} {EX : XC} (hSI : S ≠ I)
    (hR : ∀ (v : V) (u : Value) (H1 : Hp) (s1 : Shared), Inv X pins σ H1 s1 → RelV v u → Q v H1 → R (.ok (.ret u)) s1) :
    ∀ (xs : List PV) (j : Nat) (M : Addr → Prop) (rho : List Addr) (H : Hp) (h : PH) (s : Shared) (b bv : PV) (vb vk : V) (ub uk : Value) (c : Nat), all.drop j = xs → j ≤ all.length → Inv X pins σ H s → FpOk X pins H I → FpOk X pins H S → s.heap.IsListIter I l j → s.heap.get? S = some (seqObj "list" #[ub, uk] c) → Holds0 w M rho H l all wt →
      HR w M rho H h → VR w M rho H b vb → VR w M rho H bv vk → RelV vb ub → RelV vk uk → Out w EX M rho H (minL (fun x h => callG takeBack m (gI ix [x]) h) wt xs b bv h) (KV w Q) →
      codeAny (model X.prog X.w) X.A (.builtin "min.loop" ⟨[.ref I, .ref f, .ref S], []⟩) R s := by
  have hname : (toString "min" ++ toString ".loop" : String) = "min.loop" := by decide
  have hh : X.A.in1.handled = none := C.room.hd
  have hu : X.A.in1.units < cLine := C.room.in1.units0
  intro xs
  induction xs with
  | nil =>
    intro j M rho H h s b bv vb vk ub uk c ed hj I1 fI fS it gS hl hr rb rv ru rk o
    have ej : j = all.length := by
      have := congrArg List.length ed
      rw [List.length_drop, List.length_nil] at this
      omega
    obtain ⟨hw, o⟩ := Out.bif (show Out w EX M rho H (bif watch wt h then .ok b h else .stuck) (KV w Q) from o)
    obtain ⟨vs, q, rs⟩ := hl Step.refl hr hw
    have q' := q
    rw [← C.hK] at q'
    obtain ⟨its, rr, p, hz⟩ := I1.list q'
    have hlen : its.toArray.size = j := by rw [List.size_toArray, ← rr.length, rs.length, ej]
    have hlI : l ≠ I := fun e => by
      subst e
      obtain ⟨ob, n, g, cl, _, _⟩ := p
      obtain ⟨ob', g', cl', _⟩ := it
      rw [g] at g'; cases g'
      rw [cl] at cl'
      exact absurd cl' (by decide)
    have W := Walks.list (prog := X.prog) (w := X.w) (A := X.A.in1) hh I l hlI its.toArray
    refine codeAny_builtin PySem.F.entry_min_loop ?_
    rw [Around.under_plainId PySem.F.plain_min_loop _]
    show wpAny _ X.A.in1 (seqItems? (.ref S) >>= _) _ _ _
    refine wpAny_bind (wpAny_seqItems gS rfl ?_)
    show wpAny _ X.A.in1 (tryCatch (pyNext (.ref I)) _ >>= _) _ _ _
    refine wpAny_bind (wpAny_tryCatch (W.done _ _ _ ⟨by rw [hlen]; exact it, p.isList⟩ fun h' tk' hk' => ?_))
    have I2 := I1.turnedL (t' := tk') hk' (fun b hb => by rw [List.mem_singleton.mp hb]; exact fI)
    have gS' := hk' S _ (by simpa using hSI) gS
    have s1 := Heap.SameBut.update h' S (Obj.mapSeq fun _ => (#[] : Array Value))
    show wpAny _ X.A.in1 (updateSeq S (fun _ => #[]) >>= _) _ _ _
    refine wpAny_bind ?_
    refine wpAny_updateSeq gS' rfl (wpAny_bind (wpAny_letGo (wpAny_pure ?_)))
    have I3 := I2.turnedL (t' := tk') (same_but s1) (fun b hb => by rw [List.mem_singleton.mp hb]; exact fS)
    exact hR vb ub H _ I3 ru (o.now hr _ rb)
  | cons x xs ih =>
    intro j M rho H h s b bv vb vk ub uk c ed hj I1 fI fS it gS hl hr rb rv ru rk o
    have hlt : j < all.length := by
      have := congrArg List.length ed
      rw [List.length_drop, List.length_cons] at this
      omega
    have ex : all[j]? = some x := by
      have := congrArg (fun z => z[0]?) ed
      simpa using this
    have ed2 : all.drop (j + 1) = xs := by
      rw [← List.drop_drop, ed]; rfl
    obtain ⟨hw, o⟩ := Out.bif (show Out w EX M rho H (bif watch wt h then (callG takeBack m (gI ix [x]) h).bind fun v h1 => match ltKey v bv with
      | some true => minL (fun x h => callG takeBack m (gI ix [x]) h) wt xs x v h1
      | some false => minL (fun x h => callG takeBack m (gI ix [x]) h) wt xs b bv h1
      | none => .stuck else .stuck) (KV w Q) from o)
    obtain ⟨vs, q, rs⟩ := hl Step.refl hr hw
    obtain ⟨vx, evx, rx⟩ := rs.get ex
    have q' := q
    rw [← C.hK] at q'
    obtain ⟨its, rr, p, hz⟩ := I1.list q'
    obtain ⟨ux, eux, rux⟩ := rr.get evx
    have hlen : j < its.toArray.size := by rw [List.size_toArray, ← rr.length, rs.length]; exact hlt
    have hlI : l ≠ I := fun e => by
      subst e
      obtain ⟨ob, n, g, cl, _, _⟩ := p
      obtain ⟨ob', g', cl', _⟩ := it
      rw [g] at g'; cases g'
      rw [cl] at cl'
      exact absurd cl' (by decide)
    have W := Walks.list (prog := X.prog) (w := X.w) (A := X.A.in1) hh I l hlI its.toArray
    refine codeAny_builtin PySem.F.entry_min_loop ?_
    rw [Around.under_plainId PySem.F.plain_min_loop _]
    show wpAny _ X.A.in1 (seqItems? (.ref S) >>= _) _ _ _
    refine wpAny_bind (wpAny_seqItems gS rfl ?_)
    show wpAny _ X.A.in1 (tryCatch (pyNext (.ref I)) _ >>= _) _ _ _
    refine wpAny_bind (wpAny_tryCatch (W.item j _ _ _ hlen ⟨it, p.isList⟩ fun v h' tk' hP hst' hk' => ?_))
    have ev : v = ux := by
      have : its.toArray[j]? = some ux := by simpa using eux
      rw [this] at hP; cases hP; rfl
    subst ev
    have it2 : h'.IsListIter I l (j + 1) := hst'.1
    have I2 := I1.turnedL (t' := tk') hk' (fun b hb => by rw [List.mem_singleton.mp hb]; exact fI)
    have gS' := hk' S _ (by simpa using hSI) gS
    -- the key is asked while both records are pinned
    obtain ⟨oI, hoI, coI, doI⟩ := id it2
    have fl : ∀ b ∈ [I, S], FpOk X pins H b := fun b hb => by
      rcases List.mem_cons.mp hb with rfl | hb
      · exact fI
      · rw [List.mem_singleton.mp hb]; exact fS
    have I3 := I2.pinned (fp := [I, S]) fl fun b hb => by
      rcases List.mem_cons.mp hb with rfl | hb
      · exact ⟨oI, hoI, fun v e => by rw [doI] at e; cases e⟩
      · rw [List.mem_singleton.mp hb]; exact ⟨_, gS', fun v e => by cases e⟩
    show wpAny _ X.A.in1 (tryCatch (holding [v] (call (.ref f) [v])) _ >>= _) _ _ _
    refine wpAny_bind (wpAny_tryCatch (wpAny_holding (wpAny_mono (call_in1 C F B I3 (.cons rux .nil) rfl hr (.cons rx .nil) (Out.bind o)) (fun r s'' q2 => ?_) fun _ _ z => z)))
    obtain ⟨y, h1, M1, rho1, H1, vy, I4, st, hr1, ry, ruy, o1⟩ := q2
    have pI := I4.pin (I, oI) (List.mem_append_right _ (List.mem_append_right _ (mem_pinsAt (by simp) hoI)))
    have pS := I4.pin (S, seqObj "list" #[ub, uk] c) (List.mem_append_right _ (List.mem_append_right _ (mem_pinsAt (by simp) gS')))
    have I5 := I4.unpinned
    have fI' : FpOk X pins H1 I := ⟨pI.2.1, fI.2⟩
    have fS' : FpOk X pins H1 S := ⟨pS.2.1, fS.2⟩
    have it3 : s''.heap.IsListIter I l (j + 1) := ⟨oI, pI.1, coI, doI⟩
    have rb1 := rb.step st hr
    have rv1 := rv.step st hr
    have rx1 := rx.step st hr
    have hl1 : Holds0 w M1 rho1 H1 l all wt := fun st2 => hl (st.trans st2)
    split at o1
    · rename_i ek
      have z := ltKey_rc C.hK I5 (A := X.A.in1) hu ek ry rv1 ruy rk
      show wpAny _ X.A.in1 (tryCatch (holding [v, r] (richCompare .Lt r uk >>= _)) _ >>= _) _ _ _
      refine wpAny_bind (wpAny_tryCatch (wpAny_holding (wpAny_bind (z _ _ _ _ ?_))))
      refine wpAny_bind (wpAny_holding (wpAny_truthy_bool ?_))
      refine wpAny_bind (wpAny_letGo (wpAny_pure ?_))
      simp only [if_true]
      have s1 := Heap.SameBut.update s''.heap S (Obj.mapSeq fun _ => #[v, r])
      obtain ⟨c2, hc2⟩ : ∃ c2, (s''.heap.update S (Obj.mapSeq fun _ => #[v, r])).get? S = some (seqObj "list" #[v, r] c2) := ⟨_, get?_update_seq pS.1 fun _ => #[v, r]⟩
      refine wpAny_bind ?_
      refine wpAny_updateSeq pS.1 rfl (wpAny_bind (wpAny_letGo ?_))
      rw [hname]
      have I6 := I5.turnedL (t' := s''.toks) (same_but s1) (fun b hb => by rw [List.mem_singleton.mp hb]; exact fS')
      exact wpAny_pure ⟨plainId_quiet PySem.F.plain_min_loop _, ih (j + 1) M1 rho1 H1 h1 _ x y vx vy v r c2 ed2 hlt I6 fI' fS' ⟨oI, (s1.2 I (Ne.symm hSI)).trans pI.1, coI, doI⟩ hc2 hl1 hr1 rx1 ry rux ruy o1⟩
    · rename_i ek
      have z := ltKey_rc C.hK I5 (A := X.A.in1) hu ek ry rv1 ruy rk
      show wpAny _ X.A.in1 (tryCatch (holding [v, r] (richCompare .Lt r uk >>= _)) _ >>= _) _ _ _
      refine wpAny_bind (wpAny_tryCatch (wpAny_holding (wpAny_bind (z _ _ _ _ ?_))))
      refine wpAny_bind (wpAny_holding (wpAny_truthy_bool ?_))
      refine wpAny_bind (wpAny_letGo (wpAny_pure ?_))
      simp only [Bool.false_eq_true, if_false]
      refine wpAny_bind (wpAny_letGo ?_)
      rw [hname]
      exact wpAny_pure ⟨plainId_quiet PySem.F.plain_min_loop _, ih (j + 1) M1 rho1 H1 h1 _ b bv vb vk ub uk c ed2 hlt I5 fI' fS' it3 pS.1 hl1 hr1 rb1 rv1 ru rk o1⟩
    · exact (show False from o1).elim

theorem holds_lst (hr : HR w M rho H h) {x : PV} {v : V} {all : List PV} (rx : VR w M rho H x v) (e : lstP h x = some all) : ∃ l, v = .ref l ∧ Holds0 w M rho H l all (wtOf all x) := by
  cases rx with
  | scr q rs =>
    cases e
    exact ⟨_, rfl, fun st hr1 _ => ⟨_, (st.scr hr q).sq, rs.step st hr⟩⟩
  | @ref n a ha =>
    simp only [lstP] at e
    split at e
    · rename_i ys e0
      cases e
      refine ⟨a, rfl, fun st hr1 hw => ?_⟩
      obtain ⟨a2, ha2, vs2, z1, z2⟩ := hr1.ob _ _ (watch_one hw)
      rw [st.ext _ _ ha] at ha2
      cases ha2
      exact ⟨vs2, .inl (.inl z1), z2⟩
    · cases e
  | _ => cases e
theorem min_run (C : Cxt w (k + 1) X) (F : FnM X.prog X.w w X.mg X.base CX0 exF k f fd ps m) (B : Bd w.K fd ps [] 1 [] ix) {px : PV} {v : V} {u : Value} {Q : VK} {EX : XC} (I : Inv X pins σ H s) (hr : HR w M rho H h) (rx : VR w M rho H px v) (ru : RelV v u) (o : Out w EX M rho H (bMinKey m ix h [px]) (KV w Q)) :
    wpAny (model X.prog X.w) X.A (call (.builtin "min") [u] [(Str.ofString "key", .ref f)]) (EP X pins σ Q) X.xe s := by
  have hname : (toString "min" ++ toString ".loop" : String) = "min.loop" := by decide
  have hh : X.A.in1.handled = none := C.room.hd
  have hu : X.A.in1.units < cLine := C.room.in1.units0
  unfold bMinKey at o
  dsimp only at o
  split at o
  · rename_i y ys e0
    obtain ⟨l, rfl, hl⟩ := holds_lst hr rx e0
    obtain rfl : u = Value.ref l := ru
    obtain ⟨hw, o⟩ := Out.bif o
    obtain ⟨vs, q, rs⟩ := hl Step.refl hr hw
    have q' := q
    rw [← C.hK] at q'
    obtain ⟨its, rr, p, hz⟩ := I.list q'
    obtain ⟨vx, evx, rx'⟩ := rs.get (i := 0) rfl
    obtain ⟨ux, eux, rux⟩ := rr.get evx
    have hls := p.isList
    have hll : l < s.heap.objs.size := p.lt
    refine kmk_tree PySem.F.kind_min PySem.F.plain_min PySem.F.entry_min (kmk_min_key _ _) ?_
    show wpAny _ X.A.in1 (Builtin.Builtins.bindParams "min" ["key", "default"] 0 ⟨[], [(Str.ofString "key", .ref f)]⟩ >>= _) _ _ s
    refine wpAny_bind (wpAny_of_eq (show Builtin.Builtins.bindParams "min" ["key", "default"] 0 ⟨[], [(Str.ofString "key", .ref f)]⟩ = pure [some (.ref f), none] from rfl) ?_)
    refine wpAny_bind (wpAny_pure ?_)
    refine wpAny_bind (wpAny_pyIter_list hls ?_)
    refine wpAny_bind (wpAny_newList ?_ (Nat.zero_le _))
    rw [hname]
    have hS : (s.heap.push { cls := .type "list_iterator", data := .fields #[.ref l, .int 0 0] }).objs.size = s.heap.objs.size + 1 := size_push' ..
    have hSI : (s.heap.push { cls := .type "list_iterator", data := .fields #[.ref l, .int 0 0] }).objs.size ≠ s.heap.objs.size := by rw [hS]; exact Nat.ne_of_gt (Nat.lt_succ_self _)
    have hlI : l ≠ s.heap.objs.size := Nat.ne_of_lt hll
    have fI : FpOk X pins H s.heap.objs.size := I.fpOk (Nat.le_refl _) (I.hok.fresh (Nat.le_refl _))
    have fS : FpOk X pins H (s.heap.push { cls := .type "list_iterator", data := .fields #[.ref l, .int 0 0] }).objs.size := I.fpOk (by rw [hS]; exact Nat.le_succ _) (I.hok.fresh (by rw [hS]; exact Nat.le_succ _))
    refine wpAny_pure ⟨plainId_quiet PySem.F.plain_min_loop _, ?_⟩
    have kp : ∀ b o, s.heap.get? b = some o → ((s.heap.push { cls := .type "list_iterator", data := .fields #[.ref l, .int 0 0] }).push (seqObj "list" #[] 0)).get? b = some o := fun b x e => Heap.get?_push_of_some _ (Heap.get?_push_of_some _ e)
    have I1 := I.kept (t' := s.toks) kp
    have gI' : ((s.heap.push { cls := .type "list_iterator", data := .fields #[.ref l, .int 0 0] }).push (seqObj "list" #[] 0)).get? s.heap.objs.size = some { cls := .type "list_iterator", data := .fields #[.ref l, .int 0 0] } :=
      Heap.get?_push_of_some _ (Heap.get?_push_size _ rfl)
    have gS : ((s.heap.push { cls := .type "list_iterator", data := .fields #[.ref l, .int 0 0] }).push (seqObj "list" #[] 0)).get? (s.heap.push { cls := .type "list_iterator", data := .fields #[.ref l, .int 0 0] }).objs.size = some (seqObj "list" #[] 0) := Heap.get?_push_size _ rfl
    have p2 : ((s.heap.push { cls := .type "list_iterator", data := .fields #[.ref l, .int 0 0] }).push (seqObj "list" #[] 0)).IsList l its.toArray := (p.keeps kp).isList
    generalize hSe : (s.heap.push { cls := .type "list_iterator", data := .fields #[.ref l, .int 0 0] }).objs.size = S at *
    generalize hIe : s.heap.objs.size = J at *
    generalize hhe : (s.heap.push { cls := .type "list_iterator", data := .fields #[.ref l, .int 0 0] }).push (seqObj "list" #[] 0) = h0 at *
    have W := Walks.list (prog := X.prog) (w := X.w) (A := X.A.in1) hh J l hlI its.toArray
    have hlen : 0 < its.toArray.size := by rw [List.size_toArray, ← rr.length, rs.length]; exact Nat.succ_pos _
    refine codeAny_builtin PySem.F.entry_min_loop ?_
    rw [Around.under_plainId PySem.F.plain_min_loop _]
    show wpAny _ X.A.in1 (seqItems? (.ref S) >>= _) _ _ _
    refine wpAny_bind (wpAny_seqItems gS rfl ?_)
    show wpAny _ X.A.in1 (tryCatch (pyNext (.ref J)) _ >>= _) _ _ _
    refine wpAny_bind (wpAny_tryCatch (W.item 0 _ _ _ hlen ⟨⟨_, gI', rfl, rfl⟩, p2⟩ fun v h' tk' hP hst' hk' => ?_))
    have ev : v = ux := by
      have : its.toArray[0]? = some ux := by simpa using eux
      rw [this] at hP; cases hP; rfl
    subst ev
    have it2 : h'.IsListIter J l (0 + 1) := hst'.1
    have I2 := I1.turnedL (t' := tk') hk' (fun b hb => by rw [List.mem_singleton.mp hb]; exact fI)
    have gS' := hk' S _ (by simpa using hSI) gS
    obtain ⟨oI, hoI, coI, doI⟩ := id it2
    have fl : ∀ b ∈ [J, S], FpOk X pins H b := fun b hb => by
      rcases List.mem_cons.mp hb with rfl | hb
      · exact fI
      · rw [List.mem_singleton.mp hb]; exact fS
    have I3 := I2.pinned (fp := [J, S]) fl fun b hb => by
      rcases List.mem_cons.mp hb with rfl | hb
      · exact ⟨oI, hoI, fun v e => by rw [doI] at e; cases e⟩
      · rw [List.mem_singleton.mp hb]; exact ⟨_, gS', fun v e => by cases e⟩
    show wpAny _ X.A.in1 (tryCatch (holding [v] (call (.ref f) [v])) _ >>= _) _ _ _
    refine wpAny_bind (wpAny_tryCatch (wpAny_holding (wpAny_mono (call_in1 C F B I3 (.cons rux .nil) rfl hr (.cons rx' .nil) (Out.bind o)) (fun r s'' q2 => ?_) fun _ _ z => z)))
    obtain ⟨z, h1, M1, rho1, H1, vy, I4, st, hr1, ry, ruy, o1⟩ := q2
    have pI := I4.pin (J, oI) (List.mem_append_right _ (List.mem_append_right _ (mem_pinsAt (by simp) hoI)))
    have pS := I4.pin (S, seqObj "list" #[] 0) (List.mem_append_right _ (List.mem_append_right _ (mem_pinsAt (by simp) gS')))
    have I5 := I4.unpinned
    have fI' : FpOk X pins H1 J := ⟨pI.2.1, fI.2⟩
    have fS' : FpOk X pins H1 S := ⟨pS.2.1, fS.2⟩
    have s1 := Heap.SameBut.update s''.heap S (Obj.mapSeq fun _ => #[v, r])
    obtain ⟨c2, hc2⟩ : ∃ c2, (s''.heap.update S (Obj.mapSeq fun _ => #[v, r])).get? S = some (seqObj "list" #[v, r] c2) := ⟨_, get?_update_seq pS.1 fun _ => #[v, r]⟩
    show wpAny _ X.A.in1 (updateSeq S (fun _ => #[v, r]) >>= _) _ _ _
    refine wpAny_bind ?_
    refine wpAny_updateSeq pS.1 rfl ?_
    rw [hname]
    have I6 := I5.turnedL (t' := s''.toks) (same_but s1) (fun b hb => by rw [List.mem_singleton.mp hb]; exact fS')
    refine wpAny_pure ⟨plainId_quiet PySem.F.plain_min_loop _, min_loop C F B (wt := wtOf (y :: ys) px) (all := y :: ys) (Q := Q) (EX := EX) hSI (fun v u H1 s1 J1 r1 q1 => ?_) ys 1 M1 rho1 H1 h1 _ y z vx vy v r c2 rfl (Nat.succ_le_succ (Nat.zero_le _)) I6 fI' fS' ⟨oI, (s1.2 J (Ne.symm hSI)).trans pI.1, coI, doI⟩ hc2 (fun st2 => hl (st.trans st2)) hr1 (rx'.step st hr) ry rux ruy o1⟩
    exact ⟨v, H1, J1, r1, q1⟩
  · exact (show False from o).elim
/-- min(e, key = g) -/
theorem me_minKey (C : Cxt w (k + 1) X) (F : FnM X.prog X.w w X.mg X.base CX0 exF k f fd ps m) (B : Bd w.K fd ps [] 1 [] ix) {EX : XC} {e : Expr} {me : ME} {z : Str} {p1 p2 kp cpos : Pos} (hg : Gl X "min") (hm : X.mg "min" = none) (he : PE X e (tM w EX me)) (hg2 : Gl X z) (hm2 : X.mg z = some (.ref f)) (hd2 : (z == ("__debug__" : Str)) = false := by decide)
    (hst : starEach [e] X.env = [(false, eval e X.env)] := by rfl) (hb : backTo cpos (starEach [e] X.env) = (false, eval e X.env) :: backTo cpos (starEach [] X.env) := by rfl) (hpl : (backTo cpos (starEach [e] X.env)).any (·.1) = false := by rfl)
    (hall : (backToKw cpos (keywordEach [⟨some "key", .Name z p2, kp⟩] X.env)).all (·.1.isSome) = true := by rfl) (hnone : (backToKw cpos (keywordEach [⟨some "key", .Name z p2, kp⟩] X.env)).any (·.1.isNone) = false := by rfl) (hks : (backToKw cpos (keywordEach [⟨some "key", .Name z p2, kp⟩] X.env)).filterMap (·.1) = [Str.ofString "key"] := by rfl) :
    PE X (.Call (.Name "min" p1) [e] [⟨some "key", .Name z p2, kp⟩] cpos) (tM w EX (mBt (bMinKey m ix) (maCons me maNil))) := by
  have hc : CallRK X (.builtin "min") [Str.ofString "key"] (fun vs zs H Q => zs = [V.ref f] ∧ ∃ M rho h px v, vs = [v] ∧ HR w M rho H h ∧ VR w M rho H px v ∧ Out w EX M rho H (bMinKey m ix h [px]) (KV w Q)) := by
    intro pins s σ H xs zs us ws Q I r1 r2 ⟨ez, M, rho, h, px, v, ev, hr, rx, o⟩
    subst ez; subst ev
    cases r1 with
    | cons a b =>
      cases b
      cases r2 with
      | cons c d =>
        cases d
        cases c
        exact min_run C F B I hr rx a o
  refine PE.imp (pe_callBK hc hg hm (by decide +kernel) (pa_cons he pa_nil hst) (pk_cons (pe_glob (v := .ref f) hg2 hm2 rfl hd2) pk_nil) (by decide) (by decide) hb hpl hall hnone hks) fun σ H Q hh => ?_
  obtain ⟨M, rho, env, h, er, hr, o⟩ := hh
  refine tM.of er hr (Out.bind (Out.bind o)) fun x h1 M1 rho1 H1 v st1 er1 hr1 o1 rv => ?_
  refine ⟨rfl, M1, rho1, h1, x, v, rfl, hr1, rv, ?_⟩
  exact ((Out.bind o1).now hr1).now hr1
end
end MC

end
section
set_option maxRecDepth 100000
set_option maxHeartbeats 4000000
namespace MC
open PySem PySem.Spec PyProof.Rows L2

def insI (x : Int) : List Int → List Int
  | [] => [x]
  | y :: r => bif decide (x ≤ y) then x :: y :: r else y :: insI x r
def isort : List Int → List Int
  | [] => []
  | x :: r => insI x (isort r)
theorem insI_perm (x : Int) : ∀ l : List Int, (insI x l).Perm (x :: l)
  | [] => .refl _
  | y :: r => by
    unfold insI
    by_cases h : x ≤ y
    · rw [decide_eq_true h]; exact .refl _
    · rw [decide_eq_false h]
      exact ((insI_perm x r).cons y).trans (.swap x y r)
theorem isort_perm : ∀ l : List Int, (isort l).Perm l
  | [] => .refl _
  | x :: r => (insI_perm x (isort r)).trans ((isort_perm r).cons x)
theorem insI_sorted (x : Int) : ∀ l : List Int, l.Pairwise (· ≤ ·) → (insI x l).Pairwise (· ≤ ·)
  | [], _ => List.pairwise_singleton _ _
  | y :: r, h => by
    unfold insI
    have h2 := List.pairwise_cons.mp h
    by_cases e : x ≤ y
    · rw [decide_eq_true e]
      refine List.pairwise_cons.mpr ⟨fun z hz => ?_, h⟩
      rcases List.mem_cons.mp hz with rfl | hz
      · exact e
      · exact Int.le_trans e (h2.1 z hz)
    · rw [decide_eq_false e]
      refine List.pairwise_cons.mpr ⟨fun z hz => ?_, insI_sorted x r h2.2⟩
      rcases List.mem_cons.mp ((insI_perm x r).mem_iff.mp hz) with rfl | hz
      · omega
      · exact h2.1 z hz
theorem isort_sorted : ∀ l : List Int, (isort l).Pairwise (· ≤ ·)
  | [] => .nil
  | x :: r => insI_sorted x _ (isort_sorted r)
theorem sorted_eq : ∀ {l m : List Int}, l.Perm m → l.Pairwise (· ≤ ·) → m.Pairwise (· ≤ ·) → l = m
  | [], m, p, _, _ => by rw [List.nil_perm.mp p]
  | x :: l, [], p, _, _ => by have := p.length_eq; simp at this
  | x :: l, y :: m, p, hl, hm => by
    have h1 := List.pairwise_cons.mp hl
    have h2 := List.pairwise_cons.mp hm
    have e : x = y := by
      have a : x ∈ y :: m := p.mem_iff.mp List.mem_cons_self
      have b : y ∈ x :: l := p.mem_iff.mpr List.mem_cons_self
      have c : y ≤ x := by
        rcases List.mem_cons.mp a with q | q
        · rw [q]; exact Int.le_refl _
        · exact h2.1 x q
      have d : x ≤ y := by
        rcases List.mem_cons.mp b with q | q
        · rw [q]; exact Int.le_refl _
        · exact h1.1 y q
      omega
    subst e
    rw [sorted_eq (List.Perm.cons_inv p) h1.2 h2.2]
def keysD (h : PH) : PV → Option (List PV)
  | .ref n => match h[n]? with
    | some (.dic _ kvs) => some (kvs.map (·.1))
    | _ => none
  | _ => none
def bSorted : OC := fun h xs => match xs with
  | [x] => match lstP h x with
    | some ys => match intsP ys with
      | some is => .ok (.ref h.length) (h ++ [.lst ((isort is).map PV.int)])
      | none => .stuck
    | none => match keysD h x with
      | some ys => match intsP ys with
        | some is => bif decide (is.length < 64) then .ok (.ref h.length) (h ++ [.lst ((isort is).map PV.int)]) else .stuck
        | none => .stuck
      | none => .stuck
  | _ => .stuck
section
variable {w : Wo} {EX : XC} {X : Cx} {k : Nat} {M : Addr → Prop} {rho : List Addr} {H : Hp} {h : PH}
theorem intsP_eq : ∀ {ys : List PV} {is : List Int}, intsP ys = some is → ys = is.map PV.int
  | [], is, e => by cases e; rfl
  | y :: ys, is, e => by
    cases y <;> (unfold intsP at e) <;> try (cases e)
    rename_i i
    split at e
    · rename_i js ej
      cases e
      rw [List.map_cons, intsP_eq ej]
    · cases e
theorem vrs_ints : ∀ {is : List Int} {vs : List V}, VRs w M rho H (is.map PV.int) vs → vs = is.map V.int
  | [], vs, r => by cases r; rfl
  | i :: is, vs, r => by
    cases r with
    | cons a b => cases a; rw [List.map_cons, vrs_ints b]
theorem ints_vrs : ∀ is : List Int, VRs w M rho H (is.map PV.int) (is.map V.int)
  | [] => .nil
  | i :: is => .cons (.int i) (ints_vrs is)
theorem keys_ints : ∀ {kvs : List (PV × PV)} {ks : List (Key × V)} {is : List Int}, KRs w M rho H kvs ks → kvs.map (·.1) = is.map PV.int → ks.map (·.1) = is.map Sum.inl
  | _, _, [], .nil, e => rfl
  | _, _, _ :: _, .nil, e => by cases e
  | _, _, [], .cons _ _ _, e => by cases e
  | _, _, i :: is, .cons (k := q) hk hx hr, e => by
    rw [List.map_cons, List.map_cons] at e
    injection e with e1 e2
    cases e1
    cases hk
    rw [List.map_cons, List.map_cons, keys_ints hr e2]
theorem b_sorted (C : Cxt w k X) : CallR X (.builtin "sorted") (rA w EX bSorted) := by
  have fin : ∀ {is : List Int} {Q : VK} {M : Addr → Prop} {rho : List Addr} {H : Hp} {h : PH}, HR w M rho H h → Out w EX M rho H (.ok (.ref h.length) (h ++ [.lst ((isort is).map PV.int)])) (KV w Q) → ∀ (ns : List Int) (p : Addr), ns.Perm is → ns.Pairwise (· ≤ ·) → H p = none → Q (.ref p) (upd H p (.lst (ns.map V.int))) := by
    intro is Q M rho H h hr o ns p hp hs hn
    have e : ns = isort is := sorted_eq (hp.trans (isort_perm is).symm) hs (isort_sorted is)
    subst e
    exact KV.lst hr o (ints_vrs _) p hn
  intro pins s σ H vs us Q I r hh
  obtain ⟨M, rho, h, px, hr, rs, o⟩ := hh
  unfold bSorted at o
  split at o
  · rename_i x
    obtain ⟨v, rfl, rv⟩ := vrs1 rs
    split at o
    · rename_i ys e0
      split at o
      · rename_i is e1
        obtain ⟨a, ws, rfl, rw', q⟩ := lst_ok hr rv e0
        rw [intsP_eq e1] at rw'
        have := vrs_ints rw'
        subst this
        exact cr_sortedI pins s σ H _ us Q I r ⟨a, is, rfl, by rw [C.hK]; exact q, fin hr o⟩
      · exact (show False from o).elim
    · split at o
      · rename_i ys e0
        split at o
        · rename_i is e1
          obtain ⟨hl, o⟩ := Out.bif o
          cases x <;> try (cases e0)
          rename_i n
          simp only [keysD] at e0
          split at e0
          · rename_i lk kvs e2
            cases e0
            cases rv with
            | @ref _ a ha =>
              obtain ⟨b, hb, ks, h1, sa⟩ := hr.ob _ _ e2
              rw [ha] at hb; cases hb
              have rd : Rd H a (.dK ks) := by
                cases lk with
                | false => exact .inl h1
                | true => exact .inr h1
              exact call_sortedDI C.calm pins s σ H _ us Q I r ⟨a, ks, is, rfl, rd, keys_ints sa (intsP_eq e1), of_decide_eq_true hl, fin hr o⟩
          · cases e0
        · exact (show False from o).elim
      · exact (show False from o).elim
  · exact (show False from o).elim
end
end MC

end
section
set_option maxRecDepth 100000
set_option maxHeartbeats 4000000
namespace MC
open PySem PySem.Spec PyProof.Rows L2

/-- a class's own special method -/
structure SpM (P : Program) (W : World) (w : Wo) (mg : Str → Option Value) (base : Heap) (c : Nat) (nm : Str) (k n : Nat) (m : MF) (ix : List Nat) : Prop where
  ex : ∃ A f fd ps, w.cl c = some A ∧ PySem.W.findIn w.K (.ref A) nm = some (some (.ref f)) ∧ PySem.W.isFn w.K (.ref f) = true ∧ FnM P W w mg base CX0 exF k f fd ps m ∧ Bd w.K fd ps [] n [] ix
def bLenI (c : Nat) (m : MF) (ix : List Nat) : OC := fun h xs => match xs with
  | [x] => match fldsOf h x with
    | some (d, _) => bif d == c then (callG takeBack m (gI ix [x]) h).bind fun v h1 => match v with
      | .int n => bif decide (0 ≤ n) && decide (n < 9223372036854775808) then .ok (.int n) h1 else .stuck
      | _ => .stuck else .stuck
    | none => .stuck
  | _ => .stuck
def bReprI (c : Nat) (m : MF) (ix : List Nat) : OC := fun h xs => match xs with
  | [x] => match fldsOf h x with
    | some (d, _) => bif d == c then (callG takeBack m (gI ix [x]) h).bind fun v h1 => match v with
      | .str n => .ok (.str n) h1
      | _ => .stuck else .stuck
    | none => .stuck
  | _ => .stuck
section
variable {w : Wo} {EX : XC} {X : Cx} {k c : Nat} {m : MF} {ix : List Nat} {M : Addr → Prop} {rho : List Addr} {H : Hp} {h : PH}
theorem b_lenI (C : Cxt w (k + 1) X) (S : SpM X.prog X.w w X.mg X.base c "__len__" k 1 m ix) : CallR X (.builtin "len") (rA w EX (bLenI c m ix)) := by
  obtain ⟨A, f, fd, ps, hA, hs, hf, F, B⟩ := S.ex
  intro pins s σ H vs us Q I r hh
  obtain ⟨M, rho, h, px, hr, rs, o⟩ := hh
  unfold bLenI at o
  split at o
  · rename_i x
    obtain ⟨v, rfl, rv⟩ := vrs1 rs
    split at o
    · rename_i d fs ef
      obtain ⟨hd, o2⟩ := Out.bif o
      have hd := beq_iff_eq.mp hd
      subst hd
      obtain ⟨a, D, dx, gs, rfl, q1, q2, q3⟩ := flds_ok hr rv ef
      rw [hA] at q1
      cases q1
      cases r with
      | cons ra rb =>
        cases rb
        obtain rfl := (show _ = Value.ref a from ra)
        obtain ⟨mA, J, _⟩ := ins_get I.hok q2
        obtain ⟨od, J, _⟩ := J.look
        obtain ⟨m0, hF⟩ := I.fr
        refine PySem.W.len_K hF I.ok.mod.kin J (by rw [C.hK]; exact hs) (by rw [C.hK]; exact hf) (wpAny_mono (call_in1 C F B (us := [.ref a]) (vs := [.ref a]) I (.cons rfl .nil) rfl hr (.cons rv .nil) (Out.bind o2)) (fun u s' q => ?_) fun _ _ z => z)
        obtain ⟨y, h1, M1, rho1, H1, vy, I1, st, hr1, ry, ru, o1⟩ := q
        split at o1
        · rename_i n
          obtain ⟨hb, o1⟩ := Out.bif o1
          rw [Bool.and_eq_true] at hb
          cases ry
          obtain ⟨t, rfl⟩ := (show ∃ t, u = Value.int n t from ru)
          refine ⟨⟨of_decide_eq_true hb.1, by have := of_decide_eq_true hb.2; omega⟩, .int n, H1, I1.tok _, ⟨_, rfl⟩, o1.now hr1 _ (.int n)⟩
        · exact (show False from o1).elim
    · exact (show False from o).elim
  · exact (show False from o).elim
theorem b_reprI (C : Cxt w (k + 1) X) (S : SpM X.prog X.w w X.mg X.base c "__repr__" k 1 m ix) : CallR X (.builtin "repr") (rA w EX (bReprI c m ix)) := by
  obtain ⟨A, f, fd, ps, hA, hs, hf, F, B⟩ := S.ex
  intro pins s σ H vs us Q I r hh
  obtain ⟨M, rho, h, px, hr, rs, o⟩ := hh
  unfold bReprI at o
  split at o
  · rename_i x
    obtain ⟨v, rfl, rv⟩ := vrs1 rs
    split at o
    · rename_i d fs ef
      obtain ⟨hd, o2⟩ := Out.bif o
      have hd := beq_iff_eq.mp hd
      subst hd
      obtain ⟨a, D, dx, gs, rfl, q1, q2, q3⟩ := flds_ok hr rv ef
      rw [hA] at q1
      cases q1
      cases r with
      | cons ra rb =>
        cases rb
        obtain rfl := (show _ = Value.ref a from ra)
        obtain ⟨mA, J, _⟩ := ins_get I.hok q2
        obtain ⟨od, J, _⟩ := J.look
        obtain ⟨m0, hF⟩ := I.fr
        refine PySem.W.repr_K C.room.in1.units0 hF I.ok.mod.kin J (by rw [C.hK]; exact hs) (by rw [C.hK]; exact hf) (wpAny_mono (call_in1 C F B (us := [.ref a]) (vs := [.ref a]) I (.cons rfl .nil) rfl hr (.cons rv .nil) (Out.bind o2)) (fun u s' q => ?_) fun _ _ z => z)
        obtain ⟨y, h1, M1, rho1, H1, vy, I1, st, hr1, ry, ru, o1⟩ := q
        split at o1
        · rename_i z
          cases ry
          obtain ⟨t, rfl⟩ := (show ∃ t, u = Value.str ⟨z.toArray⟩ t from ru)
          exact ⟨.str ⟨z.toArray⟩, H1, I1, ⟨_, rfl⟩, o1.now hr1 _ (.str z)⟩
        · exact (show False from o1).elim
    · exact (show False from o).elim
  · exact (show False from o).elim
variable {n : Nat} {f A : Addr} {op : OC} {m : Nm} {pos apos : Pos} {e o : Expr} {es : List Expr} {ks : List Str} {kws : List Keyword} {ma mk : MA} {mo : ME} {pl : Sem Bool}
theorem me_methZ {z : Str} (hz : z = nmS m) (C : Cxt w k X) (c : Nat) (hA : w.cl c = some A) (hc : Cls w.K A) (hm : Meth w.K A (nmS m) f) (B : Clb X w EX (.ref f) n [] op) (ho : PE X o (tM w EX mo)) (ha : PA X (e :: es) (tA w EX ma))
    (hst : starEach (e :: es) X.env = (false, eval e X.env) :: starEach es X.env := by rfl) (hpl : (backTo pos (starEach es X.env)).any (·.1) = false := by rfl)
    (ht : eval (.Call (.Attribute o z apos) (e :: es) [] pos) X.env = (do
      let ov ← eval o X.env
      standAt apos.atName
      let (f, first) ← holding [ov] (getMethod ov z pl)
      callWith pos f first (backTo pos (starEach (e :: es) X.env)) (backToKw pos (keywordEach [] X.env))) := by rfl) :
    PE X (.Call (.Attribute o z apos) (e :: es) [] pos) (tM w EX (mMe c m op n mo ma)) := by
  subst hz
  exact me_meth C c hA hc hm B ho ha hst hpl ht
theorem me_meth0Z {z : Str} (hz : z = nmS m) (C : Cxt w k X) (c : Nat) (hA : w.cl c = some A) (hc : Cls w.K A) (hm : Meth w.K A (nmS m) f) (B : Clb X w EX (.ref f) 1 [] op) (ho : PE X o (tM w EX mo))
    (ht : eval (.Call (.Attribute o z apos) [] [] pos) X.env = (do
      let ov ← eval o X.env
      standAt apos.atName
      let (f, first) ← holding [ov] (getMethod ov z pl)
      callWith pos f first (backTo pos (starEach [] X.env)) (backToKw pos (keywordEach [] X.env))) := by rfl) :
    PE X (.Call (.Attribute o z apos) [] [] pos) (tM w EX (mMe c m op 1 mo maNil)) := by
  subst hz
  exact me_meth0 C c hA hc hm B ho ht
theorem me_methK0Z {z : Str} (hz : z = nmS m) (C : Cxt w k X) (c : Nat) (hA : w.cl c = some A) (hc : Cls w.K A) (hm : Meth w.K A (nmS m) f) (B : Clb X w EX (.ref f) 1 ks op) (ho : PE X o (tM w EX mo)) (hkw : PK X kws (tA w EX mk)) (j : Nat) (hj : ks.length = j := by rfl)
    (hall : (backToKw pos (keywordEach kws X.env)).all (·.1.isSome) = true := by rfl) (hks : (backToKw pos (keywordEach kws X.env)).filterMap (·.1) = ks := by rfl)
    (hpl : ((backTo pos (starEach [] X.env)).any (·.1) || (backToKw pos (keywordEach kws X.env)).any (·.1.isNone)) = false := by rfl)
    (ht : eval (.Call (.Attribute o z apos) [] kws pos) X.env = (do
      let ov ← eval o X.env
      standAt apos.atName
      let (f, first) ← holding [ov] (getMethod ov z pl)
      callWith pos f first (backTo pos (starEach [] X.env)) (backToKw pos (keywordEach kws X.env))) := by rfl) :
    PE X (.Call (.Attribute o z apos) [] kws pos) (tM w EX (mMeK c m op 1 j mo maNil mk)) := by
  subst hz
  exact me_methK0 C c hA hc hm B ho hkw j hj hall hks hpl ht
theorem meth_mk {K : PySem.W.Frag} {C f : Addr} {z : Str} (m : Nm) (hz : z = nmS m) (h1 : PySem.W.findIn K (.ref C) z = some (some (.ref f))) (h2 : PySem.W.isFn K (.ref f) = true) (h3 : PySem.W.keepIn K (.ref f) = true) : Meth K C (nmS m) f := by
  subst hz
  exact ⟨h1, h2, h3⟩
/-- a tuple of the written part -/
theorem gtup {a : Addr} {its : Array Value} {n : Nat} {sl : Array (Option Value)} {vs : List V} {xs : List PV} {H : Hp} (h : w.K.lookup a = some ⟨.type "tuple", none, .seq its n, sl⟩) (hl : its.size ≤ 1000) (hv : Vals vs its.toList) (hx : VRs w M rho H xs vs) : VR w M rho H (.tup xs) (.ref a) :=
  .tup (.inr ⟨_, its, n, h, rfl, rfl, by rw [sizeLine_eq]; omega, hv⟩) hx
end
end MC

end
section
set_option maxRecDepth 100000
set_option maxHeartbeats 4000000
namespace MC
open PySem PySem.Spec PyProof.Rows L2

def findT (s : List Nat) : List (List Nat × PV) → Option PV
  | [] => none
  | (k, v) :: r => bif k == s then some v else findT s r
/-- the i-th global is a written dict with these rows -/
structure KTab (w : Wo) (W : World) (i : Nat) (rows : List (List Nat × PV)) : Prop where
  ex : ∃ d es n, w.gv i = some (.ref d) ∧ KDict w.K W d es n ∧ ∀ s : List Nat, (findT s rows = none ∧ PySem.W.nsIn w.K d ⟨s.toArray⟩ = some none) ∨
    ∃ y u v, findT s rows = some y ∧ PySem.W.nsIn w.K d ⟨s.toArray⟩ = some (some u) ∧ RelV v u ∧ ∀ M rho H, VR w M rho H y v
def opKIn (neg : Bool) (i : Nat) (rows : List (List Nat × PV)) : O2 := fun h x y => match x, y with
  | .str s, .gl j => bif j == i then .ok (.bl (negB neg (findT s rows).isSome)) h else .stuck
  | _, _ => .stuck
def opKIx (i : Nat) (rows : List (List Nat × PV)) : O2 := fun h x y => match x, y with
  | .gl j, .str s => bif j == i then (match findT s rows with
    | some v => .ok v h
    | none => .stuck) else .stuck
  | _, _ => .stuck
section
variable {w : Wo} {EX : XC} {X : Cx} {k : Nat} {rows : List (List Nat × PV)} {i : Nat}
theorem o_kin (C : Cxt w k X) (T : KTab w X.w i rows) : OpR X (compareOp .In) (r2 w EX (opKIn false i rows)) := by
  intro pins s σ H x y v u Q I rx ry ⟨M, rho, h, px, py, hr, vx, vy, o⟩
  obtain ⟨d, es, n, e1, D, e2⟩ := T.ex
  unfold opKIn at o
  split at o
  · rename_i z j
    obtain ⟨hj, o2⟩ := Out.bif o
    have hj := beq_iff_eq.mp hj
    subst hj
    cases vx
    cases vy with
    | gl eg =>
      rw [e1] at eg
      cases eg
      refine op_in_kd (by rw [C.hK]; exact D) pins s σ H _ _ v u Q I rx ry ?_
      rcases e2 z with ⟨f1, f2⟩ | ⟨y, u', v', f1, f2, _⟩
      · rw [f1] at o2; exact ⟨_, none, rfl, rfl, by rw [C.hK]; exact f2, o2.now hr _ (.bl _)⟩
      · rw [f1] at o2; exact ⟨_, some u', rfl, rfl, by rw [C.hK]; exact f2, o2.now hr _ (.bl _)⟩
  · exact (show False from o).elim
theorem o_knotin (C : Cxt w k X) (T : KTab w X.w i rows) : OpR X (compareOp .NotIn) (r2 w EX (opKIn true i rows)) := by
  intro pins s σ H x y v u Q I rx ry ⟨M, rho, h, px, py, hr, vx, vy, o⟩
  obtain ⟨d, es, n, e1, D, e2⟩ := T.ex
  unfold opKIn at o
  split at o
  · rename_i z j
    obtain ⟨hj, o2⟩ := Out.bif o
    have hj := beq_iff_eq.mp hj
    subst hj
    cases vx
    cases vy with
    | gl eg =>
      rw [e1] at eg
      cases eg
      refine op_notIn_kd (by rw [C.hK]; exact D) pins s σ H _ _ v u Q I rx ry ?_
      rcases e2 z with ⟨f1, f2⟩ | ⟨y, u', v', f1, f2, _⟩
      · rw [f1] at o2; exact ⟨_, none, rfl, rfl, by rw [C.hK]; exact f2, o2.now hr _ (.bl _)⟩
      · rw [f1] at o2; exact ⟨_, some u', rfl, rfl, by rw [C.hK]; exact f2, o2.now hr _ (.bl _)⟩
  · exact (show False from o).elim
theorem o_kix (C : Cxt w k X) (T : KTab w X.w i rows) : IxR X (r2 w EX (opKIx i rows)) := by
  intro value slice pins s σ H x y v u Q I rx ry ⟨M, rho, h, px, py, hr, vx, vy, o⟩ hs
  obtain ⟨d, es, n, e1, D, e2⟩ := T.ex
  unfold opKIx at o
  split at o
  · rename_i j z
    obtain ⟨hj, o2⟩ := Out.bif o
    have hj := beq_iff_eq.mp hj
    subst hj
    cases vy
    cases vx with
    | gl eg =>
      rw [e1] at eg
      cases eg
      have D' : KDict X.K X.w d es n := by rw [C.hK]; exact D
      rcases e2 z with ⟨f1, f2⟩ | ⟨y, u', v', f1, f2, f3, f4⟩
      · rw [f1] at o2; exact (show False from o2).elim
      · rw [f1] at o2
        cases rx
        refine tail_any (T := "dict") (kd_type D' I) PySem.F.slot_dict_getitem.lookup ?_ hs
        exact op_item_kd D' pins s σ H (.ref d) _ (.ref d) u Q I (show RelV (V.ref d) (Value.ref d) from rfl) ry ⟨_, u', v', rfl, rfl, by rw [C.hK]; exact f2, f3, (show Out w EX M rho H (.ok y h) (KV w Q) from o2).now hr _ (f4 _ _ _)⟩
  · exact (show False from o).elim
theorem me_kix (C : Cxt w k X) (T : KTab w X.w i rows) {a b : Expr} {ma mb : ME} {pos : Pos} (ha : PE X a (tM w EX ma)) (hb : PE X b (tM w EX mb)) (hs : PlainIx b := by exact fun _ _ => rfl) : PE X (.Subscript a b pos) (tM w EX (mOp (opKIx i rows) ma mb)) :=
  PE.imp (pe_ix (o_kix C T) ha hb hs) fun _ _ _ h => tM_op h

def mCallV (i : Nat) (tab : List (Nat × MF)) (n : Nat) (ma : MA) : ME := fun env h => match env[i]? with
  | some (some (.gl j)) => match tab.lookup j with
    | some m => (ma env h).bind fun xs h1 => bif xs.length == n then callG takeBack m (gI (List.range n) (xs ++ [])) h1 else .stuck
    | none => .stuck
  | _ => .stuck
/-- the defs of the table -/
def FTab (P : Program) (W : World) (w : Wo) (mg : Str → Option Value) (base : Heap) (k n : Nat) (tab : List (Nat × MF)) : Prop := ∀ p ∈ tab, ∃ f fd ps, w.gv p.1 = some (.ref f) ∧ PySem.W.keepIn w.K (.ref f) = true ∧ FnM P W w mg base CX0 exF k f fd ps p.2 ∧ Bd w.K fd ps [] n [] (List.range n)
theorem lookup_memF {n : Nat} {m : MF} : ∀ {l : List (Nat × MF)}, l.lookup n = some m → (n, m) ∈ l
  | [], e => by cases e
  | (j, c) :: r, e => by
    rw [List.lookup_cons] at e
    cases q : n == j with
    | true => rw [q] at e; cases e; rw [beq_iff_eq.mp q]; exact List.mem_cons_self
    | false => rw [q] at e; exact List.mem_cons_of_mem _ (lookup_memF e)
theorem me_callV (C : Cxt w k X) {n : Nat} {tab : List (Nat × MF)} (F : FTab X.prog X.w w X.mg X.base k n tab) (i : Nat) {x : Str} {p pos : Pos} {e : Expr} {es : List Expr} {ma : MA} (ha : PA X (e :: es) (tA w EX ma)) (hN : X.N[i]? = some x := by rfl) (hv : Vis X.env.scope x := by first | exact Or.inl rfl | exact Or.inr (Or.inl rfl) | exact Or.inr (Or.inr rfl))
    (hdb : (x == ("__debug__" : Str)) = false := by decide) (hcd : (x == ("__classdict__" : Str)) = false := by decide)
    (he : starEach (e :: es) X.env = (false, eval e X.env) :: starEach es X.env := by rfl) (hpl : (backTo pos (starEach es X.env)).any (·.1) = false := by rfl) : PE X (.Call (.Name x p) (e :: es) [] pos) (tM w EX (mCallV i tab n ma)) := by
  refine ⟨fun pins s σ H Q I h => ?_⟩
  obtain ⟨M, rho, env, hh, er, hr, o⟩ := h
  unfold mCallV at o
  split at o
  · rename_i j ej
    split at o
    · rename_i m em
      obtain ⟨f, fd, ps, g1, g2, g3, g4⟩ := F _ (lookup_memF em)
      obtain ⟨v, ev, rv⟩ := er.get ej
      cases rv with
      | gl eg =>
        rw [g1] at eg
        cases eg
        have B := clb_fn (EX := EX) (ks := []) C g3 pass0 g2 g4 (dv := []) (dp := []) .nil (fun _ _ _ => .nil) tb_ok
        refine wpAny_Call_Name_kw (thn ((pe_var (pos := p) hN hv hdb hcd).run pins s σ H (fun v H1 => v = .ref f ∧ H1 = H) I ⟨.ref f, ev, rfl, rfl⟩) fun u s1 ⟨v, H1, I1, r1, q1⟩ => ?_)
        obtain ⟨rfl, rfl⟩ := q1
        cases r1
        refine PySem.W.callWith_K (h₀ := X.base) I1.ok.mod.kin B.kp (thn (ha.run pos pins s1 σ _ _ I1 (tA.of er hr (Out.bind o) fun xs h1 M1 rho1 H1 vs st1 er1 hr1 o1 rs => (⟨M1, rho1, h1, xs, hr1, rs, o1⟩ : ∃ M1 rho1 h1 xs, HR w M1 rho1 H1 h1 ∧ VRs w M1 rho1 H1 xs vs ∧ Out w EX M1 rho1 H1 (bif xs.length == n then callG takeBack m (gI (List.range n) (xs ++ [])) h1 else .stuck) (KV w Q)))) fun us s2 ⟨vs, H2, I2, r, q⟩ => ⟨I2.kIn, ?_⟩) he hpl
        obtain ⟨M1, rho1, h1, xs, hr1, rs, o1⟩ := q
        exact clb_at B rfl I2 r hr1 rs o1
    · exact (show False from o).elim
  · exact (show False from o).elim
end
/-- the globals by number -/
def gvOf (l : List (Nat × Addr)) : Nat → Option V := fun i => (l.lookup i).map V.ref
theorem gvn_of {l : List (Nat × Addr)} : ∀ i v, gvOf l i = some v → v ≠ .non := fun i v e => by
  unfold gvOf at e
  obtain ⟨a, _, rfl⟩ := Option.map_eq_some_iff.mp e
  exact fun z => nomatch z
/-- the rows of a written dict -/
def rowE (r : Int × Str × Tok × Value) : DictEntry := ⟨r.1, .str r.2.1 r.2.2.1, r.2.2.2⟩
def findR (s : Str) : List (Int × Str × Tok × Value) → Option Value
  | [] => none
  | r :: t => bif r.2.1 == s then some r.2.2.2 else findR s t
theorem nsIn_rows {K : PySem.W.Frag} {d : Addr} {n : Nat} {sl : Array (Option Value)} {rs : List (Int × Str × Tok × Value)} {c : Value} {od : Option Addr} (h : K.lookup d = some ⟨c, od, .dict (rs.map rowE).toArray n, sl⟩) (s : Str) : PySem.W.nsIn K d s = some (findR s rs) := by
  unfold PySem.W.nsIn
  rw [h]
  have key : ∀ rs : List (Int × Str × Tok × Value), ((rs.map rowE).find? (·.key.isStr s)).map (·.val) = findR s rs := by
    intro rs
    induction rs with
    | nil => rfl
    | cons r t ih =>
      rw [List.map_cons, List.find?_cons]
      have e : (rowE r).key.isStr s = (r.2.1 == s) := rfl
      rw [e]
      unfold findR
      cases q : r.2.1 == s with
      | true => rfl
      | false => exact ih
  have none : (rs.map rowE).any (·.refKey) = false := by
    rw [List.any_eq_false]
    intro e he
    obtain ⟨r, _, rfl⟩ := List.mem_map.mp he
    exact Bool.false_ne_true
  simp only [List.toList_toArray]
  have k := key rs
  cases q : (rs.map rowE).find? (·.key.isStr s) with
  | some e => rw [q] at k; rw [← k]; rfl
  | none => rw [q] at k; simp only [none]; rw [← k]; rfl
inductive RowsOk (w : Wo) : List (Int × Str × Tok × Value) → List (List Nat × PV) → Prop
  | nil : RowsOk w [] []
  | cons {h : Int} {z : Str} {t : Tok} {u : Value} {k : List Nat} {y : PV} {v : V} {r r'} : z = ⟨k.toArray⟩ → RelV v u → (∀ M rho H, VR w M rho H y v) → RowsOk w r r' → RowsOk w ((h, z, t, u) :: r) ((k, y) :: r')
theorem RowsOk.find {w : Wo} (s : List Nat) : ∀ {rs rows}, RowsOk w rs rows → (findT s rows = none ∧ findR ⟨s.toArray⟩ rs = none) ∨ ∃ y u v, findT s rows = some y ∧ findR ⟨s.toArray⟩ rs = some u ∧ RelV v u ∧ ∀ M rho H, VR w M rho H y v
  | _, _, .nil => .inl ⟨rfl, rfl⟩
  | _, _, .cons (z := z) (k := k) hz hv hy ht => by
    subst hz
    unfold findT findR
    have e : ((⟨k.toArray⟩ : Str) == ⟨s.toArray⟩) = (k == s) := by
      by_cases q : k = s
      · rw [q]; simp
      · rw [beq_eq_false_iff_ne.mpr q]
        exact beq_eq_false_iff_ne.mpr fun z => q (S_inj z)
    simp only [e]
    cases q : k == s with
    | true => exact .inr ⟨_, _, _, rfl, rfl, hv, hy⟩
    | false => exact RowsOk.find s ht
theorem ktab_of {w : Wo} {W : World} {i : Nat} {d : Addr} {n : Nat} {rs : List (Int × Str × Tok × Value)} {rows : List (List Nat × PV)} (hg : w.gv i = some (.ref d)) (h : w.K.lookup d = some ⟨.type "dict", none, .dict (rs.map rowE).toArray n, #[]⟩) (hl : PySem.W.KeysLit W.params (rs.map rowE)) (hd : (d == sysModules) = false) (ok : RowsOk w rs rows) : KTab w W i rows :=
  ⟨d, _, n, hg, ⟨h, by simpa using hl, hd⟩, fun s => by
    rw [nsIn_rows h]
    rcases ok.find s with ⟨a, b⟩ | ⟨y, u, v, a, b, c, e⟩
    · exact .inl ⟨a, by rw [b]⟩
    · exact .inr ⟨y, u, v, a, by rw [b], c, e⟩⟩
end MC

end
section
set_option maxRecDepth 100000
set_option maxHeartbeats 4000000
namespace MC
open PySem PySem.Spec PyProof.Rows L2

def strI (i : Int) : List Nat := (Str.ofString (toString i)).cps.toList
theorem strI_eq (i : Int) : (⟨(strI i).toArray⟩ : Str) = Str.ofString (toString i) := by unfold strI; simp
def bigI : Nat := 1920
def fitI (i : Int) : Bool := decide (i.natAbs.log2 < bigI)
def bStrI : OC := fun h xs => match xs with
  | [.int i] => bif fitI i then .ok (.str (strI i)) h else .stuck
  | _ => .stuck
def bBool : OC := fun h xs => match xs with
  | [.int i] => .ok (.bl (i != 0)) h
  | [.bl b] => .ok (.bl b) h
  | _ => .stuck
def maxL : Int → List Int → Int
  | m, [] => m
  | m, x :: r => maxL (if x > m then x else m) r
def minLi : Int → List Int → Int
  | m, [] => m
  | m, x :: r => minLi (if x < m then x else m) r
def bMax1 : OC := fun h xs => match xs with
  | [x] => match lstP h x with
    | some ys => match intsP ys with
      | some (i :: is) => .ok (.int (maxL i is)) h
      | _ => .stuck
    | none => .stuck
  | _ => .stuck
def bMin1 : OC := fun h xs => match xs with
  | [x] => match lstP h x with
    | some ys => match intsP ys with
      | some (i :: is) => .ok (.int (minLi i is)) h
      | _ => .stuck
    | none => .stuck
  | _ => .stuck
theorem maxL_ok : ∀ (m : Int) (l : List Int), (maxL m l ∈ m :: l) ∧ ∀ y ∈ m :: l, y ≤ maxL m l
  | m, [] => ⟨List.mem_cons_self, fun y h => by rw [List.mem_singleton.mp h]; exact Int.le_refl _⟩
  | m, x :: r => by
    obtain ⟨h1, h2⟩ := maxL_ok (if x > m then x else m) r
    show maxL (if x > m then x else m) r ∈ m :: x :: r ∧ ∀ y ∈ m :: x :: r, y ≤ maxL (if x > m then x else m) r
    generalize maxL (if x > m then x else m) r = z at *
    by_cases e : x > m
    · rw [if_pos e] at h1 h2
      refine ⟨List.mem_cons_of_mem _ h1, fun y hy => ?_⟩
      rcases List.mem_cons.mp hy with rfl | hy
      · have := h2 x List.mem_cons_self; omega
      · exact h2 y hy
    · rw [if_neg e] at h1 h2
      refine ⟨?_, fun y hy => ?_⟩
      · rcases List.mem_cons.mp h1 with q | q
        · rw [q]; exact List.mem_cons_self
        · exact List.mem_cons_of_mem _ (List.mem_cons_of_mem _ q)
      · rcases List.mem_cons.mp hy with rfl | hy
        · exact h2 y List.mem_cons_self
        · rcases List.mem_cons.mp hy with rfl | hy
          · have := h2 m List.mem_cons_self; omega
          · exact h2 y (List.mem_cons_of_mem _ hy)
theorem minL_ok : ∀ (m : Int) (l : List Int), (minLi m l ∈ m :: l) ∧ ∀ y ∈ m :: l, minLi m l ≤ y
  | m, [] => ⟨List.mem_cons_self, fun y h => by rw [List.mem_singleton.mp h]; exact Int.le_refl _⟩
  | m, x :: r => by
    obtain ⟨h1, h2⟩ := minL_ok (if x < m then x else m) r
    show minLi (if x < m then x else m) r ∈ m :: x :: r ∧ ∀ y ∈ m :: x :: r, minLi (if x < m then x else m) r ≤ y
    generalize minLi (if x < m then x else m) r = z at *
    by_cases e : x < m
    · rw [if_pos e] at h1 h2
      refine ⟨List.mem_cons_of_mem _ h1, fun y hy => ?_⟩
      rcases List.mem_cons.mp hy with rfl | hy
      · have := h2 x List.mem_cons_self; omega
      · exact h2 y hy
    · rw [if_neg e] at h1 h2
      refine ⟨?_, fun y hy => ?_⟩
      · rcases List.mem_cons.mp h1 with q | q
        · rw [q]; exact List.mem_cons_self
        · exact List.mem_cons_of_mem _ (List.mem_cons_of_mem _ q)
      · rcases List.mem_cons.mp hy with rfl | hy
        · exact h2 y List.mem_cons_self
        · rcases List.mem_cons.mp hy with rfl | hy
          · have := h2 m List.mem_cons_self; omega
          · exact h2 y (List.mem_cons_of_mem _ hy)
section
variable {w : Wo} {EX : XC} {X : Cx} {k : Nat} {M : Addr → Prop} {rho : List Addr} {H : Hp} {h : PH}
theorem b_strI : CallR X (.type "str") (rA w EX bStrI) := by
  refine CallR.imp call_str_int fun xs H Q hh => rA1 hh fun M rho h ps hr rs o => ?_
  unfold bStrI at o
  split at o
  · rename_i i
    obtain ⟨v, rfl, rv⟩ := vrs1 rs
    cases rv
    obtain ⟨hf, o⟩ := Out.bif o
    exact ⟨i, rfl, of_decide_eq_true hf, o.now hr _ (by rw [← strI_eq]; exact .str _)⟩
  · exact (show False from o).elim
theorem b_bool : CallR X (.type "bool") (rA w EX bBool) := by
  refine CallR.imp call_bool1 fun xs H Q hh => rA1 hh fun M rho h ps hr rs o => ?_
  unfold bBool at o
  split at o
  · rename_i i
    obtain ⟨v, rfl, rv⟩ := vrs1 rs
    cases rv
    exact .inl ⟨i, rfl, o.now hr _ (.bl _)⟩
  · rename_i b
    obtain ⟨v, rfl, rv⟩ := vrs1 rs
    cases rv
    exact .inr ⟨b, rfl, o.now hr _ (.bl _)⟩
  · exact (show False from o).elim
theorem b_max1 (C : Cxt w k X) : CallR X (.builtin "max") (rA w EX bMax1) := by
  refine CallR.imp (cr_max C.calm) fun xs H Q hh => rA1 hh fun M rho h ps hr rs o => ?_
  unfold bMax1 at o
  split at o
  · obtain ⟨v, rfl, rv⟩ := vrs1 rs
    split at o
    · rename_i ys e0
      split at o
      · rename_i i is e1
        obtain ⟨a, ws, rfl, rw', q⟩ := lst_ok hr rv e0
        have := ints_ok rw' e1
        subst this
        refine ⟨a, i :: is, rfl, by rw [C.hK]; exact q, Nat.succ_pos _, fun m hm hle => ?_⟩
        obtain ⟨h1, h2⟩ := maxL_ok i is
        have e : m = maxL i is := by have a := hle _ h1; have b := h2 m hm; omega
        rw [e]
        exact o.now hr _ (.int _)
      · exact (show False from o).elim
    · exact (show False from o).elim
  · exact (show False from o).elim
theorem b_min1 (C : Cxt w k X) : CallR X (.builtin "min") (rA w EX bMin1) := by
  refine CallR.imp (cr_min C.calm) fun xs H Q hh => rA1 hh fun M rho h ps hr rs o => ?_
  unfold bMin1 at o
  split at o
  · obtain ⟨v, rfl, rv⟩ := vrs1 rs
    split at o
    · rename_i ys e0
      split at o
      · rename_i i is e1
        obtain ⟨a, ws, rfl, rw', q⟩ := lst_ok hr rv e0
        have := ints_ok rw' e1
        subst this
        refine ⟨a, i :: is, rfl, by rw [C.hK]; exact q, Nat.succ_pos _, fun m hm hle => ?_⟩
        obtain ⟨h1, h2⟩ := minL_ok i is
        have e : m = minLi i is := by have a := hle _ h1; have b := h2 m hm; omega
        rw [e]
        exact o.now hr _ (.int _)
      · exact (show False from o).elim
    · exact (show False from o).elim
  · exact (show False from o).elim

def rgOk (a b : Int) : Bool := inR a && inR b && decide ((b - a).toNat ≤ LIM)
def mLstRg1 (m : ME) : ME := fun env h => (m env h).bind fun x h1 => match x with
  | .int n => bif rgOk 0 n then .ok (.ref h1.length) (h1 ++ [.lst (seqI 0 n.toNat)]) else .stuck
  | _ => .stuck
def mTupRg1 (m : ME) : ME := fun env h => (m env h).bind fun x h1 => match x with
  | .int n => bif rgOk 0 n then .ok (.tup (seqI 0 n.toNat)) h1 else .stuck
  | _ => .stuck
def mLstRg2 (m m2 : ME) : ME := fun env h => (m env h).bind fun x h1 => (m2 env h1).bind fun y h2 => match x, y with
  | .int a, .int b => bif rgOk a b then .ok (.ref h2.length) (h2 ++ [.lst (seqI a (b - a).toNat)]) else .stuck
  | _, _ => .stuck
theorem rgOk_ok {a b : Int} (h : rgOk a b = true) : RgOk a b := by
  unfold rgOk at h
  rw [Bool.and_eq_true, Bool.and_eq_true] at h
  obtain ⟨h1, h2⟩ := inR_ok h.1.1
  obtain ⟨h3, h4⟩ := inR_ok h.1.2
  exact ⟨h1, h2, h3, h4, of_decide_eq_true h.2⟩
theorem rg_vrs (a b : Int) : VRs w M rho H (seqI a (b - a).toNat) (rgV a b) := by
  unfold seqI rgV
  generalize List.range (b - a).toNat = l
  induction l with
  | nil => exact .nil
  | cons x r ih => exact .cons (.int _) ih
theorem me_lstRg1 (C : Cxt w k X) {e : Expr} {m : ME} {p pos : Pos} (hg : Gl X "list") (hm : X.mg "list" = none) (he : PRg X e (tRg1 (tM w EX m))) (na : starEach [e] X.env = (false, eval e X.env) :: starEach [] X.env := by rfl) : PE X (.Call (.Name "list" p) [e] [] pos) (tM w EX (mLstRg1 m)) := by
  refine PE.imp (pe_listRg C.calm hg hm he (na := na)) fun σ H Q hh => ?_
  obtain ⟨M, rho, env, h, er, hr, o⟩ := hh
  refine tM.of er hr (Out.bind o) fun x h1 M1 rho1 H1 v st1 er1 hr1 o1 rv => ?_
  split at o1
  · rename_i n
    obtain ⟨hb, o1⟩ := Out.bif o1
    cases rv
    refine ⟨n, rfl, rgOk_ok hb, ?_⟩
    have := rg_vrs (w := w) (M := M1) (rho := rho1) (H := H1) 0 n
    rw [Int.sub_zero] at this
    exact KV.lst hr1 o1 this
  · exact (show False from o1).elim
theorem me_tupRg1 (C : Cxt w k X) {e : Expr} {m : ME} {p pos : Pos} (hg : Gl X "tuple") (hm : X.mg "tuple" = none) (he : PRg X e (tRg1 (tM w EX m))) (na : starEach [e] X.env = (false, eval e X.env) :: starEach [] X.env := by rfl) : PE X (.Call (.Name "tuple" p) [e] [] pos) (tM w EX (mTupRg1 m)) := by
  refine PE.imp (pe_tupRg C.calm hg hm he (na := na)) fun σ H Q hh => ?_
  obtain ⟨M, rho, env, h, er, hr, o⟩ := hh
  refine tM.of er hr (Out.bind o) fun x h1 M1 rho1 H1 v st1 er1 hr1 o1 rv => ?_
  split at o1
  · rename_i n
    obtain ⟨hb, o1⟩ := Out.bif o1
    cases rv
    refine ⟨n, rfl, rgOk_ok hb, ?_⟩
    have := rg_vrs (w := w) (M := M1) (rho := rho1) (H := H1) 0 n
    rw [Int.sub_zero] at this
    exact KV.tup hr1 o1 this
  · exact (show False from o1).elim
theorem me_lstRg2 (C : Cxt w k X) {e : Expr} {m m2 : ME} {p pos : Pos} (hg : Gl X "list") (hm : X.mg "list" = none) (he : PRg X e (tRg2 (tM w EX m) (tM w EX m2))) (na : starEach [e] X.env = (false, eval e X.env) :: starEach [] X.env := by rfl) : PE X (.Call (.Name "list" p) [e] [] pos) (tM w EX (mLstRg2 m m2)) := by
  refine PE.imp (pe_listRg C.calm hg hm he (na := na)) fun σ H Q hh => ?_
  obtain ⟨M, rho, env, h, er, hr, o⟩ := hh
  refine tM.of er hr (Out.bind o) fun x h1 M1 rho1 H1 v st1 er1 hr1 o1 rv => ?_
  refine tM.of er1 hr1 (Out.bind o1) fun y h2 M2 rho2 H2 u st2 er2 hr2 o2 ru => ?_
  split at o2
  · rename_i a b
    obtain ⟨hb, o2⟩ := Out.bif o2
    cases rv
    cases ru
    exact ⟨a, b, rfl, rfl, rgOk_ok hb, KV.lst hr2 o2 (rg_vrs a b)⟩
  · exact (show False from o2).elim

def fmtP : PV → Option (List Nat)
  | .str s => bif decide (s.length ≤ LIM) then some s else none
  | .int i => bif fitI i then some (strI i) else none
  | _ => none
def mFmt (m : ME) : ME := fun env h => (m env h).bind fun x h1 => match fmtP x with
  | some s => .ok (.str s) h1
  | none => .stuck
def mJs : List ME → List Nat → ME
  | [], acc => fun _ h => .ok (.str acc) h
  | m :: ms, acc => fun env h => (m env h).bind fun x h1 => match x with
    | .str s => bif decide (acc.length + s.length ≤ LIM) then mJs ms (acc ++ s) env h1 else .stuck
    | _ => .stuck
theorem me_fmt {e : Expr} {m : ME} {pos : Pos} (he : PE X e (tM w EX m)) : PE X (.FormattedValue e (-1) none pos) (tM w EX (mFmt m)) := by
  refine PE.imp (pe_fmt he) fun σ H Q hh => ?_
  obtain ⟨M, rho, env, h, er, hr, o⟩ := hh
  refine tM.of er hr (Out.bind o) fun x h1 M1 rho1 H1 v st1 er1 hr1 o1 rv => ?_
  cases x <;> try exact (show False from o1).elim
  · rename_i i
    have o2 : Out w EX M1 rho1 H1 (match (bif fitI i then some (strI i) else none) with
      | some s => .ok (.str s) h1
      | none => .stuck) (KV w Q) := o1
    cases e : fitI i with
    | false => rw [e] at o2; exact (show False from o2).elim
    | true =>
      rw [e] at o2
      cases rv
      exact .inr ⟨i, rfl, of_decide_eq_true e, (show Out w EX M1 rho1 H1 (.ok (.str (strI i)) h1) (KV w Q) from o2).now hr1 _ (by rw [← strI_eq]; exact .str _)⟩
  · rename_i s
    have o2 : Out w EX M1 rho1 H1 (match (bif decide (s.length ≤ LIM) then some s else none) with
      | some s => .ok (.str s) h1
      | none => .stuck) (KV w Q) := o1
    by_cases e : s.length ≤ LIM
    · rw [decide_eq_true e] at o2
      cases rv
      refine .inl ⟨_, rfl, ?_, (show Out w EX M1 rho1 H1 (.ok (.str s) h1) (KV w Q) from o2).now hr1 _ (.str s)⟩
      show (S s).length ≤ _
      rw [S_len, lim_eq]; exact e
    · rw [decide_eq_false e] at o2; exact (show False from o2).elim
theorem js_reads : ∀ (ms : List ME) (acc : List Nat) {σ : L2.St} {H : Hp} {Q : VK}, tM w EX (mJs ms acc) σ H Q → tJs (ms.map (tM w EX)) ⟨acc.toArray⟩ σ H fun out H1 => Q (.str out) H1
  | [], acc, σ, H, Q, ⟨M, rho, env, h, er, hr, o⟩ => o.now hr _ (.str acc)
  | m :: ms, acc, σ, H, Q, ⟨M, rho, env, h, er, hr, o⟩ => by
    refine tM.of er hr (Out.bind o) fun x h1 M1 rho1 H1 v st1 er1 hr1 o1 rv => ?_
    split at o1
    · rename_i s
      obtain ⟨hb, o1⟩ := Out.bif o1
      cases rv
      have e : (⟨acc.toArray⟩ : Str) ++ (⟨s.toArray⟩ : Str) = ⟨(acc ++ s).toArray⟩ := by
        show (⟨acc.toArray ++ s.toArray⟩ : Str) = _
        simp
      refine ⟨_, rfl, ?_, ?_⟩
      · rw [e]
        show (S (acc ++ s)).length ≤ _
        rw [S_len, lim_eq, List.length_append]
        exact of_decide_eq_true hb
      · rw [e]
        exact js_reads ms (acc ++ s) ⟨M1, rho1, env, h1, er1, hr1, o1⟩
    · exact (show False from o1).elim
theorem me_join {e1 e2 : Expr} {es : List Expr} {pos : Pos} (ms : List ME) (h : PJ X (e1 :: e2 :: es) (ms.map (tM w EX))) : PE X (.JoinedStr (e1 :: e2 :: es) pos) (tM w EX (mJs ms [])) :=
  PE.imp (pe_joined h) fun σ H Q hh => js_reads ms [] hh
end
end MC

end
section
set_option maxRecDepth 100000
set_option maxHeartbeats 4000000
namespace MC
open PySem PySem.Spec PyProof.Rows L2 SkE
def trueT : List Nat := [84, 114, 117, 101]
def falseT : List Nat := [70, 97, 108, 115, 101]
def noneT : List Nat := [78, 111, 110, 101]
def reprS (s : List Nat) : List Nat := (reprText (S s)).cps.toList
def bReprA : OC := fun h xs => match xs with
  | [.non] => .ok (.str noneT) h
  | [.bl b] => .ok (.str (bif b then trueT else falseT)) h
  | [.int i] => bif fitI i then .ok (.str (strI i)) h else .stuck
  | [.str s] => bif decide ((reprText (S s)).length ≤ LIM) then .ok (.str (reprS s)) h else .stuck
  | _ => bRepr h xs
section
variable {w : Wo} {EX : XC} {X : Cx} {k : Nat} {M : Addr → Prop} {rho : List Addr} {H : Hp} {h : PH}
theorem b_reprA (C : Cxt w k X) : CallR X (.builtin "repr") (rA w EX bReprA) := by
  intro pins s σ H xs us Q I r hh
  obtain ⟨M, rho, h, ps, hr, rs, o⟩ := hh
  unfold bReprA at o
  split at o
  · obtain ⟨v, rfl, rv⟩ := vrs1 rs
    cases rv
    obtain ⟨u, rfl, ru⟩ := vals1 r
    obtain rfl : u = Value.none := ru
    exact PySem.P.repr_of_none ⟨.str _, H, I.tok _, ⟨_, rfl⟩, o.now hr _ (.str noneT)⟩
  · rename_i b
    obtain ⟨v, rfl, rv⟩ := vrs1 rs
    cases rv
    obtain ⟨u, rfl, ru⟩ := vals1 r
    obtain rfl : u = Value.bool b := ru
    refine PySem.P.repr_of_bool ⟨.str _, H, I.tok _, ⟨_, rfl⟩, ?_⟩
    have := o.now hr _ (.str (bif b then trueT else falseT))
    cases b <;> exact this
  · rename_i i
    obtain ⟨v, rfl, rv⟩ := vrs1 rs
    cases rv
    obtain ⟨hf, o⟩ := Out.bif o
    obtain ⟨u, rfl, t, rfl⟩ := vals1 r
    exact PySem.P.repr_of_int (of_decide_eq_true hf) ⟨.str _, H, I.tok _, ⟨_, rfl⟩, o.now hr _ (by rw [← strI_eq]; exact .str _)⟩
  · rename_i z
    obtain ⟨v, rfl, rv⟩ := vrs1 rs
    cases rv
    obtain ⟨hf, o⟩ := Out.bif o
    obtain ⟨u, rfl, t, rfl⟩ := vals1 r
    refine PySem.P.repr_of_str ⟨.str _, H, I.tok _, ⟨_, rfl⟩, ?_⟩ (by rw [lim_eq]; exact of_decide_eq_true hf)
    have := o.now hr _ (.str (reprS z))
    unfold reprS at this
    rw [show (⟨(reprText (S z)).cps.toList.toArray⟩ : Str) = reprText (S z) from S_of _] at this
    exact this
  · exact b_repr C pins s σ H xs us Q I r ⟨M, rho, h, ps, hr, rs, o⟩
end
end MC

end
section
set_option maxRecDepth 100000
namespace MM
open PySem L2 MC
def rowsS : List (List Nat × PV) := [([97, 103, 114, 101, 101], .tup [.int 4, .gl 1]), ([100, 105, 102, 102, 101, 114], .tup [.int 4, .gl 2]), ([115, 97, 109, 101], .tup [.int 3, .gl 3]), ([97, 112, 97, 114, 116], .tup [.int 3, .gl 4]), ([108, 101, 110, 103, 116, 104, 115], .tup [.int 4, .gl 5]), ([114, 101, 97, 100, 97, 98, 108, 101], .tup [.int 3, .gl 6]), ([99, 108, 97, 115, 104], .tup [.int 3, .gl 7]), ([99, 111, 117, 110, 116], .tup [.int 4, .gl 8])]
def cs_letters : List Nat := [0]
def cs_arrows : List Nat := [0, 6]
def cs_ends : List Nat := [0, 6]
def cs_machine : List Nat := [1, 3]
def cs_book : List Nat := [1, 3, 6]
def cs_second : List Nat := [1, 3]
def cs_agreed : List Nat := [1, 3]
def cs_past : List Nat := [1, 3]
def cs_before : List Nat := [3]
def cs_busy : List Nat := [1]
def cs_owner : List Nat := [4, 5]
def cs_kept : List Nat := [4, 5]
def cs_desk : List Nat := [2]
def cs_stands : List Nat := [6]
def cs_paths : List Nat := [7]
def cs_signs : List Nat := [7]
def cs_begins : List Nat := [7]
def cs_after : List Nat := [7]
def cs_value : List Nat := [11, 12, 13, 14, 15, 16, 17, 18]
def cs_index : List Nat := [19, 20, 21, 22, 23]
def cs_limit : List Nat := [26]
def tb_bool : List (Nat × Bool) := [(0, false), (1, true), (2, false), (3, false), (4, false), (5, false), (6, false)]
def cs_isi_bool : List (Nat × Bool) := [(0, false), (1, false), (2, false), (3, false), (4, false), (5, false), (6, false), (7, false)]
def tb_int : List (Nat × Bool) := [(0, false), (1, true), (2, true), (3, false), (4, false), (5, false), (6, false)]
def cs_isi_int : List (Nat × Bool) := [(0, false), (1, false), (2, false), (3, false), (4, false), (5, false), (6, false), (7, false)]
def tb_str : List (Nat × Bool) := [(0, false), (1, false), (2, false), (3, true), (4, false), (5, false), (6, false)]
def cs_isi_str : List (Nat × Bool) := [(0, false), (1, false), (2, false), (3, false), (4, false), (5, false), (6, false), (7, false)]
def tb_tuple : List (Nat × Bool) := [(0, false), (1, false), (2, false), (3, false), (4, true), (5, false), (6, false)]
def cs_isi_tuple : List (Nat × Bool) := [(0, false), (1, false), (2, false), (3, false), (4, false), (5, false), (6, false), (7, false)]
def tb_list : List (Nat × Bool) := [(0, false), (1, false), (2, false), (3, false), (4, false), (5, true), (6, false)]
def cs_isi_list : List (Nat × Bool) := [(0, false), (1, false), (2, false), (3, false), (4, false), (5, false), (6, false), (7, false)]
def tb_dict : List (Nat × Bool) := [(0, false), (1, false), (2, false), (3, false), (4, false), (5, false), (6, true)]
def cs_isi_dict : List (Nat × Bool) := [(0, false), (1, false), (2, false), (3, false), (4, false), (5, false), (6, false), (7, false)]
def tb_Machine : List (Nat × Bool) := [(0, false), (1, false), (2, false), (3, false), (4, false), (5, false), (6, false)]
def cs_isi_Machine : List (Nat × Bool) := [(0, true), (1, false), (2, false), (3, false), (4, false), (5, false), (6, false), (7, false)]
def tb_Desk : List (Nat × Bool) := [(0, false), (1, false), (2, false), (3, false), (4, false), (5, false), (6, false)]
def cs_isi_Desk : List (Nat × Bool) := [(0, false), (1, true), (2, false), (3, false), (4, false), (5, false), (6, false), (7, false)]
def tb_Console : List (Nat × Bool) := [(0, false), (1, false), (2, false), (3, false), (4, false), (5, false), (6, false)]
def cs_isi_Console : List (Nat × Bool) := [(0, false), (1, false), (2, true), (3, false), (4, false), (5, false), (6, false), (7, false)]
def tb_Kept : List (Nat × Bool) := [(0, false), (1, false), (2, false), (3, false), (4, false), (5, false), (6, false)]
def cs_isi_Kept : List (Nat × Bool) := [(0, false), (1, false), (2, false), (3, true), (4, false), (5, false), (6, false), (7, false)]
def tb_Trial : List (Nat × Bool) := [(0, false), (1, false), (2, false), (3, false), (4, false), (5, false), (6, false)]
def cs_isi_Trial : List (Nat × Bool) := [(0, false), (1, false), (2, false), (3, false), (4, true), (5, false), (6, false), (7, false)]
def tb_Run : List (Nat × Bool) := [(0, false), (1, false), (2, false), (3, false), (4, false), (5, false), (6, false)]
def cs_isi_Run : List (Nat × Bool) := [(0, false), (1, false), (2, false), (3, false), (4, false), (5, true), (6, false), (7, false)]
def tb_Paths : List (Nat × Bool) := [(0, false), (1, false), (2, false), (3, false), (4, false), (5, false), (6, false)]
def cs_isi_Paths : List (Nat × Bool) := [(0, false), (1, false), (2, false), (3, false), (4, false), (5, false), (6, true), (7, false)]
def tb_Readings : List (Nat × Bool) := [(0, false), (1, false), (2, false), (3, false), (4, false), (5, false), (6, false)]
def cs_isi_Readings : List (Nat × Bool) := [(0, false), (1, false), (2, false), (3, false), (4, false), (5, false), (6, false), (7, true)]
def tb_InputError : List (Nat × Bool) := [(0, false), (1, false), (2, false), (3, false), (4, false), (5, false), (6, false)]
def cs_isi_InputError : List (Nat × Bool) := [(0, false), (1, false), (2, false), (3, false), (4, false), (5, false), (6, false), (7, false)]
def tb_StateError : List (Nat × Bool) := [(0, false), (1, false), (2, false), (3, false), (4, false), (5, false), (6, false)]
def cs_isi_StateError : List (Nat × Bool) := [(0, false), (1, false), (2, false), (3, false), (4, false), (5, false), (6, false), (7, false)]
def tb_SizeError : List (Nat × Bool) := [(0, false), (1, false), (2, false), (3, false), (4, false), (5, false), (6, false)]
def cs_isi_SizeError : List (Nat × Bool) := [(0, false), (1, false), (2, false), (3, false), (4, false), (5, false), (6, false), (7, false)]
def tb_NotAMachine : List (Nat × Bool) := [(0, false), (1, false), (2, false), (3, false), (4, false), (5, false), (6, false)]
def cs_isi_NotAMachine : List (Nat × Bool) := [(0, false), (1, false), (2, false), (3, false), (4, false), (5, false), (6, false), (7, false)]
def tb_NotADesk : List (Nat × Bool) := [(0, false), (1, false), (2, false), (3, false), (4, false), (5, false), (6, false)]
def cs_isi_NotADesk : List (Nat × Bool) := [(0, false), (1, false), (2, false), (3, false), (4, false), (5, false), (6, false), (7, false)]
def tb_InvalidText : List (Nat × Bool) := [(0, false), (1, false), (2, false), (3, false), (4, false), (5, false), (6, false)]
def cs_isi_InvalidText : List (Nat × Bool) := [(0, false), (1, false), (2, false), (3, false), (4, false), (5, false), (6, false), (7, false)]
def tb_InvalidCount : List (Nat × Bool) := [(0, false), (1, false), (2, false), (3, false), (4, false), (5, false), (6, false)]
def cs_isi_InvalidCount : List (Nat × Bool) := [(0, false), (1, false), (2, false), (3, false), (4, false), (5, false), (6, false), (7, false)]
def tb_InvalidLetter : List (Nat × Bool) := [(0, false), (1, false), (2, false), (3, false), (4, false), (5, false), (6, false)]
def cs_isi_InvalidLetter : List (Nat × Bool) := [(0, false), (1, false), (2, false), (3, false), (4, false), (5, false), (6, false), (7, false)]
def tb_InvalidStand : List (Nat × Bool) := [(0, false), (1, false), (2, false), (3, false), (4, false), (5, false), (6, false)]
def cs_isi_InvalidStand : List (Nat × Bool) := [(0, false), (1, false), (2, false), (3, false), (4, false), (5, false), (6, false), (7, false)]
def tb_InvalidWord : List (Nat × Bool) := [(0, false), (1, false), (2, false), (3, false), (4, false), (5, false), (6, false)]
def cs_isi_InvalidWord : List (Nat × Bool) := [(0, false), (1, false), (2, false), (3, false), (4, false), (5, false), (6, false), (7, false)]
def tb_InvalidLine : List (Nat × Bool) := [(0, false), (1, false), (2, false), (3, false), (4, false), (5, false), (6, false)]
def cs_isi_InvalidLine : List (Nat × Bool) := [(0, false), (1, false), (2, false), (3, false), (4, false), (5, false), (6, false), (7, false)]
def tb_InvalidArrows : List (Nat × Bool) := [(0, false), (1, false), (2, false), (3, false), (4, false), (5, false), (6, false)]
def cs_isi_InvalidArrows : List (Nat × Bool) := [(0, false), (1, false), (2, false), (3, false), (4, false), (5, false), (6, false), (7, false)]
def tb_InvalidEnds : List (Nat × Bool) := [(0, false), (1, false), (2, false), (3, false), (4, false), (5, false), (6, false)]
def cs_isi_InvalidEnds : List (Nat × Bool) := [(0, false), (1, false), (2, false), (3, false), (4, false), (5, false), (6, false), (7, false)]
def tb_InvalidBook : List (Nat × Bool) := [(0, false), (1, false), (2, false), (3, false), (4, false), (5, false), (6, false)]
def cs_isi_InvalidBook : List (Nat × Bool) := [(0, false), (1, false), (2, false), (3, false), (4, false), (5, false), (6, false), (7, false)]
def tb_InvalidTexts : List (Nat × Bool) := [(0, false), (1, false), (2, false), (3, false), (4, false), (5, false), (6, false)]
def cs_isi_InvalidTexts : List (Nat × Bool) := [(0, false), (1, false), (2, false), (3, false), (4, false), (5, false), (6, false), (7, false)]
def tb_InvalidDeeds : List (Nat × Bool) := [(0, false), (1, false), (2, false), (3, false), (4, false), (5, false), (6, false)]
def cs_isi_InvalidDeeds : List (Nat × Bool) := [(0, false), (1, false), (2, false), (3, false), (4, false), (5, false), (6, false), (7, false)]
def tb_NothingToUndo : List (Nat × Bool) := [(0, false), (1, false), (2, false), (3, false), (4, false), (5, false), (6, false)]
def cs_isi_NothingToUndo : List (Nat × Bool) := [(0, false), (1, false), (2, false), (3, false), (4, false), (5, false), (6, false), (7, false)]
def tb_Busy : List (Nat × Bool) := [(0, false), (1, false), (2, false), (3, false), (4, false), (5, false), (6, false)]
def cs_isi_Busy : List (Nat × Bool) := [(0, false), (1, false), (2, false), (3, false), (4, false), (5, false), (6, false), (7, false)]
def tb_TooMany : List (Nat × Bool) := [(0, false), (1, false), (2, false), (3, false), (4, false), (5, false), (6, false)]
def cs_isi_TooMany : List (Nat × Bool) := [(0, false), (1, false), (2, false), (3, false), (4, false), (5, false), (6, false), (7, false)]
def b_is_between : MS := (mSeq (mRet (mAndV (mIsi tb_int cs_isi_int (mVar 0)) (mAndV (mNotV (mIsi tb_bool cs_isi_bool (mVar 0))) (mCh opLe opLe (mVar 1) (mVar 0) (mVar 2))))) mNil)
def m_is_between : MF := mFun 3 b_is_between
def b_is_goal : MS := (mSeq (mRet (mOrV (mOp (opIs false) (mVar 0) (mC .non)) (mCl0 (opF m_is_between [0, 1, 2] []) 3 (maCons (mVar 0) (maCons (mC (.int 0)) (maCons (mOp opSub (mVar 1) (mC (.int 1))) maNil)))))) mNil)
def m_is_goal : MF := mFun 2 b_is_goal
def b_wrong_arrows : MS := (mSeq (mFor (miEnum (maCons (mVar 0) maNil)) (gTup' 2 (gsCons (gName' 2) (gsCons (gName' 3) gsNil))) (mSeq (mIfS (mOr (mNot (mTru (mIsi tb_tuple cs_isi_tuple (mVar 3)))) (mOr (mTB (mOp opNe (mBt bLen (maCons (mVar 3) maNil)) (mVar 1))) (mNot (mTru (mBt bAll (maCons (mLc (miV (mVar 3)) (Tg.nm 4) mYes (mCl0 (opF m_is_goal [0, 1] []) 2 (maCons (mVar 4) (maCons (mBt bLen (maCons (mVar 0) maNil)) maNil))) [4]) maNil)))))) (mSeq (mRet (mVar 2)) mNil) mNil) mNil)) (mSeq (mRet (mC .non)) mNil))
def m_wrong_arrows : MF := mFun 5 b_wrong_arrows
def b_wrong_end : MS := (mSeq (mSet 2 (mUn (unI fun i => -i) (mC (.int 1)))) (mSeq (mFor (miEnum (maCons (mVar 0) maNil)) (gTup' 2 (gsCons (gName' 3) (gsCons (gName' 4) gsNil))) (mSeq (mIfS (mOr (mNot (mTru (mCl0 (opF m_is_between [0, 1, 2] []) 3 (maCons (mVar 4) (maCons (mC (.int 0)) (maCons (mOp opSub (mVar 1) (mC (.int 1))) maNil)))))) (mTB (mOp opLe (mVar 4) (mVar 2)))) (mSeq (mRet (mVar 3)) mNil) mNil) (mSeq (mSet 2 (mVar 4)) mNil))) (mSeq (mRet (mC .non)) mNil)))
def m_wrong_end : MF := mFun 5 b_wrong_end
def b_Machine___init__ : MS := (mSeq (mIfS (mNot (mTru (mCl0 (opF m_is_between [0, 1, 2] []) 3 (maCons (mVar 1) (maCons (mC (.int 1)) (maCons (mC (.int 5)) maNil)))))) mNever mNil) (mSeq (mIfS (mOr (mNot (mTru (mIsi tb_tuple cs_isi_tuple (mVar 2)))) (mNot (mTB (mCh opLe opLe (mC (.int 1)) (mBt bLen (maCons (mVar 2) maNil)) (mC (.int 8)))))) mNever mNil) (mSeq (mSet 4 (mCl0 (opF m_wrong_arrows [0, 1] []) 2 (maCons (mVar 2) (maCons (mVar 1) maNil)))) (mSeq (mIfS (mTB (mOp (opIs true) (mVar 4) (mC .non))) mNever mNil) (mSeq (mIfS (mNot (mTru (mIsi tb_tuple cs_isi_tuple (mVar 3)))) mNever mNil) (mSeq (mSet 4 (mCl0 (opF m_wrong_end [0, 1] []) 2 (maCons (mVar 3) (maCons (mBt bLen (maCons (mVar 2) maNil)) maNil)))) (mSeq (mIfS (mTB (mOp (opIs true) (mVar 4) (mC .non))) mNever mNil) (mSeq (mSetF cs_letters [108, 101, 116, 116, 101, 114, 115] (mVar 0) (mVar 1)) (mSeq (mSetF cs_arrows [97, 114, 114, 111, 119, 115] (mVar 0) (mVar 2)) (mSeq (mSetF cs_ends [101, 110, 100, 115] (mVar 0) (mVar 3)) mNil))))))))))
def m_Machine___init__ : MF := mFun 5 b_Machine___init__
def b_check_machine : MS := (mSeq (mIfS (mNot (mTru (mIsi tb_Machine cs_isi_Machine (mVar 0)))) mNever mNil) mNil)
def m_check_machine : MF := mFun 1 b_check_machine
def b_check_length : MS := (mSeq (mIfS (mNot (mTru (mCl0 (opF m_is_between [0, 1, 2] []) 3 (maCons (mVar 0) (maCons (mC (.int 0)) (maCons (mC (.int 300)) maNil)))))) mNever mNil) mNil)
def m_check_length : MF := mFun 1 b_check_length
def b_end_counts : MS := (mSeq (mRet (mLc (miRng1 (maCons (mBt bLen (maCons (mFld cs_arrows [97, 114, 114, 111, 119, 115] (mVar 0)) maNil)) maNil)) (Tg.nm 1) mYes (mIf (mTB (mOp (opIn false) (mVar 1) (mFld cs_ends [101, 110, 100, 115] (mVar 0)))) (mC (.int 1)) (mC (.int 0))) [1])) mNil)
def m_end_counts : MF := mFun 2 b_end_counts
def b_counts_before : MS := (mSeq (mSet 2 (mLst maNil)) (mSeq (mFor (miV (mFld cs_arrows [97, 114, 114, 111, 119, 115] (mVar 0))) (gName' 3) (mSeq (mDrop (mBM 1 oAppend (mVar 2) (maCons (mBt bSum (maCons (mLc (miV (mVar 3)) (Tg.nm 4) (mTB (mOp (opIs true) (mVar 4) (mC .non))) (mOp opIx (mVar 1) (mVar 4)) [4]) maNil)) maNil))) mNil)) (mSeq (mRet (mVar 2)) mNil)))
def m_counts_before : MF := mFun 5 b_counts_before
def b_all_counts : MS := (mSeq (mSet 2 (mLst (maCons (mCl0 (opF m_end_counts [0] []) 1 (maCons (mVar 0) maNil)) maNil))) (mSeq (mFor (miRng1 (maCons (mVar 1) maNil)) (gName' 3) (mSeq (mDrop (mBM 1 oAppend (mVar 2) (maCons (mCl0 (opF m_counts_before [0, 1] []) 2 (maCons (mVar 0) (maCons (mOp opIx (mVar 2) (mUn (unI fun i => -i) (mC (.int 1)))) maNil))) maNil))) mNil)) (mSeq (mRet (mVar 2)) mNil)))
def m_all_counts : MF := mFun 4 b_all_counts
def b_count_of : MS := (mSeq (mRet (mOp opIx (mOp opIx (mCl0 (opF m_all_counts [0, 1] []) 2 (maCons (mVar 0) (maCons (mVar 1) maNil))) (mVar 1)) (mC (.int 0)))) mNil)
def m_count_of : MF := mFun 2 b_count_of
def b_how_many_texts : MS := (mSeq (mDrop (mCl0 (opF m_check_machine [0] []) 1 (maCons (mVar 0) maNil))) (mSeq (mDrop (mCl0 (opF m_check_length [0] []) 1 (maCons (mVar 1) maNil))) (mSeq (mRet (mCl0 (opF m_count_of [0, 1] []) 2 (maCons (mVar 0) (maCons (mVar 1) maNil)))) mNil)))
def m_how_many_texts : MF := mFun 2 b_how_many_texts
def b_listed : MS := (mSeq (mAsg (mTup (maCons (mCl0 (opF m_all_counts [0, 1] []) 2 (maCons (mVar 0) (maCons (mVar 1) maNil))) (maCons (mLst (maCons (mTup (maCons (mC (.str [])) (maCons (mC (.int 0)) maNil))) maNil)) maNil))) (gTup' 2 (gsCons (gName' 2) (gsCons (gName' 3) gsNil)))) (mSeq (mFor (miRng1 (maCons (mVar 1) maNil)) (gName' 4) (mSeq (mAsg (mTup (maCons (mOp opSub (mOp opSub (mVar 1) (mVar 4)) (mC (.int 1))) (maCons (mLst maNil) maNil))) (gTup' 2 (gsCons (gName' 5) (gsCons (gName' 6) gsNil)))) (mSeq (mFor (miV (mVar 3)) (gTup' 2 (gsCons (gName' 7) (gsCons (gName' 8) gsNil))) (mSeq (mSet 9 (mOp opIx (mFld cs_arrows [97, 114, 114, 111, 119, 115] (mVar 0)) (mVar 8))) (mSeq (mSet 10 (mLc (miEnum (maCons (mVar 9) maNil)) (Tg.tp (Tgs.cons (Tg.nm 11) (Tgs.cons (Tg.nm 12) Tgs.nil))) (mAnd (mTB (mOp (opIs true) (mVar 12) (mC .non))) (mTB (mOp opGt (mOp opIx (mOp opIx (mVar 2) (mVar 5)) (mVar 12)) (mC (.int 0))))) (mVar 11) [11, 12])) (mSeq (mAug 6 opIadd (mLc (miV (mVar 10)) (Tg.nm 11) mYes (mTup (maCons (mOp opAdd (mVar 7) (mOp opIx (mC (.str [97, 98, 99, 100, 101])) (mVar 11))) (maCons (mOp opIx (mVar 9) (mVar 11)) maNil))) [11])) mNil)))) (mSeq (mSet 3 (mVar 6)) mNil)))) (mSeq (mRet (mBt bTuple (maCons (mLc (miV (mVar 3)) (Tg.tp (Tgs.cons (Tg.nm 7) (Tgs.cons (Tg.nm 8) Tgs.nil))) (mTB (mOp (opIn false) (mVar 8) (mFld cs_ends [101, 110, 100, 115] (mVar 0)))) (mVar 7) [7, 8]) maNil))) mNil)))
def m_listed : MF := mFun 13 b_listed
def b_texts_of : MS := (mSeq (mDrop (mCl0 (opF m_check_machine [0] []) 1 (maCons (mVar 0) maNil))) (mSeq (mDrop (mCl0 (opF m_check_length [0] []) 1 (maCons (mVar 1) maNil))) (mSeq (mIfS (mTB (mOp opGt (mCl0 (opF m_count_of [0, 1] []) 2 (maCons (mVar 0) (maCons (mVar 1) maNil))) (mC (.int 1000)))) mNever mNil) (mSeq (mRet (mCl0 (opF m_listed [0, 1] []) 2 (maCons (mVar 0) (maCons (mVar 1) maNil)))) mNil))))
def m_texts_of : MF := mFun 2 b_texts_of
def b_is_endless_of : MS := (mSeq (mSet 1 (mBt bLen (maCons (mFld cs_arrows [97, 114, 114, 111, 119, 115] (mVar 0)) maNil))) (mSeq (mSet 2 (mCl0 (opF m_all_counts [0, 1] []) 2 (maCons (mVar 0) (maCons (mOp opMul (mC (.int 2)) (mVar 1)) maNil)))) (mSeq (mRet (mBt bAny (maCons (mLc (miRng2 (maCons (mVar 1) (maCons (mOp opAdd (mOp opMul (mC (.int 2)) (mVar 1)) (mC (.int 1))) maNil))) (Tg.nm 3) mYes (mOp opGt (mOp opIx (mOp opIx (mVar 2) (mVar 3)) (mC (.int 0))) (mC (.int 0))) [3]) maNil))) mNil)))
def m_is_endless_of : MF := mFun 4 b_is_endless_of
def b_is_endless : MS := (mSeq (mDrop (mCl0 (opF m_check_machine [0] []) 1 (maCons (mVar 0) maNil))) (mSeq (mRet (mCl0 (opF m_is_endless_of [0] []) 1 (maCons (mVar 0) maNil))) mNil))
def m_is_endless : MF := mFun 1 b_is_endless
def b_is_word : MS := (mSeq (mRet (mAndV (mIsi tb_str cs_isi_str (mVar 0)) (mAndV (mOp opLe (mBt bLen (maCons (mVar 0) maNil)) (mC (.int 6))) (mBt bAll (maCons (mLc (miV (mVar 0)) (Tg.nm 1) mYes (mOp (opIn false) (mVar 1) (mC (.str [120, 121, 122]))) [1]) maNil))))) mNil)
def m_is_word : MF := mFun 2 b_is_word
def b_check_book : MS := (mSeq (mIfS (mOr (mNot (mTru (mIsi tb_tuple cs_isi_tuple (mVar 0)))) (mTB (mOp opNe (mBt bLen (maCons (mVar 0) maNil)) (mFld cs_letters [108, 101, 116, 116, 101, 114, 115] (mVar 1))))) mNever mNil) (mSeq (mFor (miEnum (maCons (mVar 0) maNil)) (gTup' 2 (gsCons (gName' 2) (gsCons (gName' 3) gsNil))) (mSeq (mIfS (mNot (mTru (mCl0 (opF m_is_word [0] []) 1 (maCons (mVar 3) maNil)))) mNever mNil) mNil)) mNil))
def m_check_book : MF := mFun 4 b_check_book
def b_is_row : MS := (mSeq (mRet (mAndV (mIsi tb_str cs_isi_str (mVar 0)) (mAndV (mOp opLe (mBt bLen (maCons (mVar 0) maNil)) (mC (.int 300))) (mBt bAll (maCons (mLc (miV (mVar 0)) (Tg.nm 2) mYes (mOp (opIn false) (mVar 2) (mSl (mC (.str [97, 98, 99, 100, 101])) moNone (moSome (mVar 1)))) [2]) maNil))))) mNil)
def m_is_row : MF := mFun 3 b_is_row
def b_check_text : MS := (mSeq (mIfS (mNot (mTru (mCl0 (opF m_is_row [0, 1] []) 2 (maCons (mVar 0) (maCons (mFld cs_letters [108, 101, 116, 116, 101, 114, 115] (mVar 1)) maNil))))) mNever mNil) mNil)
def m_check_text : MF := mFun 2 b_check_text
def b_version_of : MS := (mSeq (mRet (mBM 0 oJoin (mC (.str [])) (maCons (mLc (miV (mVar 1)) (Tg.nm 2) mYes (mOp opIx (mVar 0) (mBM 0 oIndex (mC (.str [97, 98, 99, 100, 101])) (maCons (mVar 2) maNil))) [2]) maNil))) mNil)
def m_version_of : MF := mFun 3 b_version_of
def b_version : MS := (mSeq (mDrop (mCl0 (opF m_check_machine [0] []) 1 (maCons (mVar 0) maNil))) (mSeq (mDrop (mCl0 (opF m_check_book [0, 1] []) 2 (maCons (mVar 1) (maCons (mVar 0) maNil)))) (mSeq (mDrop (mCl0 (opF m_check_text [0, 1] []) 2 (maCons (mVar 2) (maCons (mVar 0) maNil)))) (mSeq (mRet (mCl0 (opF m_version_of [0, 1] []) 2 (maCons (mVar 1) (maCons (mVar 2) maNil)))) mNil))))
def m_version : MF := mFun 3 b_version
def b_check_books : MS := (mSeq (mDrop (mCl0 (opF m_check_machine [0] []) 1 (maCons (mVar 0) maNil))) (mSeq (mDrop (mCl0 (opF m_check_book [0, 1] []) 2 (maCons (mVar 1) (maCons (mVar 0) maNil)))) (mSeq (mDrop (mCl0 (opF m_check_book [0, 1] []) 2 (maCons (mVar 2) (maCons (mVar 0) maNil)))) mNil)))
def m_check_books : MF := mFun 3 b_check_books
def b_same_version : MS := (mSeq (mDrop (mCl0 (opF m_check_books [0, 1, 2] []) 3 (maCons (mVar 0) (maCons (mVar 1) (maCons (mVar 2) maNil))))) (mSeq (mDrop (mCl0 (opF m_check_text [0, 1] []) 2 (maCons (mVar 3) (maCons (mVar 0) maNil)))) (mSeq (mRet (mOp opEq (mCl0 (opF m_version_of [0, 1] []) 2 (maCons (mVar 1) (maCons (mVar 3) maNil))) (mCl0 (opF m_version_of [0, 1] []) 2 (maCons (mVar 2) (maCons (mVar 3) maNil))))) mNil)))
def m_same_version : MF := mFun 4 b_same_version
def b_agree_on : MS := (mSeq (mDrop (mCl0 (opF m_check_books [0, 1, 2] []) 3 (maCons (mVar 0) (maCons (mVar 1) (maCons (mVar 2) maNil))))) (mSeq (mIfS (mOr (mNot (mTru (mIsi tb_tuple cs_isi_tuple (mVar 3)))) (mTB (mOp opGt (mBt bLen (maCons (mVar 3) maNil)) (mC (.int 1000))))) mNever mNil) (mSeq (mFor (miEnum (maCons (mVar 3) maNil)) (gTup' 2 (gsCons (gName' 4) (gsCons (gName' 5) gsNil))) (mSeq (mIfS (mNot (mTru (mCl0 (opF m_is_row [0, 1] []) 2 (maCons (mVar 5) (maCons (mFld cs_letters [108, 101, 116, 116, 101, 114, 115] (mVar 0)) maNil))))) mNever mNil) mNil)) (mSeq (mRet (mBt bAll (maCons (mLc (miV (mVar 3)) (Tg.nm 5) mYes (mOp opEq (mCl0 (opF m_version_of [0, 1] []) 2 (maCons (mVar 1) (maCons (mVar 5) maNil))) (mCl0 (opF m_version_of [0, 1] []) 2 (maCons (mVar 2) (maCons (mVar 5) maNil)))) [5]) maNil))) mNil))))
def m_agree_on : MF := mFun 6 b_agree_on
def b_Machine___repr__ : MS := (mSeq (mRet (mJs [(mC (.str [77, 97, 99, 104, 105, 110, 101, 40])), (mFmt (mBt bLen (maCons (mFld cs_arrows [97, 114, 114, 111, 119, 115] (mVar 0)) maNil))), (mC (.str [32, 115, 116, 97, 110, 100, 115, 44, 32])), (mFmt (mFld cs_letters [108, 101, 116, 116, 101, 114, 115] (mVar 0))), (mC (.str [32, 108, 101, 116, 116, 101, 114, 115, 41]))] [])) mNil)
def m_Machine___repr__ : MF := mFun 1 b_Machine___repr__
def b_Machine___len__ : MS := (mSeq (mRet (mBt bLen (maCons (mFld cs_arrows [97, 114, 114, 111, 119, 115] (mVar 0)) maNil))) mNil)
def m_Machine___len__ : MF := mFun 1 b_Machine___len__
def b_free : MS := (mSeq (mIfS (mNot (mTru (mCl0 (opF m_is_between [0, 1, 2] []) 3 (maCons (mVar 0) (maCons (mC (.int 1)) (maCons (mC (.int 5)) maNil)))))) mNever mNil) (mSeq (mRet (mCl0 (opC 0 m_Machine___init__ [0, 1, 2, 3] []) 3 (maCons (mVar 0) (maCons (mTup (maCons (mOp opMul (mTup (maCons (mC (.int 0)) maNil)) (mVar 0)) maNil)) (maCons (mTup (maCons (mC (.int 0)) maNil)) maNil))))) mNil))
def m_free : MF := mFun 1 b_free
def b_tail : MS := (mSeq (mRet (mCl0 (opC 0 m_Machine___init__ [0, 1, 2, 3] []) 3 (maCons (mC (.int 3)) (maCons (mTup (maCons (mTup (maCons (mC .non) (maCons (mC (.int 1)) (maCons (mC .non) maNil)))) (maCons (mTup (maCons (mC (.int 1)) (maCons (mC .non) (maCons (mC (.int 2)) maNil)))) (maCons (mTup (maCons (mC .non) (maCons (mC .non) (maCons (mC .non) maNil)))) maNil)))) (maCons (mTup (maCons (mC (.int 2)) maNil)) maNil))))) mNil)
def m_tail : MF := mFun 0 b_tail
def b_turns : MS := (mSeq (mRet (mCl0 (opC 0 m_Machine___init__ [0, 1, 2, 3] []) 3 (maCons (mC (.int 2)) (maCons (mTup (maCons (mTup (maCons (mC (.int 1)) (maCons (mC .non) maNil))) (maCons (mTup (maCons (mC .non) (maCons (mC (.int 0)) maNil))) maNil))) (maCons (mTup (maCons (mC (.int 0)) maNil)) maNil))))) mNil)
def m_turns : MF := mFun 0 b_turns
def b_check_most : MS := (mSeq (mDrop (mCl0 (opF m_check_books [0, 1, 2] []) 3 (maCons (mVar 0) (maCons (mVar 1) (maCons (mVar 2) maNil))))) (mSeq (mIfS (mNot (mTru (mCl0 (opF m_is_between [0, 1, 2] []) 3 (maCons (mVar 3) (maCons (mC (.int 0)) (maCons (mC (.int 8)) maNil)))))) mNever mNil) mNil))
def m_check_most : MF := mFun 4 b_check_most
def b_alike_of : MS := (mSeq (mSet 4 (mLst maNil)) (mSeq (mFor (miRng1 (maCons (mOp opAdd (mVar 3) (mC (.int 1))) maNil)) (gName' 5) (mSeq (mAug 4 opIadd (mLc (miV (mCl0 (opF m_listed [0, 1] []) 2 (maCons (mVar 0) (maCons (mVar 5) maNil)))) (Tg.nm 6) (mTB (mOp opEq (mCl0 (opF m_version_of [0, 1] []) 2 (maCons (mVar 1) (maCons (mVar 6) maNil))) (mCl0 (opF m_version_of [0, 1] []) 2 (maCons (mVar 2) (maCons (mVar 6) maNil))))) (mVar 6) [6])) mNil)) (mSeq (mRet (mBt bTuple (maCons (mVar 4) maNil))) mNil)))
def m_alike_of : MF := mFun 7 b_alike_of
def b_alike_texts : MS := (mSeq (mDrop (mCl0 (opF m_check_most [0, 1, 2, 3] []) 4 (maCons (mVar 0) (maCons (mVar 1) (maCons (mVar 2) (maCons (mVar 3) maNil)))))) (mSeq (mRet (mCl0 (opF m_alike_of [0, 1, 2, 3] []) 4 (maCons (mVar 0) (maCons (mVar 1) (maCons (mVar 2) (maCons (mVar 3) maNil)))))) mNil))
def m_alike_texts : MF := mFun 4 b_alike_texts
def b_how_many_alike : MS := (mSeq (mDrop (mCl0 (opF m_check_most [0, 1, 2, 3] []) 4 (maCons (mVar 0) (maCons (mVar 1) (maCons (mVar 2) (maCons (mVar 3) maNil)))))) (mSeq (mRet (mBt bLen (maCons (mCl0 (opF m_alike_of [0, 1, 2, 3] []) 4 (maCons (mVar 0) (maCons (mVar 1) (maCons (mVar 2) (maCons (mVar 3) maNil))))) maNil))) mNil))
def m_how_many_alike : MF := mFun 4 b_how_many_alike
def b_first_rows : MS := (mSeq (mPar 2 3 (mDict (maCons (mVar 1) (maCons (mC (.str [])) maNil))) (mLst (maCons (mVar 1) maNil))) (mSeq (mWhile WF (mTB (mOp opGt (mBt bLen (maCons (mVar 3) maNil)) (mC (.int 0)))) (mSeq (mSet 4 (mLst maNil)) (mSeq (mFor (miV (mVar 3)) (gName' 5) (mSeq (mFor (miEnum (maCons (mOp opIx (mVar 0) (mVar 5)) maNil)) (gTup' 2 (gsCons (gName' 6) (gsCons (gName' 7) gsNil))) (mSeq (mIfS (mAnd (mTB (mOp (opIs true) (mVar 7) (mC .non))) (mTB (mOp (opIn true) (mVar 7) (mVar 2)))) (mSeq (mAsg (mOp opAdd (mOp opIx (mVar 2) (mVar 5)) (mOp opIx (mC (.str [97, 98, 99, 100, 101])) (mVar 6))) (gSubM oSetIxD (mVar 2) (mVar 7))) (mSeq (mDrop (mBM 1 oAppend (mVar 4) (maCons (mVar 7) maNil))) mNil)) mNil) mNil)) mNil)) (mSeq (mSet 3 (mVar 4)) mNil)))) (mSeq (mRet (mVar 2)) mNil)))
def m_first_rows : MF := mFun 8 b_first_rows
def b_order_of : MS := (mSeq (mRet (mTup (maCons (mBt bLen (maCons (mVar 0) maNil)) (maCons (mVar 0) maNil)))) mNil)
def m_order_of : MF := mFun 1 b_order_of
def b_first_to_end : MS := (mSeq (mSet 3 (mLc (miItems (mCl0 (opF m_first_rows [0, 1] []) 2 (maCons (mVar 0) (maCons (mVar 2) maNil)))) (Tg.tp (Tgs.cons (Tg.nm 4) (Tgs.cons (Tg.nm 5) Tgs.nil))) (mTB (mOp (opIn false) (mVar 4) (mVar 1))) (mVar 5) [4, 5])) (mSeq (mRet (mIf (mTB (mOp opGt (mBt bLen (maCons (mVar 3) maNil)) (mC (.int 0)))) (mBt (bMinKey m_order_of [0]) (maCons (mVar 3) maNil)) (mC .non))) mNil))
def m_first_to_end : MF := mFun 6 b_first_to_end
def b_useful_of : MS := (mSeq (mRet (mBt bTuple (maCons (mLc (miV (mBt bSorted (maCons (mCl0 (opF m_first_rows [0, 1] []) 2 (maCons (mVar 0) (maCons (mC (.int 0)) maNil))) maNil))) (Tg.nm 2) (mTB (mOp (opIs true) (mCl0 (opF m_first_to_end [0, 1, 2] []) 3 (maCons (mVar 0) (maCons (mVar 1) (maCons (mVar 2) maNil)))) (mC .non))) (mVar 2) [2]) maNil))) mNil)
def m_useful_of : MF := mFun 3 b_useful_of
def b_lag_of : MS := (mSeq (mIfS (mTru (mBM 0 oStarts (mVar 0) (maCons (mVar 1) maNil))) (mSeq (mRet (mTup (maCons (mC (.int 0)) (maCons (mSl (mVar 0) (moSome (mBt bLen (maCons (mVar 1) maNil))) moNone) maNil)))) mNil) mNil) (mSeq (mIfS (mTru (mBM 0 oStarts (mVar 1) (maCons (mVar 0) maNil))) (mSeq (mRet (mTup (maCons (mC (.int 1)) (maCons (mSl (mVar 1) (moSome (mBt bLen (maCons (mVar 0) maNil))) moNone) maNil)))) mNil) mNil) (mSeq (mRet (mC (.tup [.int 2, .str []]))) mNil)))
def m_lag_of : MF := mFun 2 b_lag_of
def b_next_lag : MS := (mSeq (mIfS (mTB (mOp opEq (mVar 0) (mC (.tup [.int 2, .str []])))) (mSeq (mRet (mC (.tup [.int 2, .str []]))) mNil) mNil) (mSeq (mRet (mIf (mTB (mOp opEq (mOp opIx (mVar 0) (mC (.int 0))) (mC (.int 0)))) (mCl0 (opF m_lag_of [0, 1] []) 2 (maCons (mOp opAdd (mOp opIx (mVar 0) (mC (.int 1))) (mVar 1)) (maCons (mVar 2) maNil))) (mCl0 (opF m_lag_of [0, 1] []) 2 (maCons (mVar 1) (maCons (mOp opAdd (mOp opIx (mVar 0) (mC (.int 1))) (mVar 2)) maNil))))) mNil))
def m_next_lag : MF := mFun 3 b_next_lag
def b_lags_of : MS := (mSeq (mAsg (mTup (maCons (mCl0 (opF m_useful_of [0, 1] []) 2 (maCons (mVar 0) (maCons (mVar 1) maNil))) (maCons mDict0 maNil))) (gTup' 2 (gsCons (gName' 4) (gsCons (gName' 5) gsNil)))) (mSeq (mSet 6 (mIf (mTB (mOp (opIn false) (mC (.int 0)) (mVar 4))) (mLst (maCons (mC (.int 0)) maNil)) (mLst maNil))) (mSeq (mFor (miV (mVar 6)) (gName' 7) (mSeq (mAsg (mC (.tup [.int 0, .str []])) (gSubM oSetIxD (mVar 5) (mVar 7))) mNil)) (mSeq (mWhile WF (mTB (mOp opGt (mBt bLen (maCons (mVar 6) maNil)) (mC (.int 0)))) (mSeq (mSet 7 (mBM 1 oPop (mVar 6) maNil)) (mSeq (mFor (miEnum (maCons (mOp opIx (mVar 0) (mVar 7)) maNil)) (gTup' 2 (gsCons (gName' 8) (gsCons (gName' 9) gsNil))) (mSeq (mIfS (mTB (mOp (opIn false) (mVar 9) (mVar 4))) (mSeq (mSet 10 (mCl0 (opF m_next_lag [0, 1, 2] []) 3 (maCons (mOp opIx (mVar 5) (mVar 7)) (maCons (mOp opIx (mVar 2) (mVar 8)) (maCons (mOp opIx (mVar 3) (mVar 8)) maNil))))) (mSeq (mIfS (mTB (mOp (opIn true) (mVar 9) (mVar 5))) (mSeq (mAsg (mVar 10) (gSubM oSetIxD (mVar 5) (mVar 9))) (mSeq (mDrop (mBM 1 oAppend (mVar 6) (maCons (mVar 9) maNil))) mNil)) mNil) (mSeq (mIfS (mOr (mTB (mOp opNe (mOp opIx (mVar 5) (mVar 9)) (mVar 10))) (mTB (mOp opEq (mVar 10) (mC (.tup [.int 2, .str []]))))) (mSeq (mRet (mC .non)) mNil) mNil) mNil))) mNil) mNil)) mNil))) (mSeq (mIfS (mTru (mBt bAny (maCons (mLc (miV (mVar 4)) (Tg.nm 7) (mTB (mOp (opIn false) (mVar 7) (mVar 1))) (mOp opNe (mOp opIx (mVar 5) (mVar 7)) (mC (.tup [.int 0, .str []]))) [7]) maNil))) (mSeq (mRet (mC .non)) mNil) mNil) (mSeq (mRet (mBt bTuple (maCons (mLc (miRng1 (maCons (mBt bLen (maCons (mVar 0) maNil)) maNil)) (Tg.nm 7) mYes (mGet1 (mVar 5) (mVar 7)) [7]) maNil))) mNil))))))
def m_lags_of : MF := mFun 11 b_lags_of
def b_lags : MS := (mSeq (mDrop (mCl0 (opF m_check_books [0, 1, 2] []) 3 (maCons (mVar 0) (maCons (mVar 1) (maCons (mVar 2) maNil))))) (mSeq (mRet (mCl0 (opF m_lags_of [0, 1, 2, 3] []) 4 (maCons (mFld cs_arrows [97, 114, 114, 111, 119, 115] (mVar 0)) (maCons (mFld cs_ends [101, 110, 100, 115] (mVar 0)) (maCons (mVar 1) (maCons (mVar 2) maNil)))))) mNil))
def m_lags : MF := mFun 3 b_lags
def b_agree : MS := (mSeq (mRet (mOp (opIs true) (mCl0 (opF m_lags [0, 1, 2] []) 3 (maCons (mVar 0) (maCons (mVar 1) (maCons (mVar 2) maNil)))) (mC .non))) mNil)
def m_agree : MF := mFun 3 b_agree
def b_difference_of : MS := (mSeq (mPar 4 5 (mCl0 (opF m_useful_of [0, 1] []) 2 (maCons (mVar 0) (maCons (mVar 1) maNil))) mDict0) (mSeq (mSet 6 (mIf (mTB (mOp (opIn false) (mC (.int 0)) (mVar 4))) (mLst (maCons (mTup (maCons (mC (.str [])) (maCons (mC (.int 0)) (maCons (mC (.tup [.int 0, .str []])) maNil)))) maNil)) (mLst maNil))) (mSeq (mWhile WF (mTB (mOp opGt (mBt bLen (maCons (mVar 6) maNil)) (mC (.int 0)))) (mSeq (mSet 7 (mLst maNil)) (mSeq (mFor (miV (mVar 6)) (gTup' 3 (gsCons (gName' 8) (gsCons (gName' 9) (gsCons (gName' 10) gsNil)))) (mSeq (mSet 11 (mGet2 (mVar 5) (mVar 9) (mTup maNil))) (mSeq (mIfS (mAnd (mTB (mOp (opIn true) (mVar 10) (mVar 11))) (mTB (mOp opLt (mBt bLen (maCons (mVar 11) maNil)) (mC (.int 2))))) (mSeq (mAsg (mTup (maStar (mVar 11) (maCons (mVar 10) maNil))) (gSubM oSetIxD (mVar 5) (mVar 9))) (mSeq (mIfS (mAnd (mTB (mOp (opIn false) (mVar 9) (mVar 1))) (mTB (mOp opNe (mVar 10) (mC (.tup [.int 0, .str []]))))) (mSeq (mRet (mVar 8)) mNil) mNil) (mSeq (mFor (miEnum (maCons (mOp opIx (mVar 0) (mVar 9)) maNil)) (gTup' 2 (gsCons (gName' 12) (gsCons (gName' 13) gsNil))) (mSeq (mIfS (mTB (mOp (opIn false) (mVar 13) (mVar 4))) (mSeq (mDrop (mBM 1 oAppend (mVar 7) (maCons (mTup (maCons (mOp opAdd (mVar 8) (mOp opIx (mC (.str [97, 98, 99, 100, 101])) (mVar 12))) (maCons (mVar 13) (maCons (mCl0 (opF m_next_lag [0, 1, 2] []) 3 (maCons (mVar 10) (maCons (mOp opIx (mVar 2) (mVar 12)) (maCons (mOp opIx (mVar 3) (mVar 12)) maNil)))) maNil)))) maNil))) mNil) mNil) mNil)) mNil))) mNil) mNil))) (mSeq (mSet 6 (mVar 7)) mNil)))) (mSeq (mRet (mC .non)) mNil))))
def m_difference_of : MF := mFun 14 b_difference_of
def b_first_difference : MS := (mSeq (mDrop (mCl0 (opF m_check_books [0, 1, 2] []) 3 (maCons (mVar 0) (maCons (mVar 1) (maCons (mVar 2) maNil))))) (mSeq (mRet (mCl0 (opF m_difference_of [0, 1, 2, 3] []) 4 (maCons (mFld cs_arrows [97, 114, 114, 111, 119, 115] (mVar 0)) (maCons (mFld cs_ends [101, 110, 100, 115] (mVar 0)) (maCons (mVar 1) (maCons (mVar 2) maNil)))))) mNil))
def m_first_difference : MF := mFun 3 b_first_difference
def b_is_told : MS := (mSeq (mIfS (mOr (mNot (mTru (mIsi tb_tuple cs_isi_tuple (mVar 0)))) (mOr (mTB (mOp opNe (mBt bLen (maCons (mVar 0) maNil)) (mC (.int 3)))) (mNot (mTru (mCl0 (opF m_is_between [0, 1, 2] []) 3 (maCons (mOp opIx (mVar 0) (mC (.int 0))) (maCons (mC (.int 1)) (maCons (mC (.int 5)) maNil)))))))) (mSeq (mRet (mC (.bl false))) mNil) mNil) (mSeq (mAsg (mSl (mVar 0) (moSome (mC (.int 1))) moNone) (gTup' 2 (gsCons (gName' 1) (gsCons (gName' 2) gsNil)))) (mSeq (mIfS (mOr (mNot (mTru (mIsi tb_tuple cs_isi_tuple (mVar 1)))) (mNot (mTB (mCh opLe opLe (mC (.int 1)) (mBt bLen (maCons (mVar 1) maNil)) (mC (.int 8)))))) (mSeq (mRet (mC (.bl false))) mNil) mNil) (mSeq (mIfS (mTB (mOp (opIs true) (mCl0 (opF m_wrong_arrows [0, 1] []) 2 (maCons (mVar 1) (maCons (mOp opIx (mVar 0) (mC (.int 0))) maNil))) (mC .non))) (mSeq (mRet (mC (.bl false))) mNil) mNil) (mSeq (mRet (mAndV (mIsi tb_tuple cs_isi_tuple (mVar 2)) (mOp (opIs false) (mCl0 (opF m_wrong_end [0, 1] []) 2 (maCons (mVar 2) (maCons (mBt bLen (maCons (mVar 1) maNil)) maNil))) (mC .non)))) mNil)))))
def m_is_told : MF := mFun 3 b_is_told
def b_is_integer : MS := (mSeq (mRet (mAndV (mIsi tb_int cs_isi_int (mVar 0)) (mNotV (mIsi tb_bool cs_isi_bool (mVar 0))))) mNil)
def m_is_integer : MF := mFun 1 b_is_integer
def b_is_empty : MS := (mSeq (mRet (mAndV (mIsi tb_tuple cs_isi_tuple (mVar 0)) (mOp opEq (mBt bLen (maCons (mVar 0) maNil)) (mC (.int 0))))) mNil)
def m_is_empty : MF := mFun 1 b_is_empty
def b_made_of : MS := (mSeq (mRet (mCl0 (opC 0 m_Machine___init__ [0, 1, 2, 3] []) 3 (maCons (mOp opIx (mVar 0) (mC (.int 0))) (maCons (mOp opIx (mVar 0) (mC (.int 1))) (maCons (mOp opIx (mVar 0) (mC (.int 2))) maNil))))) mNil)
def m_made_of : MF := mFun 1 b_made_of
def b_shows_count : MS := (mSeq (mAsg (mVar 1) (gTup' 2 (gsCons (gName' 3) (gsCons (gName' 4) gsNil)))) (mSeq (mIfS (mOr (mNot (mTru (mCl0 (opF m_is_between [0, 1, 2] []) 3 (maCons (mVar 3) (maCons (mC (.int 0)) (maCons (mC (.int 300)) maNil)))))) (mOr (mNot (mTru (mCl0 (opF m_is_integer [0] []) 1 (maCons (mVar 4) maNil)))) (mNot (mTru (mCl0 (opF m_is_empty [0] []) 1 (maCons (mVar 2) maNil)))))) (mSeq (mRet (mC (.bl false))) mNil) mNil) (mSeq (mRet (mOp opEq (mCl0 (opF m_count_of [0, 1] []) 2 (maCons (mCl0 (opF m_made_of [0] []) 1 (maCons (mVar 0) maNil)) (maCons (mVar 3) maNil))) (mVar 4))) mNil)))
def m_shows_count : MF := mFun 5 b_shows_count
def b_holds (tabS : List (Nat × MF)) : MS := (mSeq (mIfS (mOr (mNot (mTru (mIsi tb_tuple cs_isi_tuple (mVar 0)))) (mOr (mTB (mOp opLt (mBt bLen (maCons (mVar 0) maNil)) (mC (.int 2)))) (mOr (mNot (mTru (mIsi tb_str cs_isi_str (mOp opIx (mVar 0) (mC (.int 0)))))) (mTB (mOp (opKIn true 0 rowsS) (mOp opIx (mVar 0) (mC (.int 0))) (mC (.gl 0))))))) (mSeq (mRet (mC (.bl false))) mNil) mNil) (mSeq (mAsg (mOp (opKIx 0 rowsS) (mC (.gl 0)) (mOp opIx (mVar 0) (mC (.int 0)))) (gTup' 2 (gsCons (gName' 2) (gsCons (gName' 3) gsNil)))) (mSeq (mRet (mAndV (mOp opEq (mBt bLen (maCons (mVar 0) maNil)) (mVar 2)) (mAndV (mCl0 (opF m_is_told [0] []) 1 (maCons (mOp opIx (mVar 0) (mC (.int 1))) maNil)) (mCallV 3 tabS 3 (maCons (mOp opIx (mVar 0) (mC (.int 1))) (maCons (mSl (mVar 0) (moSome (mC (.int 2))) moNone) (maCons (mVar 1) maNil))))))) mNil)))
def m_holds (tabS : List (Nat × MF)) : MF := mFun 4 (b_holds tabS)
def b_told_of : MS := (mSeq (mRet (mTup (maCons (mFld cs_letters [108, 101, 116, 116, 101, 114, 115] (mVar 0)) (maCons (mFld cs_arrows [97, 114, 114, 111, 119, 115] (mVar 0)) (maCons (mFld cs_ends [101, 110, 100, 115] (mVar 0)) maNil))))) mNil)
def m_told_of : MF := mFun 1 b_told_of
def b_certify_count : MS := (mSeq (mDrop (mCl0 (opF m_check_machine [0] []) 1 (maCons (mVar 0) maNil))) (mSeq (mDrop (mCl0 (opF m_check_length [0] []) 1 (maCons (mVar 1) maNil))) (mSeq (mRet (mTup (maCons (mTup (maCons (mC (.str [99, 111, 117, 110, 116])) (maCons (mCl0 (opF m_told_of [0] []) 1 (maCons (mVar 0) maNil)) (maCons (mVar 1) (maCons (mCl0 (opF m_count_of [0, 1] []) 2 (maCons (mVar 0) (maCons (mVar 1) maNil))) maNil))))) (maCons (mTup maNil) maNil)))) mNil)))
def m_certify_count : MF := mFun 2 b_certify_count
end MM

end
section
set_option maxRecDepth 100000
namespace MM
open PySem L2 MC
def b__law_pour : MS := (mSeq (mIfS (mTB (mOp opGt (mOp opIx (mVar 0) (mC (.int 0))) (mC (.int 0)))) (mSeq (mAsg (mBt bDivmod (maCons (mOp opIx (mVar 0) (mC (.int 0))) (maCons (mVar 1) maNil))) (gTup' 2 (gsCons (gSubM oSetIx (mVar 0) (mC (.int 0))) (gsCons (gName' 2) gsNil)))) (mSeq (mRet (mVar 2)) mNil)) mNil) (mSeq (mAsg (mOp opAdd (mOp opIx (mVar 0) (mC (.int 2))) (mC (.int 3))) (gSubM oSetIx (mVar 0) (mC (.int 2)))) (mSeq (mAsg (mOp opMod (mBt bInt (maCons (mOp opAdd (mOp opAdd (mOp opMul (mOp opIx (mVar 0) (mC (.int 1))) (mC (.int 43019))) (mOp opMul (mBt bInt (maCons (mOp opFdiv (mOp opIx (mVar 0) (mC (.int 1))) (mC (.int 7013))) maNil)) (mC (.int 83)))) (mOp opMul (mOp opIx (mVar 0) (mC (.int 2))) (mC (.int 51001)))) maNil)) (mC (.int 2147483423))) (gSubM oSetIx (mVar 0) (mC (.int 1)))) (mSeq (mRet (mOp opMod (mBt bInt (maCons (mOp opFdiv (mOp opIx (mVar 0) (mC (.int 1))) (mC (.int 409))) maNil)) (mVar 1))) mNil))))
def m__law_pour : MF := mFun 3 b__law_pour
def b__law_machine : MS := (mSeq (mAsg (mTup (maCons (mOp opAdd (mC (.int 1)) (mCl0 (opF m__law_pour [0, 1] []) 2 (maCons (mVar 0) (maCons (mVar 1) maNil)))) (maCons (mOp opAdd (mC (.int 1)) (mCl0 (opF m__law_pour [0, 1] []) 2 (maCons (mVar 0) (maCons (mVar 2) maNil)))) (maCons (mLst maNil) maNil)))) (gTup' 3 (gsCons (gName' 3) (gsCons (gName' 4) (gsCons (gName' 5) gsNil))))) (mSeq (mFor (miRng1 (maCons (mVar 3) maNil)) (gName' 6) (mSeq (mDrop (mBM 1 oAppend (mVar 5) (maCons (mBt bTuple (maCons (mLc (miRng1 (maCons (mVar 4) maNil)) (Tg.nm 8) mYes (mIf (mTB (mOp opGt (mCl0 (opF m__law_pour [0, 1] []) 2 (maCons (mVar 0) (maCons (mC (.int 4)) maNil))) (mC (.int 0)))) (mCl0 (opF m__law_pour [0, 1] []) 2 (maCons (mVar 0) (maCons (mVar 3) maNil))) (mC .non)) [8]) maNil)) maNil))) mNil)) (mSeq (mSet 7 (mLc (miRng1 (maCons (mVar 3) maNil)) (Tg.nm 6) (mTB (mOp opEq (mCl0 (opF m__law_pour [0, 1] []) 2 (maCons (mVar 0) (maCons (mC (.int 3)) maNil))) (mC (.int 0)))) (mVar 6) [6])) (mSeq (mIfS (mAnd (mTB (mOp opEq (mVar 7) (mLst maNil))) (mTB (mOp opGt (mCl0 (opF m__law_pour [0, 1] []) 2 (maCons (mVar 0) (maCons (mC (.int 5)) maNil))) (mC (.int 0))))) (mSeq (mSet 7 (mLst (maCons (mCl0 (opF m__law_pour [0, 1] []) 2 (maCons (mVar 0) (maCons (mVar 3) maNil))) maNil))) mNil) mNil) (mSeq (mRet (mTup (maCons (mVar 4) (maCons (mBt bTuple (maCons (mVar 5) maNil)) (maCons (mBt bTuple (maCons (mVar 7) maNil)) maNil))))) mNil)))))
def m__law_machine : MF := mFun 9 b__law_machine
def b__law_one_of : MS := (mSeq (mRet (mOp opIx (mVar 1) (mCl0 (opF m__law_pour [0, 1] []) 2 (maCons (mVar 0) (maCons (mBt bLen (maCons (mVar 1) maNil)) maNil))))) mNil)
def m__law_one_of : MF := mFun 2 b__law_one_of
def b__law_count : MS := (mSeq (mSet 3 (mLc (miRng1 (maCons (mBt bLen (maCons (mOp opIx (mVar 0) (mC (.int 1))) maNil)) maNil)) (Tg.nm 2) mYes (mBt bInt (maCons (mOp opEq (mVar 2) (mC (.int 0))) maNil)) [2])) (mSeq (mFor (miRng1 (maCons (mVar 1) maNil)) (gName' 4) (mSeq (mSet 5 (mOp opMul (mLst (maCons (mC (.int 0)) maNil)) (mBt bLen (maCons (mVar 3) maNil)))) (mSeq (mFor (miRng1 (maCons (mBt bLen (maCons (mVar 3) maNil)) maNil)) (gName' 2) (mSeq (mFor (miV (mOp opIx (mOp opIx (mVar 0) (mC (.int 1))) (mVar 2))) (gName' 6) (mSeq (mIfS (mTB (mOp (opIs true) (mVar 6) (mC .non))) (mSeq (mAsg (mOp opAdd (mOp opIx (mVar 5) (mVar 6)) (mOp opIx (mVar 3) (mVar 2))) (gSubM oSetIx (mVar 5) (mVar 6))) mNil) mNil) mNil)) mNil)) (mSeq (mSet 3 (mVar 5)) mNil)))) (mSeq (mRet (mBt bSum (maCons (mLc (miV (mOp opIx (mVar 0) (mC (.int 2)))) (Tg.nm 2) mYes (mOp opIx (mVar 3) (mVar 2)) [2]) maNil))) mNil)))
def m__law_count : MF := mFun 7 b__law_count
def b__law_whole : MS := (mSeq (mRet (mAndV (mIsi tb_int cs_isi_int (mVar 0)) (mNotV (mIsi tb_bool cs_isi_bool (mVar 0))))) mNil)
def m__law_whole : MF := mFun 1 b__law_whole
def b__law_jug : MS := (mSeq (mSet 2 (mIf (mTB (mOp opLt (mVar 1) (mBt bLen (maCons (mVar 0) maNil)))) (mBt bInt (maCons (mOp opIx (mVar 0) (mVar 1)) maNil)) (mOp opAdd (mOp opMul (mC (.int 83)) (mVar 1)) (mC (.int 29))))) (mSeq (mSet 3 (mOp opAdd (mC (.int 90017)) (mOp opMul (mC (.int 4051)) (mVar 1)))) (mSeq (mFor (miV (mSl (mVar 0) moNone (moSome (mC (.int 9))))) (gName' 4) (mSeq (mSet 3 (mOp opMod (mBt bInt (maCons (mOp opAdd (mOp opMul (mVar 3) (mC (.int 31013))) (mOp opMod (mBt bInt (maCons (mVar 4) maNil)) (mC (.int 2147483423)))) maNil)) (mC (.int 2147483423)))) mNil)) (mSeq (mSet 5 (mIf (mOr (mTB (mOp opLt (mVar 2) (mC (.int 0)))) (mTB (mOp opGe (mVar 2) (mOp opPow (mC (.int 10)) (mC (.int 15)))))) (mBt bAbs (maCons (mVar 2) maNil)) (mC (.int 0)))) (mSeq (mRet (mLst (maCons (mVar 5) (maCons (mOp opMod (mBt bInt (maCons (mOp opAdd (mOp opMul (mVar 3) (mC (.int 61))) (mOp opMod (mBt bInt (maCons (mVar 2) maNil)) (mC (.int 2147483423)))) maNil)) (mC (.int 2147483423))) (maCons (mC (.int 2)) maNil))))) mNil)))))
def m__law_jug : MF := mFun 6 b__law_jug
end MM

end
section
set_option maxRecDepth 100000
set_option maxHeartbeats 8000000
namespace K55
open PySem PySem.Spec PyProof.Rows L2 MC MM
def topS (i : Nat) : Stmt := PySem.Challenge.pw_liketongues_k55_whole_counts_certified.main.body.getD i (.Pass ⟨0, 0, 0, 0⟩)

abbrev s__law_pour : Stmt := topS 71
theorem sc__law_pour : FnScope ["_law_jug_here", "_law_many", "_law_figure"] ["_law_jug_here", "_law_many"] (defScope s__law_pour) := ⟨rfl, rfl, rfl, by decide +kernel, rfl, by decide +kernel, by decide +kernel⟩

abbrev s__law_machine : Stmt := topS 73
theorem sc__law_machine : FnScope ["_law_jug_here", "_law_most", "_law_widest", "_law_many", "_law_wide", "_law_rows", "_law_k", "_law_found", "_law_j"] ["_law_jug_here", "_law_most", "_law_widest"] (defScope s__law_machine) := ⟨rfl, rfl, rfl, by decide +kernel, rfl, by decide +kernel, by decide +kernel⟩

abbrev s_is_between : Stmt := topS 12
theorem sc_is_between : FnScope ["value", "low", "high"] ["value", "low", "high"] (defScope s_is_between) := ⟨rfl, rfl, rfl, by decide +kernel, rfl, by decide +kernel, by decide +kernel⟩

abbrev s_is_goal : Stmt := topS 13
theorem sc_is_goal : FnScope ["value", "stands"] ["value", "stands"] (defScope s_is_goal) := ⟨rfl, rfl, rfl, by decide +kernel, rfl, by decide +kernel, by decide +kernel⟩

abbrev s_wrong_arrows : Stmt := topS 14
theorem sc_wrong_arrows : FnScope ["arrows", "letters", "index", "row", "goal"] ["arrows", "letters"] (defScope s_wrong_arrows) := ⟨rfl, rfl, rfl, by decide +kernel, rfl, by decide +kernel, by decide +kernel⟩

abbrev s_wrong_end : Stmt := topS 15
theorem sc_wrong_end : FnScope ["ends", "stands", "last", "index", "stand"] ["ends", "stands"] (defScope s_wrong_end) := ⟨rfl, rfl, rfl, by decide +kernel, rfl, by decide +kernel, by decide +kernel⟩

abbrev s_Machine___init__ : Stmt := inClass (topS 17) 0
theorem sc_Machine___init__ : FnScope ["self", "letters", "arrows", "ends", "index"] ["self", "letters", "arrows", "ends"] (defScope s_Machine___init__) := ⟨rfl, rfl, rfl, by decide +kernel, rfl, by decide +kernel, by decide +kernel⟩

abbrev s__law_one_of : Stmt := topS 72
theorem sc__law_one_of : FnScope ["_law_jug_here", "_law_menu"] ["_law_jug_here", "_law_menu"] (defScope s__law_one_of) := ⟨rfl, rfl, rfl, by decide +kernel, rfl, by decide +kernel, by decide +kernel⟩

abbrev s__law_count : Stmt := topS 74
theorem sc__law_count : FnScope ["_law_plan", "_law_size", "_law_k", "_law_here", "_law_turn", "_law_later", "_law_goal"] ["_law_plan", "_law_size"] (defScope s__law_count) := ⟨rfl, rfl, rfl, by decide +kernel, rfl, by decide +kernel, by decide +kernel⟩

abbrev s_check_machine : Stmt := topS 19
theorem sc_check_machine : FnScope ["value"] ["value"] (defScope s_check_machine) := ⟨rfl, rfl, rfl, by decide +kernel, rfl, by decide +kernel, by decide +kernel⟩

abbrev s_check_length : Stmt := topS 38
theorem sc_check_length : FnScope ["value"] ["value"] (defScope s_check_length) := ⟨rfl, rfl, rfl, by decide +kernel, rfl, by decide +kernel, by decide +kernel⟩

abbrev s_end_counts : Stmt := topS 40
theorem sc_end_counts : FnScope ["machine", "stand"] ["machine"] (defScope s_end_counts) := ⟨rfl, rfl, rfl, by decide +kernel, rfl, by decide +kernel, by decide +kernel⟩

abbrev s_counts_before : Stmt := topS 39
theorem sc_counts_before : FnScope ["machine", "counts", "found", "row", "goal"] ["machine", "counts"] (defScope s_counts_before) := ⟨rfl, rfl, rfl, by decide +kernel, rfl, by decide +kernel, by decide +kernel⟩

abbrev s_all_counts : Stmt := topS 41
theorem sc_all_counts : FnScope ["machine", "length", "found", "turn"] ["machine", "length"] (defScope s_all_counts) := ⟨rfl, rfl, rfl, by decide +kernel, rfl, by decide +kernel, by decide +kernel⟩

abbrev s_count_of : Stmt := topS 42
theorem sc_count_of : FnScope ["machine", "length"] ["machine", "length"] (defScope s_count_of) := ⟨rfl, rfl, rfl, by decide +kernel, rfl, by decide +kernel, by decide +kernel⟩

abbrev s_told_of : Stmt := topS 18
theorem sc_told_of : FnScope ["machine"] ["machine"] (defScope s_told_of) := ⟨rfl, rfl, rfl, by decide +kernel, rfl, by decide +kernel, by decide +kernel⟩

abbrev s_certify_count : Stmt := topS 47
theorem sc_certify_count : FnScope ["machine", "length"] ["machine", "length"] (defScope s_certify_count) := ⟨rfl, rfl, rfl, by decide +kernel, rfl, by decide +kernel, by decide +kernel⟩

abbrev s_is_told : Stmt := topS 16
theorem sc_is_told : FnScope ["value", "arrows", "ends"] ["value"] (defScope s_is_told) := ⟨rfl, rfl, rfl, by decide +kernel, rfl, by decide +kernel, by decide +kernel⟩

abbrev s_is_integer : Stmt := topS 51
theorem sc_is_integer : FnScope ["value"] ["value"] (defScope s_is_integer) := ⟨rfl, rfl, rfl, by decide +kernel, rfl, by decide +kernel, by decide +kernel⟩

abbrev s_is_empty : Stmt := topS 52
theorem sc_is_empty : FnScope ["value"] ["value"] (defScope s_is_empty) := ⟨rfl, rfl, rfl, by decide +kernel, rfl, by decide +kernel, by decide +kernel⟩

abbrev s_made_of : Stmt := topS 53
theorem sc_made_of : FnScope ["told"] ["told"] (defScope s_made_of) := ⟨rfl, rfl, rfl, by decide +kernel, rfl, by decide +kernel, by decide +kernel⟩

abbrev s_shows_count : Stmt := topS 66
theorem sc_shows_count : FnScope ["told", "numbers", "paper", "length", "count"] ["told", "numbers", "paper"] (defScope s_shows_count) := ⟨rfl, rfl, rfl, by decide +kernel, rfl, by decide +kernel, by decide +kernel⟩

abbrev s_holds : Stmt := topS 68
theorem sc_holds : FnScope ["claim", "paper", "size", "shows"] ["claim", "paper"] (defScope s_holds) := ⟨rfl, rfl, rfl, by decide +kernel, rfl, by decide +kernel, by decide +kernel⟩

def tabS_ : List (Nat × MF) := [(8, m_shows_count)]

abbrev s__law_right : Stmt := topS 75
theorem sc__law_right : FnScope ["_law_jug_here", "_law_turn", "_law_plan", "_law_made", "_law_size", "_law_total", "_law_due", "_law_told", "_law_near"] ["_law_jug_here"] (defScope s__law_right) := ⟨rfl, rfl, rfl, by decide +kernel, rfl, by decide +kernel, by decide +kernel⟩

def b__law_right : MS := (mSeq (mFor (miRng1 (maCons (mC (.int 5)) maNil)) (gName' 1) (mSeq (mSet 2 (mCl0 (opF m__law_machine [0, 1, 2] []) 3 (maCons (mVar 0) (maCons (mC (.int 8)) (maCons (mC (.int 5)) maNil))))) (mSeq (mSet 3 (mCl0 (opC 0 m_Machine___init__ [0, 1, 2, 3] []) 3 (maCons (mOp opIx (mVar 2) (mC (.int 0))) (maCons (mOp opIx (mVar 2) (mC (.int 1))) (maCons (mOp opIx (mVar 2) (mC (.int 2))) maNil))))) (mSeq (mFor (miV (mLst (maCons (mC (.int 0)) (maCons (mC (.int 1)) (maCons (mCl0 (opF m__law_pour [0, 1] []) 2 (maCons (mVar 0) (maCons (mC (.int 12)) maNil))) (maCons (mCl0 (opF m__law_one_of [0, 1] []) 2 (maCons (mVar 0) (maCons (mLst (maCons (mC (.int 25)) (maCons (mC (.int 120)) (maCons (mC (.int 299)) (maCons (mC (.int 300)) (maCons (mCl0 (opF m__law_pour [0, 1] []) 2 (maCons (mVar 0) (maCons (mC (.int 301)) maNil))) maNil)))))) maNil))) maNil)))))) (gName' 4) (mSeq (mSet 5 (mCl0 (opF m__law_count [0, 1] []) 2 (maCons (mVar 2) (maCons (mVar 4) maNil)))) (mSeq (mPar 6 7 (mTup (maCons (mTup (maCons (mC (.str [99, 111, 117, 110, 116])) (maCons (mVar 2) (maCons (mVar 4) (maCons (mVar 5) maNil))))) (maCons (mTup maNil) maNil))) (mCl0 (opF m_certify_count [0, 1] []) 2 (maCons (mVar 3) (maCons (mVar 4) maNil)))) (mSeq (mIfS (mTB (mOp opNe (mBt bRepr (maCons (mLst (maCons (mVar 7) (maCons (mCl (opF m_certify_count [1, 0] []) 0 2 maNil (maCons (mVar 4) (maCons (mVar 3) maNil))) maNil))) maNil)) (mBt bRepr (maCons (mLst (maCons (mVar 6) (maCons (mVar 6) maNil))) maNil)))) (mSeq (mRet (mC (.bl false))) mNil) mNil) (mSeq (mIfS (mTB (mOp (opIs true) (mCl0 (opF (m_holds tabS_) [0, 1] []) 2 (maCons (mOp opIx (mVar 7) (mC (.int 0))) (maCons (mOp opIx (mVar 7) (mC (.int 1))) maNil))) (mC (.bl true)))) (mSeq (mRet (mC (.bl false))) mNil) mNil) (mSeq (mFor (miV (mLst (maCons (mOp opAdd (mVar 5) (mC (.int 1))) (maCons (mOp opSub (mVar 5) (mC (.int 1))) maNil)))) (gName' 8) (mSeq (mIfS (mAnd (mTB (mOp opLt (mVar 5) (mOp opPow (mC (.int 10)) (mC (.int 19))))) (mTB (mOp (opIs true) (mCl0 (opF (m_holds tabS_) [0, 1] []) 2 (maCons (mTup (maCons (mC (.str [99, 111, 117, 110, 116])) (maCons (mVar 2) (maCons (mVar 4) (maCons (mVar 8) maNil))))) (maCons (mTup maNil) maNil))) (mC (.bl false))))) (mSeq (mRet (mC (.bl false))) mNil) mNil) mNil)) mNil)))))) mNil)))) (mSeq (mRet (mC (.bl true))) mNil))
def m__law_right : MF := mFun 9 b__law_right

abbrev s__law_jug : Stmt := topS 70
theorem sc__law_jug : FnScope ["_law_cells", "_law_at", "_law_own", "_law_stirred", "_law_each", "_law_great"] ["_law_cells", "_law_at"] (defScope s__law_jug) := ⟨rfl, rfl, rfl, by decide +kernel, rfl, by decide +kernel, by decide +kernel⟩

abbrev s_law : Stmt := topS 76
theorem sc_law : FnScope ["_law_cells", "_law_k"] ["_law_cells"] (defScope s_law) := ⟨rfl, rfl, rfl, by decide +kernel, rfl, by decide +kernel, by decide +kernel⟩

def b_law : MS := (mSeq (mRet (mBt bAll (maCons (mLc (miRng1 (maCons (mBt bMax2 (maCons (mC (.int 2)) (maCons (mBt bMin2 (maCons (mBt bLen (maCons (mVar 0) maNil)) (maCons (mC (.int 5)) maNil))) maNil))) maNil)) (Tg.nm 1) mYes (mCl0 (opF m__law_right [0] []) 1 (maCons (mCl0 (opF m__law_jug [0, 1] []) 2 (maCons (mVar 0) (maCons (mVar 1) maNil))) maNil)) [1]) maNil))) mNil)
def m_law : MF := mFun 2 b_law

/-- what the top has left -/
structure Tx (W : World) (w : Wo) (mg : Str → Option Value) where
  gvn : ∀ i v, w.gv i = some v → v ≠ .non
  nn_Desk : w.cl 1 = none
  nn_Console : w.cl 2 = none
  nn_Kept : w.cl 3 = none
  nn_Trial : w.cl 4 = none
  nn_Run : w.cl 5 = none
  nn_Paths : w.cl 6 = none
  nn_Readings : w.cl 7 = none
  nn_InputError : w.cl 8 = none
  nn_StateError : w.cl 9 = none
  nn_SizeError : w.cl 10 = none
  nn_NotAMachine : w.cl 11 = none
  nn_NotADesk : w.cl 12 = none
  nn_InvalidText : w.cl 13 = none
  nn_InvalidCount : w.cl 14 = none
  nn_InvalidLetter : w.cl 15 = none
  nn_InvalidStand : w.cl 16 = none
  nn_InvalidWord : w.cl 17 = none
  nn_InvalidLine : w.cl 18 = none
  nn_InvalidArrows : w.cl 19 = none
  nn_InvalidEnds : w.cl 20 = none
  nn_InvalidBook : w.cl 21 = none
  nn_InvalidTexts : w.cl 22 = none
  nn_InvalidDeeds : w.cl 23 = none
  nn_NothingToUndo : w.cl 24 = none
  nn_Busy : w.cl 25 = none
  nn_TooMany : w.cl 26 = none
  a__law_pour : Addr
  fd__law_pour : FuncData
  F__law_pour : Fun w.K "_law_pour" "_law_pour" s__law_pour a__law_pour fd__law_pour
  g__law_pour : mg "_law_pour" = some (.ref a__law_pour)
  a__law_machine : Addr
  fd__law_machine : FuncData
  F__law_machine : Fun w.K "_law_machine" "_law_machine" s__law_machine a__law_machine fd__law_machine
  g__law_machine : mg "_law_machine" = some (.ref a__law_machine)
  a_is_between : Addr
  fd_is_between : FuncData
  F_is_between : Fun w.K "is_between" "is_between" s_is_between a_is_between fd_is_between
  g_is_between : mg "is_between" = some (.ref a_is_between)
  a_is_goal : Addr
  fd_is_goal : FuncData
  F_is_goal : Fun w.K "is_goal" "is_goal" s_is_goal a_is_goal fd_is_goal
  g_is_goal : mg "is_goal" = some (.ref a_is_goal)
  a_wrong_arrows : Addr
  fd_wrong_arrows : FuncData
  F_wrong_arrows : Fun w.K "wrong_arrows" "wrong_arrows" s_wrong_arrows a_wrong_arrows fd_wrong_arrows
  g_wrong_arrows : mg "wrong_arrows" = some (.ref a_wrong_arrows)
  a_wrong_end : Addr
  fd_wrong_end : FuncData
  F_wrong_end : Fun w.K "wrong_end" "wrong_end" s_wrong_end a_wrong_end fd_wrong_end
  g_wrong_end : mg "wrong_end" = some (.ref a_wrong_end)
  a_Machine___init__ : Addr
  fd_Machine___init__ : FuncData
  F_Machine___init__ : Fun w.K "__init__" "Machine.__init__" s_Machine___init__ a_Machine___init__ fd_Machine___init__
  a__law_one_of : Addr
  fd__law_one_of : FuncData
  F__law_one_of : Fun w.K "_law_one_of" "_law_one_of" s__law_one_of a__law_one_of fd__law_one_of
  g__law_one_of : mg "_law_one_of" = some (.ref a__law_one_of)
  a__law_count : Addr
  fd__law_count : FuncData
  F__law_count : Fun w.K "_law_count" "_law_count" s__law_count a__law_count fd__law_count
  g__law_count : mg "_law_count" = some (.ref a__law_count)
  a_check_machine : Addr
  fd_check_machine : FuncData
  F_check_machine : Fun w.K "check_machine" "check_machine" s_check_machine a_check_machine fd_check_machine
  g_check_machine : mg "check_machine" = some (.ref a_check_machine)
  a_check_length : Addr
  fd_check_length : FuncData
  F_check_length : Fun w.K "check_length" "check_length" s_check_length a_check_length fd_check_length
  g_check_length : mg "check_length" = some (.ref a_check_length)
  a_end_counts : Addr
  fd_end_counts : FuncData
  F_end_counts : Fun w.K "end_counts" "end_counts" s_end_counts a_end_counts fd_end_counts
  g_end_counts : mg "end_counts" = some (.ref a_end_counts)
  a_counts_before : Addr
  fd_counts_before : FuncData
  F_counts_before : Fun w.K "counts_before" "counts_before" s_counts_before a_counts_before fd_counts_before
  g_counts_before : mg "counts_before" = some (.ref a_counts_before)
  a_all_counts : Addr
  fd_all_counts : FuncData
  F_all_counts : Fun w.K "all_counts" "all_counts" s_all_counts a_all_counts fd_all_counts
  g_all_counts : mg "all_counts" = some (.ref a_all_counts)
  a_count_of : Addr
  fd_count_of : FuncData
  F_count_of : Fun w.K "count_of" "count_of" s_count_of a_count_of fd_count_of
  g_count_of : mg "count_of" = some (.ref a_count_of)
  a_told_of : Addr
  fd_told_of : FuncData
  F_told_of : Fun w.K "told_of" "told_of" s_told_of a_told_of fd_told_of
  g_told_of : mg "told_of" = some (.ref a_told_of)
  a_certify_count : Addr
  fd_certify_count : FuncData
  F_certify_count : Fun w.K "certify_count" "certify_count" s_certify_count a_certify_count fd_certify_count
  g_certify_count : mg "certify_count" = some (.ref a_certify_count)
  a_is_told : Addr
  fd_is_told : FuncData
  F_is_told : Fun w.K "is_told" "is_told" s_is_told a_is_told fd_is_told
  g_is_told : mg "is_told" = some (.ref a_is_told)
  a_is_integer : Addr
  fd_is_integer : FuncData
  F_is_integer : Fun w.K "is_integer" "is_integer" s_is_integer a_is_integer fd_is_integer
  g_is_integer : mg "is_integer" = some (.ref a_is_integer)
  a_is_empty : Addr
  fd_is_empty : FuncData
  F_is_empty : Fun w.K "is_empty" "is_empty" s_is_empty a_is_empty fd_is_empty
  g_is_empty : mg "is_empty" = some (.ref a_is_empty)
  a_made_of : Addr
  fd_made_of : FuncData
  F_made_of : Fun w.K "made_of" "made_of" s_made_of a_made_of fd_made_of
  g_made_of : mg "made_of" = some (.ref a_made_of)
  a_shows_count : Addr
  fd_shows_count : FuncData
  F_shows_count : Fun w.K "shows_count" "shows_count" s_shows_count a_shows_count fd_shows_count
  g_shows_count : mg "shows_count" = some (.ref a_shows_count)
  a_holds : Addr
  fd_holds : FuncData
  F_holds : Fun w.K "holds" "holds" s_holds a_holds fd_holds
  g_holds : mg "holds" = some (.ref a_holds)
  a__law_right : Addr
  fd__law_right : FuncData
  F__law_right : Fun w.K "_law_right" "_law_right" s__law_right a__law_right fd__law_right
  g__law_right : mg "_law_right" = some (.ref a__law_right)
  a__law_jug : Addr
  fd__law_jug : FuncData
  F__law_jug : Fun w.K "_law_jug" "_law_jug" s__law_jug a__law_jug fd__law_jug
  g__law_jug : mg "_law_jug" = some (.ref a__law_jug)
  a_law : Addr
  fd_law : FuncData
  F_law : Fun w.K "law" "law" s_law a_law fd_law
  g_law : mg "law" = some (.ref a_law)
  t_MOST_LETTERS : Tok
  g_MOST_LETTERS : mg "MOST_LETTERS" = some (.int 5 t_MOST_LETTERS)
  t_MOST_STANDS : Tok
  g_MOST_STANDS : mg "MOST_STANDS" = some (.int 8 t_MOST_STANDS)
  t_MOST_TEXT : Tok
  g_MOST_TEXT : mg "MOST_TEXT" = some (.int 300 t_MOST_TEXT)
  c_Machine : Addr
  g_Machine : mg "Machine" = some (.ref c_Machine)
  n_Machine : w.cl 0 = some c_Machine
  cl_Machine : Cls w.K c_Machine
  ci_Machine : ClsI w.K c_Machine
  mk_Machine : Mk w.K c_Machine a_Machine___init__
  na_Machine_letters : NoAttr w.K c_Machine "letters"
  na_Machine_arrows : NoAttr w.K c_Machine "arrows"
  na_Machine_ends : NoAttr w.K c_Machine "ends"
  i_Machine_int : PySem.W.kitOne w.K (.ref c_Machine) (.type "int") = some false
  i_Machine_bool : PySem.W.kitOne w.K (.ref c_Machine) (.type "bool") = some false
  i_Machine_tuple : PySem.W.kitOne w.K (.ref c_Machine) (.type "tuple") = some false
  i_Machine_str : PySem.W.kitOne w.K (.ref c_Machine) (.type "str") = some false
  k_Machine_NoneType : PySem.W.kitOne w.K (.type "NoneType") (.ref c_Machine) = some false
  k_Machine_bool : PySem.W.kitOne w.K (.type "bool") (.ref c_Machine) = some false
  k_Machine_int : PySem.W.kitOne w.K (.type "int") (.ref c_Machine) = some false
  k_Machine_str : PySem.W.kitOne w.K (.type "str") (.ref c_Machine) = some false
  k_Machine_tuple : PySem.W.kitOne w.K (.type "tuple") (.ref c_Machine) = some false
  k_Machine_list : PySem.W.kitOne w.K (.type "list") (.ref c_Machine) = some false
  k_Machine_dict : PySem.W.kitOne w.K (.type "dict") (.ref c_Machine) = some false
  i_Machine_Machine : PySem.W.kitOne w.K (.ref c_Machine) (.ref c_Machine) = some true
  d_SHOWN : Addr
  g_SHOWN : mg "SHOWN" = some (.ref d_SHOWN)
  vd_SHOWN : w.gv 0 = some (.ref d_SHOWN)
  kt_SHOWN : KTab w W 0 rowsS
  gv_shows_count : w.gv 8 = some (.ref a_shows_count)
  z_abs : mg "abs" = none
  z_all : mg "all" = none
  z_bool : mg "bool" = none
  z_divmod : mg "divmod" = none
  z_enumerate : mg "enumerate" = none
  z_int : mg "int" = none
  z_isinstance : mg "isinstance" = none
  z_len : mg "len" = none
  z_max : mg "max" = none
  z_min : mg "min" = none
  z_range : mg "range" = none
  z_repr : mg "repr" = none
  z_str : mg "str" = none
  z_sum : mg "sum" = none
  z_tuple : mg "tuple" = none
section
variable {P : Program} {W : World} {w : Wo} {mg : Str → Option Value} {base : Heap}
theorem fld_letters (T : Tx W w mg) : Fld w cs_letters [108, 101, 116, 116, 101, 114, 115] := by
  intro c A hc h
  unfold cs_letters at hc
  simp only [List.mem_cons, List.not_mem_nil, or_false] at hc
  rcases hc with rfl
  · rw [T.n_Machine] at h; cases h; exact ⟨T.cl_Machine, T.na_Machine_letters⟩
theorem fld_arrows (T : Tx W w mg) : Fld w cs_arrows [97, 114, 114, 111, 119, 115] := by
  intro c A hc h
  unfold cs_arrows at hc
  simp only [List.mem_cons, List.not_mem_nil, or_false] at hc
  rcases hc with rfl | rfl
  · rw [T.n_Machine] at h; cases h; exact ⟨T.cl_Machine, T.na_Machine_arrows⟩
  · rw [T.nn_Paths] at h; cases h
theorem fld_ends (T : Tx W w mg) : Fld w cs_ends [101, 110, 100, 115] := by
  intro c A hc h
  unfold cs_ends at hc
  simp only [List.mem_cons, List.not_mem_nil, or_false] at hc
  rcases hc with rfl | rfl
  · rw [T.n_Machine] at h; cases h; exact ⟨T.cl_Machine, T.na_Machine_ends⟩
  · rw [T.nn_Paths] at h; cases h
theorem isi_int (T : Tx W w mg) : IsiOk w (.type "int") tb_int cs_isi_int := by
  refine ⟨fun p hp => ?_, fun p hp => ?_⟩
  · unfold tb_int at hp
    simp only [List.mem_cons, List.not_mem_nil, or_false] at hp
    rcases hp with rfl | rfl | rfl | rfl | rfl | rfl | rfl
    · exact kit_ty (by decide +kernel)
    · exact kit_ty (by decide +kernel)
    · exact kit_ty (by decide +kernel)
    · exact kit_ty (by decide +kernel)
    · exact kit_ty (by decide +kernel)
    · exact kit_ty (by decide +kernel)
    · exact kit_ty (by decide +kernel)
  · unfold cs_isi_int at hp
    simp only [List.mem_cons, List.not_mem_nil, or_false] at hp
    rcases hp with rfl | rfl | rfl | rfl | rfl | rfl | rfl | rfl
    · intro A hA; rw [show w.cl _ = _ from T.n_Machine] at hA; cases hA; exact ⟨T.ci_Machine, T.i_Machine_int⟩
    · intro A hA; rw [show w.cl _ = _ from T.nn_Desk] at hA; cases hA
    · intro A hA; rw [show w.cl _ = _ from T.nn_Console] at hA; cases hA
    · intro A hA; rw [show w.cl _ = _ from T.nn_Kept] at hA; cases hA
    · intro A hA; rw [show w.cl _ = _ from T.nn_Trial] at hA; cases hA
    · intro A hA; rw [show w.cl _ = _ from T.nn_Run] at hA; cases hA
    · intro A hA; rw [show w.cl _ = _ from T.nn_Paths] at hA; cases hA
    · intro A hA; rw [show w.cl _ = _ from T.nn_Readings] at hA; cases hA
theorem isi_bool (T : Tx W w mg) : IsiOk w (.type "bool") tb_bool cs_isi_bool := by
  refine ⟨fun p hp => ?_, fun p hp => ?_⟩
  · unfold tb_bool at hp
    simp only [List.mem_cons, List.not_mem_nil, or_false] at hp
    rcases hp with rfl | rfl | rfl | rfl | rfl | rfl | rfl
    · exact kit_ty (by decide +kernel)
    · exact kit_ty (by decide +kernel)
    · exact kit_ty (by decide +kernel)
    · exact kit_ty (by decide +kernel)
    · exact kit_ty (by decide +kernel)
    · exact kit_ty (by decide +kernel)
    · exact kit_ty (by decide +kernel)
  · unfold cs_isi_bool at hp
    simp only [List.mem_cons, List.not_mem_nil, or_false] at hp
    rcases hp with rfl | rfl | rfl | rfl | rfl | rfl | rfl | rfl
    · intro A hA; rw [show w.cl _ = _ from T.n_Machine] at hA; cases hA; exact ⟨T.ci_Machine, T.i_Machine_bool⟩
    · intro A hA; rw [show w.cl _ = _ from T.nn_Desk] at hA; cases hA
    · intro A hA; rw [show w.cl _ = _ from T.nn_Console] at hA; cases hA
    · intro A hA; rw [show w.cl _ = _ from T.nn_Kept] at hA; cases hA
    · intro A hA; rw [show w.cl _ = _ from T.nn_Trial] at hA; cases hA
    · intro A hA; rw [show w.cl _ = _ from T.nn_Run] at hA; cases hA
    · intro A hA; rw [show w.cl _ = _ from T.nn_Paths] at hA; cases hA
    · intro A hA; rw [show w.cl _ = _ from T.nn_Readings] at hA; cases hA
theorem isi_tuple (T : Tx W w mg) : IsiOk w (.type "tuple") tb_tuple cs_isi_tuple := by
  refine ⟨fun p hp => ?_, fun p hp => ?_⟩
  · unfold tb_tuple at hp
    simp only [List.mem_cons, List.not_mem_nil, or_false] at hp
    rcases hp with rfl | rfl | rfl | rfl | rfl | rfl | rfl
    · exact kit_ty (by decide +kernel)
    · exact kit_ty (by decide +kernel)
    · exact kit_ty (by decide +kernel)
    · exact kit_ty (by decide +kernel)
    · exact kit_ty (by decide +kernel)
    · exact kit_ty (by decide +kernel)
    · exact kit_ty (by decide +kernel)
  · unfold cs_isi_tuple at hp
    simp only [List.mem_cons, List.not_mem_nil, or_false] at hp
    rcases hp with rfl | rfl | rfl | rfl | rfl | rfl | rfl | rfl
    · intro A hA; rw [show w.cl _ = _ from T.n_Machine] at hA; cases hA; exact ⟨T.ci_Machine, T.i_Machine_tuple⟩
    · intro A hA; rw [show w.cl _ = _ from T.nn_Desk] at hA; cases hA
    · intro A hA; rw [show w.cl _ = _ from T.nn_Console] at hA; cases hA
    · intro A hA; rw [show w.cl _ = _ from T.nn_Kept] at hA; cases hA
    · intro A hA; rw [show w.cl _ = _ from T.nn_Trial] at hA; cases hA
    · intro A hA; rw [show w.cl _ = _ from T.nn_Run] at hA; cases hA
    · intro A hA; rw [show w.cl _ = _ from T.nn_Paths] at hA; cases hA
    · intro A hA; rw [show w.cl _ = _ from T.nn_Readings] at hA; cases hA
theorem isi_Machine (T : Tx W w mg) : IsiOk w (.ref T.c_Machine) tb_Machine cs_isi_Machine := by
  refine ⟨fun p hp => ?_, fun p hp => ?_⟩
  · unfold tb_Machine at hp
    simp only [List.mem_cons, List.not_mem_nil, or_false] at hp
    rcases hp with rfl | rfl | rfl | rfl | rfl | rfl | rfl
    · exact T.k_Machine_NoneType
    · exact T.k_Machine_bool
    · exact T.k_Machine_int
    · exact T.k_Machine_str
    · exact T.k_Machine_tuple
    · exact T.k_Machine_list
    · exact T.k_Machine_dict
  · unfold cs_isi_Machine at hp
    simp only [List.mem_cons, List.not_mem_nil, or_false] at hp
    rcases hp with rfl | rfl | rfl | rfl | rfl | rfl | rfl | rfl
    · intro A hA; rw [show w.cl _ = _ from T.n_Machine] at hA; cases hA; exact ⟨T.ci_Machine, T.i_Machine_Machine⟩
    · intro A hA; rw [show w.cl _ = _ from T.nn_Desk] at hA; cases hA
    · intro A hA; rw [show w.cl _ = _ from T.nn_Console] at hA; cases hA
    · intro A hA; rw [show w.cl _ = _ from T.nn_Kept] at hA; cases hA
    · intro A hA; rw [show w.cl _ = _ from T.nn_Trial] at hA; cases hA
    · intro A hA; rw [show w.cl _ = _ from T.nn_Run] at hA; cases hA
    · intro A hA; rw [show w.cl _ = _ from T.nn_Paths] at hA; cases hA
    · intro A hA; rw [show w.cl _ = _ from T.nn_Readings] at hA; cases hA
theorem isi_str (T : Tx W w mg) : IsiOk w (.type "str") tb_str cs_isi_str := by
  refine ⟨fun p hp => ?_, fun p hp => ?_⟩
  · unfold tb_str at hp
    simp only [List.mem_cons, List.not_mem_nil, or_false] at hp
    rcases hp with rfl | rfl | rfl | rfl | rfl | rfl | rfl
    · exact kit_ty (by decide +kernel)
    · exact kit_ty (by decide +kernel)
    · exact kit_ty (by decide +kernel)
    · exact kit_ty (by decide +kernel)
    · exact kit_ty (by decide +kernel)
    · exact kit_ty (by decide +kernel)
    · exact kit_ty (by decide +kernel)
  · unfold cs_isi_str at hp
    simp only [List.mem_cons, List.not_mem_nil, or_false] at hp
    rcases hp with rfl | rfl | rfl | rfl | rfl | rfl | rfl | rfl
    · intro A hA; rw [show w.cl _ = _ from T.n_Machine] at hA; cases hA; exact ⟨T.ci_Machine, T.i_Machine_str⟩
    · intro A hA; rw [show w.cl _ = _ from T.nn_Desk] at hA; cases hA
    · intro A hA; rw [show w.cl _ = _ from T.nn_Console] at hA; cases hA
    · intro A hA; rw [show w.cl _ = _ from T.nn_Kept] at hA; cases hA
    · intro A hA; rw [show w.cl _ = _ from T.nn_Trial] at hA; cases hA
    · intro A hA; rw [show w.cl _ = _ from T.nn_Run] at hA; cases hA
    · intro A hA; rw [show w.cl _ = _ from T.nn_Paths] at hA; cases hA
    · intro A hA; rw [show w.cl _ = _ from T.nn_Readings] at hA; cases hA
theorem bd__law_pour_2 (T : Tx W w mg) : Bd w.K T.fd__law_pour ["_law_jug_here", "_law_many"] [] 2 [] [0, 1] := by
  obtain ⟨_, _, _, _, _, _, _, _, _, e, _, _⟩ := T.F__law_pour.ex
  refine ⟨fun s us ws _ h1 h2 => ?_, rfl, by decide⟩
  rw [e]
  match us, ws, h1, h2 with | [_, _], [], _, _ => exact .of_eq rfl
theorem bd__law_machine_3 (T : Tx W w mg) : Bd w.K T.fd__law_machine ["_law_jug_here", "_law_most", "_law_widest"] [] 3 [] [0, 1, 2] := by
  obtain ⟨_, _, _, _, _, _, _, _, _, e, _, _⟩ := T.F__law_machine.ex
  refine ⟨fun s us ws _ h1 h2 => ?_, rfl, by decide⟩
  rw [e]
  match us, ws, h1, h2 with | [_, _, _], [], _, _ => exact .of_eq rfl
theorem bd_is_between_3 (T : Tx W w mg) : Bd w.K T.fd_is_between ["value", "low", "high"] [] 3 [] [0, 1, 2] := by
  obtain ⟨_, _, _, _, _, _, _, _, _, e, _, _⟩ := T.F_is_between.ex
  refine ⟨fun s us ws _ h1 h2 => ?_, rfl, by decide⟩
  rw [e]
  match us, ws, h1, h2 with | [_, _, _], [], _, _ => exact .of_eq rfl
theorem bd_is_goal_2 (T : Tx W w mg) : Bd w.K T.fd_is_goal ["value", "stands"] [] 2 [] [0, 1] := by
  obtain ⟨_, _, _, _, _, _, _, _, _, e, _, _⟩ := T.F_is_goal.ex
  refine ⟨fun s us ws _ h1 h2 => ?_, rfl, by decide⟩
  rw [e]
  match us, ws, h1, h2 with | [_, _], [], _, _ => exact .of_eq rfl
theorem bd_wrong_arrows_2 (T : Tx W w mg) : Bd w.K T.fd_wrong_arrows ["arrows", "letters"] [] 2 [] [0, 1] := by
  obtain ⟨_, _, _, _, _, _, _, _, _, e, _, _⟩ := T.F_wrong_arrows.ex
  refine ⟨fun s us ws _ h1 h2 => ?_, rfl, by decide⟩
  rw [e]
  match us, ws, h1, h2 with | [_, _], [], _, _ => exact .of_eq rfl
theorem bd_wrong_end_2 (T : Tx W w mg) : Bd w.K T.fd_wrong_end ["ends", "stands"] [] 2 [] [0, 1] := by
  obtain ⟨_, _, _, _, _, _, _, _, _, e, _, _⟩ := T.F_wrong_end.ex
  refine ⟨fun s us ws _ h1 h2 => ?_, rfl, by decide⟩
  rw [e]
  match us, ws, h1, h2 with | [_, _], [], _, _ => exact .of_eq rfl
theorem bd_Machine___init___4 (T : Tx W w mg) : Bd w.K T.fd_Machine___init__ ["self", "letters", "arrows", "ends"] [] 4 [] [0, 1, 2, 3] := by
  obtain ⟨_, _, _, _, _, _, _, _, _, e, _, _⟩ := T.F_Machine___init__.ex
  refine ⟨fun s us ws _ h1 h2 => ?_, rfl, by decide⟩
  rw [e]
  match us, ws, h1, h2 with | [_, _, _, _], [], _, _ => exact .of_eq rfl
theorem bd__law_one_of_2 (T : Tx W w mg) : Bd w.K T.fd__law_one_of ["_law_jug_here", "_law_menu"] [] 2 [] [0, 1] := by
  obtain ⟨_, _, _, _, _, _, _, _, _, e, _, _⟩ := T.F__law_one_of.ex
  refine ⟨fun s us ws _ h1 h2 => ?_, rfl, by decide⟩
  rw [e]
  match us, ws, h1, h2 with | [_, _], [], _, _ => exact .of_eq rfl
theorem bd__law_count_2 (T : Tx W w mg) : Bd w.K T.fd__law_count ["_law_plan", "_law_size"] [] 2 [] [0, 1] := by
  obtain ⟨_, _, _, _, _, _, _, _, _, e, _, _⟩ := T.F__law_count.ex
  refine ⟨fun s us ws _ h1 h2 => ?_, rfl, by decide⟩
  rw [e]
  match us, ws, h1, h2 with | [_, _], [], _, _ => exact .of_eq rfl
theorem bd_check_machine_1 (T : Tx W w mg) : Bd w.K T.fd_check_machine ["value"] [] 1 [] [0] := by
  obtain ⟨_, _, _, _, _, _, _, _, _, e, _, _⟩ := T.F_check_machine.ex
  refine ⟨fun s us ws _ h1 h2 => ?_, rfl, by decide⟩
  rw [e]
  match us, ws, h1, h2 with | [_], [], _, _ => exact .of_eq rfl
theorem bd_check_length_1 (T : Tx W w mg) : Bd w.K T.fd_check_length ["value"] [] 1 [] [0] := by
  obtain ⟨_, _, _, _, _, _, _, _, _, e, _, _⟩ := T.F_check_length.ex
  refine ⟨fun s us ws _ h1 h2 => ?_, rfl, by decide⟩
  rw [e]
  match us, ws, h1, h2 with | [_], [], _, _ => exact .of_eq rfl
theorem bd_end_counts_1 (T : Tx W w mg) : Bd w.K T.fd_end_counts ["machine"] [] 1 [] [0] := by
  obtain ⟨_, _, _, _, _, _, _, _, _, e, _, _⟩ := T.F_end_counts.ex
  refine ⟨fun s us ws _ h1 h2 => ?_, rfl, by decide⟩
  rw [e]
  match us, ws, h1, h2 with | [_], [], _, _ => exact .of_eq rfl
theorem bd_counts_before_2 (T : Tx W w mg) : Bd w.K T.fd_counts_before ["machine", "counts"] [] 2 [] [0, 1] := by
  obtain ⟨_, _, _, _, _, _, _, _, _, e, _, _⟩ := T.F_counts_before.ex
  refine ⟨fun s us ws _ h1 h2 => ?_, rfl, by decide⟩
  rw [e]
  match us, ws, h1, h2 with | [_, _], [], _, _ => exact .of_eq rfl
theorem bd_all_counts_2 (T : Tx W w mg) : Bd w.K T.fd_all_counts ["machine", "length"] [] 2 [] [0, 1] := by
  obtain ⟨_, _, _, _, _, _, _, _, _, e, _, _⟩ := T.F_all_counts.ex
  refine ⟨fun s us ws _ h1 h2 => ?_, rfl, by decide⟩
  rw [e]
  match us, ws, h1, h2 with | [_, _], [], _, _ => exact .of_eq rfl
theorem bd_count_of_2 (T : Tx W w mg) : Bd w.K T.fd_count_of ["machine", "length"] [] 2 [] [0, 1] := by
  obtain ⟨_, _, _, _, _, _, _, _, _, e, _, _⟩ := T.F_count_of.ex
  refine ⟨fun s us ws _ h1 h2 => ?_, rfl, by decide⟩
  rw [e]
  match us, ws, h1, h2 with | [_, _], [], _, _ => exact .of_eq rfl
theorem bd_told_of_1 (T : Tx W w mg) : Bd w.K T.fd_told_of ["machine"] [] 1 [] [0] := by
  obtain ⟨_, _, _, _, _, _, _, _, _, e, _, _⟩ := T.F_told_of.ex
  refine ⟨fun s us ws _ h1 h2 => ?_, rfl, by decide⟩
  rw [e]
  match us, ws, h1, h2 with | [_], [], _, _ => exact .of_eq rfl
theorem bd_certify_count_2 (T : Tx W w mg) : Bd w.K T.fd_certify_count ["machine", "length"] [] 2 [] [0, 1] := by
  obtain ⟨_, _, _, _, _, _, _, _, _, e, _, _⟩ := T.F_certify_count.ex
  refine ⟨fun s us ws _ h1 h2 => ?_, rfl, by decide⟩
  rw [e]
  match us, ws, h1, h2 with | [_, _], [], _, _ => exact .of_eq rfl
theorem bd_certify_count_0_length_machine (T : Tx W w mg) : Bd w.K T.fd_certify_count ["machine", "length"] ["length", "machine"] 0 [] [1, 0] := by
  obtain ⟨_, _, _, _, _, _, _, _, _, e, _, _⟩ := T.F_certify_count.ex
  refine ⟨fun s us ws _ h1 h2 => ?_, rfl, by decide⟩
  rw [e]
  match us, ws, h1, h2 with | [], [_, _], _, _ => exact .of_eq rfl
theorem bd_is_told_1 (T : Tx W w mg) : Bd w.K T.fd_is_told ["value"] [] 1 [] [0] := by
  obtain ⟨_, _, _, _, _, _, _, _, _, e, _, _⟩ := T.F_is_told.ex
  refine ⟨fun s us ws _ h1 h2 => ?_, rfl, by decide⟩
  rw [e]
  match us, ws, h1, h2 with | [_], [], _, _ => exact .of_eq rfl
theorem bd_is_integer_1 (T : Tx W w mg) : Bd w.K T.fd_is_integer ["value"] [] 1 [] [0] := by
  obtain ⟨_, _, _, _, _, _, _, _, _, e, _, _⟩ := T.F_is_integer.ex
  refine ⟨fun s us ws _ h1 h2 => ?_, rfl, by decide⟩
  rw [e]
  match us, ws, h1, h2 with | [_], [], _, _ => exact .of_eq rfl
theorem bd_is_empty_1 (T : Tx W w mg) : Bd w.K T.fd_is_empty ["value"] [] 1 [] [0] := by
  obtain ⟨_, _, _, _, _, _, _, _, _, e, _, _⟩ := T.F_is_empty.ex
  refine ⟨fun s us ws _ h1 h2 => ?_, rfl, by decide⟩
  rw [e]
  match us, ws, h1, h2 with | [_], [], _, _ => exact .of_eq rfl
theorem bd_made_of_1 (T : Tx W w mg) : Bd w.K T.fd_made_of ["told"] [] 1 [] [0] := by
  obtain ⟨_, _, _, _, _, _, _, _, _, e, _, _⟩ := T.F_made_of.ex
  refine ⟨fun s us ws _ h1 h2 => ?_, rfl, by decide⟩
  rw [e]
  match us, ws, h1, h2 with | [_], [], _, _ => exact .of_eq rfl
theorem bd_shows_count_3 (T : Tx W w mg) : Bd w.K T.fd_shows_count ["told", "numbers", "paper"] [] 3 [] [0, 1, 2] := by
  obtain ⟨_, _, _, _, _, _, _, _, _, e, _, _⟩ := T.F_shows_count.ex
  refine ⟨fun s us ws _ h1 h2 => ?_, rfl, by decide⟩
  rw [e]
  match us, ws, h1, h2 with | [_, _, _], [], _, _ => exact .of_eq rfl
theorem bd_holds_2 (T : Tx W w mg) : Bd w.K T.fd_holds ["claim", "paper"] [] 2 [] [0, 1] := by
  obtain ⟨_, _, _, _, _, _, _, _, _, e, _, _⟩ := T.F_holds.ex
  refine ⟨fun s us ws _ h1 h2 => ?_, rfl, by decide⟩
  rw [e]
  match us, ws, h1, h2 with | [_, _], [], _, _ => exact .of_eq rfl
theorem bd__law_right_1 (T : Tx W w mg) : Bd w.K T.fd__law_right ["_law_jug_here"] [] 1 [] [0] := by
  obtain ⟨_, _, _, _, _, _, _, _, _, e, _, _⟩ := T.F__law_right.ex
  refine ⟨fun s us ws _ h1 h2 => ?_, rfl, by decide⟩
  rw [e]
  match us, ws, h1, h2 with | [_], [], _, _ => exact .of_eq rfl
theorem bd__law_jug_2 (T : Tx W w mg) : Bd w.K T.fd__law_jug ["_law_cells", "_law_at"] [] 2 [] [0, 1] := by
  obtain ⟨_, _, _, _, _, _, _, _, _, e, _, _⟩ := T.F__law_jug.ex
  refine ⟨fun s us ws _ h1 h2 => ?_, rfl, by decide⟩
  rw [e]
  match us, ws, h1, h2 with | [_, _], [], _, _ => exact .of_eq rfl
theorem w__law_pour (T : Tx W w mg) : FnM P W w mg base CX0 exF 1 T.a__law_pour T.fd__law_pour ["_law_jug_here", "_law_many"] m__law_pour := by
  refine fnm_of T.F__law_pour sc__law_pour fun cdv A outer s H E C => ?_
  have nd := sc__law_pour.nd
  exact (mss_cons (ms_if (mt_cmp o_gt (me_ix C (me_var 0) me_int) me_int (nomark _)) (mss_cons (ms_asg (me_blt b_divmod (by rfl) T.z_divmod (by decide +kernel) (ma_cons (me_ix C (me_var 0) me_int) (ma_cons (me_var 1) ma_nil))) (mg_tup C 2 (mgs_cons (mg_sub p_setIx (me_var 0) me_int) (mgs_cons (mg_name 2 nd) mgs_nil)))) (mss_cons (ms_ret (me_var 2)) mss_nil)) mss_nil) (mss_cons (ms_asg (me_op (o_add C) (me_ix C (me_var 0) me_int) me_int) (mg_sub p_setIx (me_var 0) me_int)) (mss_cons (ms_asg (me_op o_mod (me_ty (b_int C) (by rfl) T.z_int (by decide +kernel) (ma_cons (me_op (o_add C) (me_op (o_add C) (me_op (o_mul C) (me_ix C (me_var 0) me_int) me_int) (me_op (o_mul C) (me_ty (b_int C) (by rfl) T.z_int (by decide +kernel) (ma_cons (me_op o_fdiv (me_ix C (me_var 0) me_int) me_int) ma_nil)) me_int)) (me_op (o_mul C) (me_ix C (me_var 0) me_int) me_int)) ma_nil)) me_int) (mg_sub p_setIx (me_var 0) me_int)) (mss_cons (ms_ret (me_op o_mod (me_ty (b_int C) (by rfl) T.z_int (by decide +kernel) (ma_cons (me_op o_fdiv (me_ix C (me_var 0) me_int) me_int) ma_nil)) (me_var 1))) mss_nil))))

theorem w__law_machine (T : Tx W w mg) : FnM P W w mg base CX0 exF 2 T.a__law_machine T.fd__law_machine ["_law_jug_here", "_law_most", "_law_widest"] m__law_machine := by
  refine fnm_of T.F__law_machine sc__law_machine fun cdv A outer s H E C => ?_
  have nd := sc__law_machine.nd
  exact (mss_cons (ms_asg (me_tup (ma_cons (me_op (o_add C) me_int (me_call (clb_fn C ((w__law_pour T).mono (by decide)) pass0 T.F__law_pour.kp (bd__law_pour_2 T) .nil (fun _ _ _ => .nil) tb_ok) (by rfl) T.g__law_pour (ma_cons (me_var 0) (ma_cons (me_var 1) ma_nil)))) (ma_cons (me_op (o_add C) me_int (me_call (clb_fn C ((w__law_pour T).mono (by decide)) pass0 T.F__law_pour.kp (bd__law_pour_2 T) .nil (fun _ _ _ => .nil) tb_ok) (by rfl) T.g__law_pour (ma_cons (me_var 0) (ma_cons (me_var 2) ma_nil)))) (ma_cons (me_lst ma_nil) ma_nil)))) (mg_tup C 3 (mgs_cons (mg_name 3 nd) (mgs_cons (mg_name 4 nd) (mgs_cons (mg_name 5 nd) mgs_nil))))) (mss_cons (ms_for C (mi_rng1 (by rfl) T.z_range (ma_cons (me_var 3) ma_nil)) (mg_name 6 nd) (mss_cons (ms_expr (me_bm C 1 F.plainAttrs_list F.slot_list_append F.type_list_append o_append (me_var 5) (ma_cons (me_ty (b_tuple C) (by rfl) T.z_tuple (by decide +kernel) (ma_cons (me_lc (EX2 := EXF) (own := [("_law_j", 8)]) (vs := [8]) (g := (Tg.nm 8)) C nd (mi_rng1 (by rfl) T.z_range (ma_cons (me_var 4) ma_nil)) (by kernel_rfl) (fun _ _ _ _ _ => (pg_name nd rfl (Or.inl rfl))) (fun _ _ _ _ _ C => mts_nil) (fun _ _ _ _ _ C => (me_if (mt_cmp o_gt (me_call (clb_fn C ((w__law_pour T).mono (by decide)) pass0 T.F__law_pour.kp (bd__law_pour_2 T) .nil (fun _ _ _ => .nil) tb_ok) (by rfl) T.g__law_pour (ma_cons (me_var 0) (ma_cons me_int ma_nil))) me_int (nomark _)) (me_call (clb_fn C ((w__law_pour T).mono (by decide)) pass0 T.F__law_pour.kp (bd__law_pour_2 T) .nil (fun _ _ _ => .nil) tb_ok) (by rfl) T.g__law_pour (ma_cons (me_var 0) (ma_cons (me_var 3) ma_nil))) me_non))) ma_nil)) ma_nil))) mss_nil)) (mss_cons (ms_setLc (EX2 := EXF) (own := [("_law_k", 6)]) (vs := [6]) (g := (Tg.nm 6)) C nd 7 rfl rfl (sw_true rfl rfl rfl (by decide +kernel)) (mi_rng1 (by rfl) T.z_range (ma_cons (me_var 3) ma_nil)) (by kernel_rfl) (fun _ _ _ _ _ => (pg_name nd rfl (Or.inl rfl))) (fun _ _ _ _ _ C => (pts_one (mt_cmp (o_eq C) (me_call (clb_fn C ((w__law_pour T).mono (by decide)) pass0 T.F__law_pour.kp (bd__law_pour_2 T) .nil (fun _ _ _ => .nil) tb_ok) (by rfl) T.g__law_pour (ma_cons (me_var 0) (ma_cons me_int ma_nil))) me_int (nomark _)))) (fun _ _ _ _ _ C => (me_var 6))) (mss_cons (ms_if (PW.pt (mw_and (mt_cmp (o_eq C) (me_var 7) (me_lst ma_nil) (nomark _)) (mw_one (mt_cmp o_gt (me_call (clb_fn C ((w__law_pour T).mono (by decide)) pass0 T.F__law_pour.kp (bd__law_pour_2 T) .nil (fun _ _ _ => .nil) tb_ok) (by rfl) T.g__law_pour (ma_cons (me_var 0) (ma_cons me_int ma_nil))) me_int (nomark _))))) (mss_cons (ms_set 7 nd (me_lst (ma_cons (me_call (clb_fn C ((w__law_pour T).mono (by decide)) pass0 T.F__law_pour.kp (bd__law_pour_2 T) .nil (fun _ _ _ => .nil) tb_ok) (by rfl) T.g__law_pour (ma_cons (me_var 0) (ma_cons (me_var 3) ma_nil))) ma_nil))) mss_nil) mss_nil) (mss_cons (ms_ret (me_tup (ma_cons (me_var 4) (ma_cons (me_ty (b_tuple C) (by rfl) T.z_tuple (by decide +kernel) (ma_cons (me_var 5) ma_nil)) (ma_cons (me_ty (b_tuple C) (by rfl) T.z_tuple (by decide +kernel) (ma_cons (me_var 7) ma_nil)) ma_nil))))) mss_nil)))))

theorem w_is_between (T : Tx W w mg) : FnM P W w mg base CX0 exF 1 T.a_is_between T.fd_is_between ["value", "low", "high"] m_is_between := by
  refine fnm_of T.F_is_between sc_is_between fun cdv A outer s H E C => ?_
  have nd := sc_is_between.nd
  exact (mss_cons (ms_ret (me_and (me_isiT C (isi_int T) (me_var 0) (by rfl) T.z_isinstance (by rfl) T.z_int (by decide +kernel)) (me_and (me_not (me_isiT C (isi_bool T) (me_var 0) (by rfl) T.z_isinstance (by rfl) T.z_bool (by decide +kernel))) (me_one (me_ch o_le o_le (me_var 1) (me_var 0) (me_var 2)))))) mss_nil)

theorem w_is_goal (T : Tx W w mg) : FnM P W w mg base CX0 exF 2 T.a_is_goal T.fd_is_goal ["value", "stands"] m_is_goal := by
  refine fnm_of T.F_is_goal sc_is_goal fun cdv A outer s H E C => ?_
  have nd := sc_is_goal.nd
  exact (mss_cons (ms_ret (me_or (me_cmp (o_is T.gvn) (me_var 0) me_non (nomark _)) (me_one (me_call (clb_fn C ((w_is_between T).mono (by decide)) pass0 T.F_is_between.kp (bd_is_between_3 T) .nil (fun _ _ _ => .nil) tb_ok) (by rfl) T.g_is_between (ma_cons (me_var 0) (ma_cons me_int (ma_cons (me_op o_sub (me_var 1) me_int) ma_nil))))))) mss_nil)

theorem w_wrong_arrows (T : Tx W w mg) : FnM P W w mg base CX0 exF 3 T.a_wrong_arrows T.fd_wrong_arrows ["arrows", "letters"] m_wrong_arrows := by
  refine fnm_of T.F_wrong_arrows sc_wrong_arrows fun cdv A outer s H E C => ?_
  have nd := sc_wrong_arrows.nd
  exact (mss_cons (ms_for C (mi_enum C (by rfl) T.z_enumerate (ma_cons (me_var 0) ma_nil)) (mg_tup C 2 (mgs_cons (mg_name 2 nd) (mgs_cons (mg_name 3 nd) mgs_nil))) (mss_cons (ms_if (PW.pt (mw_or (mt_not (mt_tru C (me_isiT C (isi_tuple T) (me_var 3) (by rfl) T.z_isinstance (by rfl) T.z_tuple (by decide +kernel)))) (mw_or (mt_cmp (o_ne C) (me_blt (b_len C) (by rfl) T.z_len (by decide +kernel) (ma_cons (me_var 3) ma_nil)) (me_var 1) (nomark _)) (mw_one (mt_not (mt_tru C (me_blt (b_all C) (by rfl) T.z_all (by decide +kernel) (ma_cons (me_lc (EX2 := EXF) (own := [("goal", 4)]) (vs := [4]) (g := (Tg.nm 4)) C nd (mi_val C (me_var 3)) (by kernel_rfl) (fun _ _ _ _ _ => (pg_name nd rfl (Or.inl rfl))) (fun _ _ _ _ _ C => mts_nil) (fun _ _ _ _ _ C => (me_call (clb_fn C ((w_is_goal T).mono (by decide)) pass0 T.F_is_goal.kp (bd_is_goal_2 T) .nil (fun _ _ _ => .nil) tb_ok) (by rfl) T.g_is_goal (ma_cons (me_var 4) (ma_cons (me_blt (b_len C) (by rfl) T.z_len (by decide +kernel) (ma_cons (me_var 0) ma_nil)) ma_nil))))) ma_nil)))))))) (mss_cons (ms_ret (me_var 2)) mss_nil) mss_nil) mss_nil)) (mss_cons (ms_ret me_non) mss_nil))

theorem w_wrong_end (T : Tx W w mg) : FnM P W w mg base CX0 exF 2 T.a_wrong_end T.fd_wrong_end ["ends", "stands"] m_wrong_end := by
  refine fnm_of T.F_wrong_end sc_wrong_end fun cdv A outer s H E C => ?_
  have nd := sc_wrong_end.nd
  exact (mss_cons (ms_set 2 nd (me_un o_neg me_int)) (mss_cons (ms_for C (mi_enum C (by rfl) T.z_enumerate (ma_cons (me_var 0) ma_nil)) (mg_tup C 2 (mgs_cons (mg_name 3 nd) (mgs_cons (mg_name 4 nd) mgs_nil))) (mss_cons (ms_if (PW.pt (mw_or (mt_not (mt_tru C (me_call (clb_fn C ((w_is_between T).mono (by decide)) pass0 T.F_is_between.kp (bd_is_between_3 T) .nil (fun _ _ _ => .nil) tb_ok) (by rfl) T.g_is_between (ma_cons (me_var 4) (ma_cons me_int (ma_cons (me_op o_sub (me_var 1) me_int) ma_nil)))))) (mw_one (mt_cmp o_le (me_var 4) (me_var 2) (nomark _))))) (mss_cons (ms_ret (me_var 3)) mss_nil) mss_nil) (mss_cons (ms_set 2 nd (me_var 4)) mss_nil))) (mss_cons (ms_ret me_non) mss_nil)))

theorem w_Machine___init__ (T : Tx W w mg) : FnM P W w mg base CX0 exF 4 T.a_Machine___init__ T.fd_Machine___init__ ["self", "letters", "arrows", "ends"] m_Machine___init__ := by
  refine fnm_of T.F_Machine___init__ sc_Machine___init__ fun cdv A outer s H E C => ?_
  have nd := sc_Machine___init__.nd
  exact (mss_cons (ms_if (mt_not (mt_tru C (me_call (clb_fn C ((w_is_between T).mono (by decide)) pass0 T.F_is_between.kp (bd_is_between_3 T) .nil (fun _ _ _ => .nil) tb_ok) (by rfl) T.g_is_between (ma_cons (me_var 1) (ma_cons me_int (ma_cons (me_gint 5 (by rfl) T.g_MOST_LETTERS) ma_nil)))))) mss_never mss_nil) (mss_cons (ms_if (PW.pt (mw_or (mt_not (mt_tru C (me_isiT C (isi_tuple T) (me_var 2) (by rfl) T.z_isinstance (by rfl) T.z_tuple (by decide +kernel)))) (mw_one (mt_not (mt_ch o_le o_le me_int (me_blt (b_len C) (by rfl) T.z_len (by decide +kernel) (ma_cons (me_var 2) ma_nil)) (me_gint 8 (by rfl) T.g_MOST_STANDS)))))) mss_never mss_nil) (mss_cons (ms_set 4 nd (me_call (clb_fn C ((w_wrong_arrows T).mono (by decide)) pass0 T.F_wrong_arrows.kp (bd_wrong_arrows_2 T) .nil (fun _ _ _ => .nil) tb_ok) (by rfl) T.g_wrong_arrows (ma_cons (me_var 2) (ma_cons (me_var 1) ma_nil)))) (mss_cons (ms_if (mt_cmp (o_isnot T.gvn) (me_var 4) me_non (nomark _)) mss_never mss_nil) (mss_cons (ms_if (mt_not (mt_tru C (me_isiT C (isi_tuple T) (me_var 3) (by rfl) T.z_isinstance (by rfl) T.z_tuple (by decide +kernel)))) mss_never mss_nil) (mss_cons (ms_set 4 nd (me_call (clb_fn C ((w_wrong_end T).mono (by decide)) pass0 T.F_wrong_end.kp (bd_wrong_end_2 T) .nil (fun _ _ _ => .nil) tb_ok) (by rfl) T.g_wrong_end (ma_cons (me_var 3) (ma_cons (me_blt (b_len C) (by rfl) T.z_len (by decide +kernel) (ma_cons (me_var 2) ma_nil)) ma_nil)))) (mss_cons (ms_if (mt_cmp (o_isnot T.gvn) (me_var 4) me_non (nomark _)) mss_never mss_nil) (mss_cons (ms_fld C [108, 101, 116, 116, 101, 114, 115] (by decide +kernel) (fld_letters T) (me_var 0) (me_var 1)) (mss_cons (ms_fld C [97, 114, 114, 111, 119, 115] (by decide +kernel) (fld_arrows T) (me_var 0) (me_var 2)) (mss_cons (ms_fld C [101, 110, 100, 115] (by decide +kernel) (fld_ends T) (me_var 0) (me_var 3)) mss_nil))))))))))

theorem w__law_one_of (T : Tx W w mg) : FnM P W w mg base CX0 exF 2 T.a__law_one_of T.fd__law_one_of ["_law_jug_here", "_law_menu"] m__law_one_of := by
  refine fnm_of T.F__law_one_of sc__law_one_of fun cdv A outer s H E C => ?_
  have nd := sc__law_one_of.nd
  exact (mss_cons (ms_ret (me_ix C (me_var 1) (me_call (clb_fn C ((w__law_pour T).mono (by decide)) pass0 T.F__law_pour.kp (bd__law_pour_2 T) .nil (fun _ _ _ => .nil) tb_ok) (by rfl) T.g__law_pour (ma_cons (me_var 0) (ma_cons (me_blt (b_len C) (by rfl) T.z_len (by decide +kernel) (ma_cons (me_var 1) ma_nil)) ma_nil))))) mss_nil)

theorem w__law_count (T : Tx W w mg) : FnM P W w mg base CX0 exF 1 T.a__law_count T.fd__law_count ["_law_plan", "_law_size"] m__law_count := by
  refine fnm_of T.F__law_count sc__law_count fun cdv A outer s H E C => ?_
  have nd := sc__law_count.nd
  exact (mss_cons (ms_set 3 nd (me_lc (EX2 := EXF) (own := [("_law_k", 2)]) (vs := [2]) (g := (Tg.nm 2)) C nd (mi_rng1 (by rfl) T.z_range (ma_cons (me_blt (b_len C) (by rfl) T.z_len (by decide +kernel) (ma_cons (me_ix C (me_var 0) me_int) ma_nil)) ma_nil)) (by kernel_rfl) (fun _ _ _ _ _ => (pg_name nd rfl (Or.inl rfl))) (fun _ _ _ _ _ C => mts_nil) (fun _ _ _ _ _ C => (me_ty (b_int C) (by rfl) T.z_int (by decide +kernel) (ma_cons (me_cmp (o_eq C) (me_var 2) me_int (nomark _)) ma_nil))))) (mss_cons (ms_for C (mi_rng1 (by rfl) T.z_range (ma_cons (me_var 1) ma_nil)) (mg_name 4 nd) (mss_cons (ms_set 5 nd (me_op (o_mul C) (me_lst (ma_cons me_int ma_nil)) (me_blt (b_len C) (by rfl) T.z_len (by decide +kernel) (ma_cons (me_var 3) ma_nil)))) (mss_cons (ms_for C (mi_rng1 (by rfl) T.z_range (ma_cons (me_blt (b_len C) (by rfl) T.z_len (by decide +kernel) (ma_cons (me_var 3) ma_nil)) ma_nil)) (mg_name 2 nd) (mss_cons (ms_for C (mi_val C (me_ix C (me_ix C (me_var 0) me_int) (me_var 2))) (mg_name 6 nd) (mss_cons (ms_if (mt_cmp (o_isnot T.gvn) (me_var 6) me_non (nomark _)) (mss_cons (ms_asg (me_op (o_add C) (me_ix C (me_var 5) (me_var 6)) (me_ix C (me_var 3) (me_var 2))) (mg_sub p_setIx (me_var 5) (me_var 6))) mss_nil) mss_nil) mss_nil)) mss_nil)) (mss_cons (ms_set 3 nd (me_var 5)) mss_nil)))) (mss_cons (ms_ret (me_blt (b_sum C) (by rfl) T.z_sum (by decide +kernel) (ma_cons (me_lc (EX2 := EXF) (own := [("_law_k", 2)]) (vs := [2]) (g := (Tg.nm 2)) C nd (mi_val C (me_ix C (me_var 0) me_int)) (by kernel_rfl) (fun _ _ _ _ _ => (pg_name nd rfl (Or.inl rfl))) (fun _ _ _ _ _ C => mts_nil) (fun _ _ _ _ _ C => (me_ix C (me_var 3) (me_var 2)))) ma_nil))) mss_nil)))

theorem w_check_machine (T : Tx W w mg) : FnM P W w mg base CX0 exF 1 T.a_check_machine T.fd_check_machine ["value"] m_check_machine := by
  refine fnm_of T.F_check_machine sc_check_machine fun cdv A outer s H E C => ?_
  have nd := sc_check_machine.nd
  exact (mss_cons (ms_if (mt_not (mt_tru C (me_isiC C (isi_Machine T) (me_var 0) (by rfl) T.z_isinstance (by rfl) T.g_Machine))) mss_never mss_nil) mss_nil)

theorem w_check_length (T : Tx W w mg) : FnM P W w mg base CX0 exF 2 T.a_check_length T.fd_check_length ["value"] m_check_length := by
  refine fnm_of T.F_check_length sc_check_length fun cdv A outer s H E C => ?_
  have nd := sc_check_length.nd
  exact (mss_cons (ms_if (mt_not (mt_tru C (me_call (clb_fn C ((w_is_between T).mono (by decide)) pass0 T.F_is_between.kp (bd_is_between_3 T) .nil (fun _ _ _ => .nil) tb_ok) (by rfl) T.g_is_between (ma_cons (me_var 0) (ma_cons me_int (ma_cons (me_gint 300 (by rfl) T.g_MOST_TEXT) ma_nil)))))) mss_never mss_nil) mss_nil)

theorem w_end_counts (T : Tx W w mg) : FnM P W w mg base CX0 exF 1 T.a_end_counts T.fd_end_counts ["machine"] m_end_counts := by
  refine fnm_of T.F_end_counts sc_end_counts fun cdv A outer s H E C => ?_
  have nd := sc_end_counts.nd
  exact (mss_cons (ms_ret (me_lc (EX2 := EXF) (own := [("stand", 1)]) (vs := [1]) (g := (Tg.nm 1)) C nd (mi_rng1 (by rfl) T.z_range (ma_cons (me_blt (b_len C) (by rfl) T.z_len (by decide +kernel) (ma_cons (me_fld C [97, 114, 114, 111, 119, 115] (by decide +kernel) (fld_arrows T) (me_var 0)) ma_nil)) ma_nil)) (by kernel_rfl) (fun _ _ _ _ _ => (pg_name nd rfl (Or.inl rfl))) (fun _ _ _ _ _ C => mts_nil) (fun _ _ _ _ _ C => (me_if (mt_cmp (o_in C) (me_var 1) (me_fld C [101, 110, 100, 115] (by decide +kernel) (fld_ends T) (me_var 0)) (by rfl)) me_int me_int)))) mss_nil)

theorem w_counts_before (T : Tx W w mg) : FnM P W w mg base CX0 exF 1 T.a_counts_before T.fd_counts_before ["machine", "counts"] m_counts_before := by
  refine fnm_of T.F_counts_before sc_counts_before fun cdv A outer s H E C => ?_
  have nd := sc_counts_before.nd
  exact (mss_cons (ms_set 2 nd (me_lst ma_nil)) (mss_cons (ms_for C (mi_val C (me_fld C [97, 114, 114, 111, 119, 115] (by decide +kernel) (fld_arrows T) (me_var 0))) (mg_name 3 nd) (mss_cons (ms_expr (me_bm C 1 F.plainAttrs_list F.slot_list_append F.type_list_append o_append (me_var 2) (ma_cons (me_blt (b_sum C) (by rfl) T.z_sum (by decide +kernel) (ma_cons (me_lc (EX2 := EXF) (own := [("goal", 4)]) (vs := [4]) (g := (Tg.nm 4)) C nd (mi_val C (me_var 3)) (by kernel_rfl) (fun _ _ _ _ _ => (pg_name nd rfl (Or.inl rfl))) (fun _ _ _ _ _ C => (pts_one (mt_cmp (o_isnot T.gvn) (me_var 4) me_non (nomark _)))) (fun _ _ _ _ _ C => (me_ix C (me_var 1) (me_var 4)))) ma_nil)) ma_nil))) mss_nil)) (mss_cons (ms_ret (me_var 2)) mss_nil)))

theorem w_all_counts (T : Tx W w mg) : FnM P W w mg base CX0 exF 2 T.a_all_counts T.fd_all_counts ["machine", "length"] m_all_counts := by
  refine fnm_of T.F_all_counts sc_all_counts fun cdv A outer s H E C => ?_
  have nd := sc_all_counts.nd
  exact (mss_cons (ms_set 2 nd (me_lst (ma_cons (me_call (clb_fn C ((w_end_counts T).mono (by decide)) pass0 T.F_end_counts.kp (bd_end_counts_1 T) .nil (fun _ _ _ => .nil) tb_ok) (by rfl) T.g_end_counts (ma_cons (me_var 0) ma_nil)) ma_nil))) (mss_cons (ms_for C (mi_rng1 (by rfl) T.z_range (ma_cons (me_var 1) ma_nil)) (mg_name 3 nd) (mss_cons (ms_expr (me_bm C 1 F.plainAttrs_list F.slot_list_append F.type_list_append o_append (me_var 2) (ma_cons (me_call (clb_fn C ((w_counts_before T).mono (by decide)) pass0 T.F_counts_before.kp (bd_counts_before_2 T) .nil (fun _ _ _ => .nil) tb_ok) (by rfl) T.g_counts_before (ma_cons (me_var 0) (ma_cons (me_ix C (me_var 2) (me_un o_neg me_int)) ma_nil))) ma_nil))) mss_nil)) (mss_cons (ms_ret (me_var 2)) mss_nil)))

theorem w_count_of (T : Tx W w mg) : FnM P W w mg base CX0 exF 3 T.a_count_of T.fd_count_of ["machine", "length"] m_count_of := by
  refine fnm_of T.F_count_of sc_count_of fun cdv A outer s H E C => ?_
  have nd := sc_count_of.nd
  exact (mss_cons (ms_ret (me_ix C (me_ix C (me_call (clb_fn C ((w_all_counts T).mono (by decide)) pass0 T.F_all_counts.kp (bd_all_counts_2 T) .nil (fun _ _ _ => .nil) tb_ok) (by rfl) T.g_all_counts (ma_cons (me_var 0) (ma_cons (me_var 1) ma_nil))) (me_var 1)) me_int)) mss_nil)

theorem w_told_of (T : Tx W w mg) : FnM P W w mg base CX0 exF 1 T.a_told_of T.fd_told_of ["machine"] m_told_of := by
  refine fnm_of T.F_told_of sc_told_of fun cdv A outer s H E C => ?_
  have nd := sc_told_of.nd
  exact (mss_cons (ms_ret (me_tup (ma_cons (me_fld C [108, 101, 116, 116, 101, 114, 115] (by decide +kernel) (fld_letters T) (me_var 0)) (ma_cons (me_fld C [97, 114, 114, 111, 119, 115] (by decide +kernel) (fld_arrows T) (me_var 0)) (ma_cons (me_fld C [101, 110, 100, 115] (by decide +kernel) (fld_ends T) (me_var 0)) ma_nil))))) mss_nil)

theorem w_certify_count (T : Tx W w mg) : FnM P W w mg base CX0 exF 4 T.a_certify_count T.fd_certify_count ["machine", "length"] m_certify_count := by
  refine fnm_of T.F_certify_count sc_certify_count fun cdv A outer s H E C => ?_
  have nd := sc_certify_count.nd
  exact (mss_cons (ms_expr (me_call (clb_fn C ((w_check_machine T).mono (by decide)) pass0 T.F_check_machine.kp (bd_check_machine_1 T) .nil (fun _ _ _ => .nil) tb_ok) (by rfl) T.g_check_machine (ma_cons (me_var 0) ma_nil))) (mss_cons (ms_expr (me_call (clb_fn C ((w_check_length T).mono (by decide)) pass0 T.F_check_length.kp (bd_check_length_1 T) .nil (fun _ _ _ => .nil) tb_ok) (by rfl) T.g_check_length (ma_cons (me_var 1) ma_nil))) (mss_cons (ms_ret (me_tup (ma_cons (me_tup (ma_cons (me_str [99, 111, 117, 110, 116]) (ma_cons (me_call (clb_fn C ((w_told_of T).mono (by decide)) pass0 T.F_told_of.kp (bd_told_of_1 T) .nil (fun _ _ _ => .nil) tb_ok) (by rfl) T.g_told_of (ma_cons (me_var 0) ma_nil)) (ma_cons (me_var 1) (ma_cons (me_call (clb_fn C ((w_count_of T).mono (by decide)) pass0 T.F_count_of.kp (bd_count_of_2 T) .nil (fun _ _ _ => .nil) tb_ok) (by rfl) T.g_count_of (ma_cons (me_var 0) (ma_cons (me_var 1) ma_nil))) ma_nil))))) (ma_cons (me_tup ma_nil) ma_nil)))) mss_nil)))

theorem w_is_told (T : Tx W w mg) : FnM P W w mg base CX0 exF 4 T.a_is_told T.fd_is_told ["value"] m_is_told := by
  refine fnm_of T.F_is_told sc_is_told fun cdv A outer s H E C => ?_
  have nd := sc_is_told.nd
  exact (mss_cons (ms_if (PW.pt (mw_or (mt_not (mt_tru C (me_isiT C (isi_tuple T) (me_var 0) (by rfl) T.z_isinstance (by rfl) T.z_tuple (by decide +kernel)))) (mw_or (mt_cmp (o_ne C) (me_blt (b_len C) (by rfl) T.z_len (by decide +kernel) (ma_cons (me_var 0) ma_nil)) me_int (nomark _)) (mw_one (mt_not (mt_tru C (me_call (clb_fn C ((w_is_between T).mono (by decide)) pass0 T.F_is_between.kp (bd_is_between_3 T) .nil (fun _ _ _ => .nil) tb_ok) (by rfl) T.g_is_between (ma_cons (me_ix C (me_var 0) me_int) (ma_cons me_int (ma_cons (me_gint 5 (by rfl) T.g_MOST_LETTERS) ma_nil)))))))))) (mss_cons (ms_ret me_bl) mss_nil) mss_nil) (mss_cons (ms_asg (me_sl C (me_var 0) (mo_some me_int) mo_none) (mg_tup C 2 (mgs_cons (mg_name 1 nd) (mgs_cons (mg_name 2 nd) mgs_nil)))) (mss_cons (ms_if (PW.pt (mw_or (mt_not (mt_tru C (me_isiT C (isi_tuple T) (me_var 1) (by rfl) T.z_isinstance (by rfl) T.z_tuple (by decide +kernel)))) (mw_one (mt_not (mt_ch o_le o_le me_int (me_blt (b_len C) (by rfl) T.z_len (by decide +kernel) (ma_cons (me_var 1) ma_nil)) (me_gint 8 (by rfl) T.g_MOST_STANDS)))))) (mss_cons (ms_ret me_bl) mss_nil) mss_nil) (mss_cons (ms_if (mt_cmp (o_isnot T.gvn) (me_call (clb_fn C ((w_wrong_arrows T).mono (by decide)) pass0 T.F_wrong_arrows.kp (bd_wrong_arrows_2 T) .nil (fun _ _ _ => .nil) tb_ok) (by rfl) T.g_wrong_arrows (ma_cons (me_var 1) (ma_cons (me_ix C (me_var 0) me_int) ma_nil))) me_non (nomark _)) (mss_cons (ms_ret me_bl) mss_nil) mss_nil) (mss_cons (ms_ret (me_and (me_isiT C (isi_tuple T) (me_var 2) (by rfl) T.z_isinstance (by rfl) T.z_tuple (by decide +kernel)) (me_one (me_cmp (o_is T.gvn) (me_call (clb_fn C ((w_wrong_end T).mono (by decide)) pass0 T.F_wrong_end.kp (bd_wrong_end_2 T) .nil (fun _ _ _ => .nil) tb_ok) (by rfl) T.g_wrong_end (ma_cons (me_var 2) (ma_cons (me_blt (b_len C) (by rfl) T.z_len (by decide +kernel) (ma_cons (me_var 1) ma_nil)) ma_nil))) me_non (nomark _))))) mss_nil)))))

theorem w_is_integer (T : Tx W w mg) : FnM P W w mg base CX0 exF 1 T.a_is_integer T.fd_is_integer ["value"] m_is_integer := by
  refine fnm_of T.F_is_integer sc_is_integer fun cdv A outer s H E C => ?_
  have nd := sc_is_integer.nd
  exact (mss_cons (ms_ret (me_and (me_isiT C (isi_int T) (me_var 0) (by rfl) T.z_isinstance (by rfl) T.z_int (by decide +kernel)) (me_one (me_not (me_isiT C (isi_bool T) (me_var 0) (by rfl) T.z_isinstance (by rfl) T.z_bool (by decide +kernel)))))) mss_nil)

theorem w_is_empty (T : Tx W w mg) : FnM P W w mg base CX0 exF 1 T.a_is_empty T.fd_is_empty ["value"] m_is_empty := by
  refine fnm_of T.F_is_empty sc_is_empty fun cdv A outer s H E C => ?_
  have nd := sc_is_empty.nd
  exact (mss_cons (ms_ret (me_and (me_isiT C (isi_tuple T) (me_var 0) (by rfl) T.z_isinstance (by rfl) T.z_tuple (by decide +kernel)) (me_one (me_cmp (o_eq C) (me_blt (b_len C) (by rfl) T.z_len (by decide +kernel) (ma_cons (me_var 0) ma_nil)) me_int (nomark _))))) mss_nil)

theorem w_made_of (T : Tx W w mg) : FnM P W w mg base CX0 exF 6 T.a_made_of T.fd_made_of ["told"] m_made_of := by
  refine fnm_of T.F_made_of sc_made_of fun cdv A outer s H E C => ?_
  have nd := sc_made_of.nd
  exact (mss_cons (ms_ret (me_call (clb_cls 0 T.n_Machine C T.mk_Machine ((w_Machine___init__ T).mono (by decide)) pass0 (bd_Machine___init___4 T) .nil (fun _ _ _ => .nil) tf_ok) (by rfl) T.g_Machine (ma_cons (me_ix C (me_var 0) me_int) (ma_cons (me_ix C (me_var 0) me_int) (ma_cons (me_ix C (me_var 0) me_int) ma_nil))))) mss_nil)

theorem w_shows_count (T : Tx W w mg) : FnM P W w mg base CX0 exF 7 T.a_shows_count T.fd_shows_count ["told", "numbers", "paper"] m_shows_count := by
  refine fnm_of T.F_shows_count sc_shows_count fun cdv A outer s H E C => ?_
  have nd := sc_shows_count.nd
  exact (mss_cons (ms_asg (me_var 1) (mg_tup C 2 (mgs_cons (mg_name 3 nd) (mgs_cons (mg_name 4 nd) mgs_nil)))) (mss_cons (ms_if (PW.pt (mw_or (mt_not (mt_tru C (me_call (clb_fn C ((w_is_between T).mono (by decide)) pass0 T.F_is_between.kp (bd_is_between_3 T) .nil (fun _ _ _ => .nil) tb_ok) (by rfl) T.g_is_between (ma_cons (me_var 3) (ma_cons me_int (ma_cons (me_gint 300 (by rfl) T.g_MOST_TEXT) ma_nil)))))) (mw_or (mt_not (mt_tru C (me_call (clb_fn C ((w_is_integer T).mono (by decide)) pass0 T.F_is_integer.kp (bd_is_integer_1 T) .nil (fun _ _ _ => .nil) tb_ok) (by rfl) T.g_is_integer (ma_cons (me_var 4) ma_nil)))) (mw_one (mt_not (mt_tru C (me_call (clb_fn C ((w_is_empty T).mono (by decide)) pass0 T.F_is_empty.kp (bd_is_empty_1 T) .nil (fun _ _ _ => .nil) tb_ok) (by rfl) T.g_is_empty (ma_cons (me_var 2) ma_nil)))))))) (mss_cons (ms_ret me_bl) mss_nil) mss_nil) (mss_cons (ms_ret (me_cmp (o_eq C) (me_call (clb_fn C ((w_count_of T).mono (by decide)) pass0 T.F_count_of.kp (bd_count_of_2 T) .nil (fun _ _ _ => .nil) tb_ok) (by rfl) T.g_count_of (ma_cons (me_call (clb_fn C ((w_made_of T).mono (by decide)) pass0 T.F_made_of.kp (bd_made_of_1 T) .nil (fun _ _ _ => .nil) tb_ok) (by rfl) T.g_made_of (ma_cons (me_var 0) ma_nil)) (ma_cons (me_var 3) ma_nil))) (me_var 4) (nomark _))) mss_nil)))

theorem tabS_ok {k : Nat} (hk : 7 ≤ k) (T : Tx W w mg) : FTab P W w mg base k 3 tabS_ := by
  intro p hp
  unfold tabS_ at hp
  simp only [List.mem_cons, List.not_mem_nil, or_false] at hp
  rcases hp with rfl
  · exact ⟨_, _, _, T.gv_shows_count, T.F_shows_count.kp, (w_shows_count T).mono (by omega), bd_shows_count_3 T⟩

theorem w_holds (T : Tx W w mg) : FnM P W w mg base CX0 exF 8 T.a_holds T.fd_holds ["claim", "paper"] (m_holds tabS_) := by
  refine fnm_of T.F_holds sc_holds fun cdv A outer s H E C => ?_
  have nd := sc_holds.nd
  exact (mss_cons (ms_if (PW.pt (mw_or (mt_not (mt_tru C (me_isiT C (isi_tuple T) (me_var 0) (by rfl) T.z_isinstance (by rfl) T.z_tuple (by decide +kernel)))) (mw_or (mt_cmp o_lt (me_blt (b_len C) (by rfl) T.z_len (by decide +kernel) (ma_cons (me_var 0) ma_nil)) me_int (nomark _)) (mw_or (mt_not (mt_tru C (me_isiT C (isi_str T) (me_ix C (me_var 0) me_int) (by rfl) T.z_isinstance (by rfl) T.z_str (by decide +kernel)))) (mw_one (mt_cmp (o_knotin C T.kt_SHOWN) (me_ix C (me_var 0) me_int) (me_gl 0 (v := .ref T.d_SHOWN) (by rfl) T.g_SHOWN rfl T.vd_SHOWN) (by rfl))))))) (mss_cons (ms_ret me_bl) mss_nil) mss_nil) (mss_cons (ms_asg (me_kix C T.kt_SHOWN (me_gl 0 (v := .ref T.d_SHOWN) (by rfl) T.g_SHOWN rfl T.vd_SHOWN) (me_ix C (me_var 0) me_int)) (mg_tup C 2 (mgs_cons (mg_name 2 nd) (mgs_cons (mg_name 3 nd) mgs_nil)))) (mss_cons (ms_ret (me_and (me_cmp (o_eq C) (me_blt (b_len C) (by rfl) T.z_len (by decide +kernel) (ma_cons (me_var 0) ma_nil)) (me_var 2) (nomark _)) (me_and (me_call (clb_fn C ((w_is_told T).mono (by decide)) pass0 T.F_is_told.kp (bd_is_told_1 T) .nil (fun _ _ _ => .nil) tb_ok) (by rfl) T.g_is_told (ma_cons (me_ix C (me_var 0) me_int) ma_nil)) (me_one (me_callV C (tabS_ok (by decide) T) 3 (ma_cons (me_ix C (me_var 0) me_int) (ma_cons (me_sl C (me_var 0) (mo_some me_int) mo_none) (ma_cons (me_var 1) ma_nil)))))))) mss_nil)))

theorem w__law_right (T : Tx W w mg) : FnM P W w mg base CX0 exF 9 T.a__law_right T.fd__law_right ["_law_jug_here"] m__law_right := by
  refine fnm_of T.F__law_right sc__law_right fun cdv A outer s H E C => ?_
  have nd := sc__law_right.nd
  exact (mss_cons (ms_for C (mi_rng1 (by rfl) T.z_range (ma_cons me_int ma_nil)) (mg_name 1 nd) (mss_cons (ms_set 2 nd (me_call (clb_fn C ((w__law_machine T).mono (by decide)) pass0 T.F__law_machine.kp (bd__law_machine_3 T) .nil (fun _ _ _ => .nil) tb_ok) (by rfl) T.g__law_machine (ma_cons (me_var 0) (ma_cons me_int (ma_cons me_int ma_nil))))) (mss_cons (ms_set 3 nd (me_call (clb_cls 0 T.n_Machine C T.mk_Machine ((w_Machine___init__ T).mono (by decide)) pass0 (bd_Machine___init___4 T) .nil (fun _ _ _ => .nil) tf_ok) (by rfl) T.g_Machine (ma_cons (me_ix C (me_var 2) me_int) (ma_cons (me_ix C (me_var 2) me_int) (ma_cons (me_ix C (me_var 2) me_int) ma_nil))))) (mss_cons (ms_for C (mi_val C (me_lst (ma_cons me_int (ma_cons me_int (ma_cons (me_call (clb_fn C ((w__law_pour T).mono (by decide)) pass0 T.F__law_pour.kp (bd__law_pour_2 T) .nil (fun _ _ _ => .nil) tb_ok) (by rfl) T.g__law_pour (ma_cons (me_var 0) (ma_cons me_int ma_nil))) (ma_cons (me_call (clb_fn C ((w__law_one_of T).mono (by decide)) pass0 T.F__law_one_of.kp (bd__law_one_of_2 T) .nil (fun _ _ _ => .nil) tb_ok) (by rfl) T.g__law_one_of (ma_cons (me_var 0) (ma_cons (me_lst (ma_cons me_int (ma_cons me_int (ma_cons me_int (ma_cons me_int (ma_cons (me_call (clb_fn C ((w__law_pour T).mono (by decide)) pass0 T.F__law_pour.kp (bd__law_pour_2 T) .nil (fun _ _ _ => .nil) tb_ok) (by rfl) T.g__law_pour (ma_cons (me_var 0) (ma_cons me_int ma_nil))) ma_nil)))))) ma_nil))) ma_nil)))))) (mg_name 4 nd) (mss_cons (ms_set 5 nd (me_call (clb_fn C ((w__law_count T).mono (by decide)) pass0 T.F__law_count.kp (bd__law_count_2 T) .nil (fun _ _ _ => .nil) tb_ok) (by rfl) T.g__law_count (ma_cons (me_var 2) (ma_cons (me_var 4) ma_nil)))) (mss_cons (ms_par C 6 7 nd (me_tup (ma_cons (me_tup (ma_cons (me_str [99, 111, 117, 110, 116]) (ma_cons (me_var 2) (ma_cons (me_var 4) (ma_cons (me_var 5) ma_nil))))) (ma_cons (me_tup ma_nil) ma_nil))) (me_call (clb_fn C ((w_certify_count T).mono (by decide)) pass0 T.F_certify_count.kp (bd_certify_count_2 T) .nil (fun _ _ _ => .nil) tb_ok) (by rfl) T.g_certify_count (ma_cons (me_var 3) (ma_cons (me_var 4) ma_nil)))) (mss_cons (ms_if (mt_cmp (o_ne C) (me_blt (b_repr C) (by rfl) T.z_repr (by decide +kernel) (ma_cons (me_lst (ma_cons (me_var 7) (ma_cons (me_callK0 (clb_fn C ((w_certify_count T).mono (by decide)) pass0 T.F_certify_count.kp (bd_certify_count_0_length_machine T) .nil (fun _ _ _ => .nil) tb_ok) (by rfl) T.g_certify_count (mk_cons (me_var 4) (mk_cons (me_var 3) mk_nil)) 2) ma_nil))) ma_nil)) (me_blt (b_repr C) (by rfl) T.z_repr (by decide +kernel) (ma_cons (me_lst (ma_cons (me_var 6) (ma_cons (me_var 6) ma_nil))) ma_nil)) (nomark _)) (mss_cons (ms_ret me_bl) mss_nil) mss_nil) (mss_cons (ms_if (mt_cmp (o_isnot T.gvn) (me_call (clb_fn C ((w_holds T).mono (by decide)) pass0 T.F_holds.kp (bd_holds_2 T) .nil (fun _ _ _ => .nil) tb_ok) (by rfl) T.g_holds (ma_cons (me_ix C (me_var 7) me_int) (ma_cons (me_ix C (me_var 7) me_int) ma_nil))) me_bl (nomark _)) (mss_cons (ms_ret me_bl) mss_nil) mss_nil) (mss_cons (ms_for C (mi_val C (me_lst (ma_cons (me_op (o_add C) (me_var 5) me_int) (ma_cons (me_op o_sub (me_var 5) me_int) ma_nil)))) (mg_name 8 nd) (mss_cons (ms_if (PW.pt (mw_and (mt_cmp o_lt (me_var 5) (me_op o_pow me_int me_int) (nomark _)) (mw_one (mt_cmp (o_isnot T.gvn) (me_call (clb_fn C ((w_holds T).mono (by decide)) pass0 T.F_holds.kp (bd_holds_2 T) .nil (fun _ _ _ => .nil) tb_ok) (by rfl) T.g_holds (ma_cons (me_tup (ma_cons (me_str [99, 111, 117, 110, 116]) (ma_cons (me_var 2) (ma_cons (me_var 4) (ma_cons (me_var 8) ma_nil))))) (ma_cons (me_tup ma_nil) ma_nil))) me_bl (nomark _))))) (mss_cons (ms_ret me_bl) mss_nil) mss_nil) mss_nil)) mss_nil)))))) mss_nil)))) (mss_cons (ms_ret me_bl) mss_nil))

theorem w__law_jug (T : Tx W w mg) : FnM P W w mg base CX0 exF 1 T.a__law_jug T.fd__law_jug ["_law_cells", "_law_at"] m__law_jug := by
  refine fnm_of T.F__law_jug sc__law_jug fun cdv A outer s H E C => ?_
  have nd := sc__law_jug.nd
  exact (mss_cons (ms_set 2 nd (me_if (mt_cmp o_lt (me_var 1) (me_blt (b_len C) (by rfl) T.z_len (by decide +kernel) (ma_cons (me_var 0) ma_nil)) (nomark _)) (me_ty (b_int C) (by rfl) T.z_int (by decide +kernel) (ma_cons (me_ix C (me_var 0) (me_var 1)) ma_nil)) (me_op (o_add C) (me_op (o_mul C) me_int (me_var 1)) me_int))) (mss_cons (ms_set 3 nd (me_op (o_add C) me_int (me_op (o_mul C) me_int (me_var 1)))) (mss_cons (ms_for C (mi_val C (me_sl C (me_var 0) mo_none (mo_some me_int))) (mg_name 4 nd) (mss_cons (ms_set 3 nd (me_op o_mod (me_ty (b_int C) (by rfl) T.z_int (by decide +kernel) (ma_cons (me_op (o_add C) (me_op (o_mul C) (me_var 3) me_int) (me_op o_mod (me_ty (b_int C) (by rfl) T.z_int (by decide +kernel) (ma_cons (me_var 4) ma_nil)) me_int)) ma_nil)) me_int)) mss_nil)) (mss_cons (ms_set 5 nd (me_if (PW.pt (mw_or (mt_cmp o_lt (me_var 2) me_int (nomark _)) (mw_one (mt_cmp o_ge (me_var 2) (me_op o_pow me_int me_int) (nomark _))))) (me_blt b_abs (by rfl) T.z_abs (by decide +kernel) (ma_cons (me_var 2) ma_nil)) me_int)) (mss_cons (ms_ret (me_lst (ma_cons (me_var 5) (ma_cons (me_op o_mod (me_ty (b_int C) (by rfl) T.z_int (by decide +kernel) (ma_cons (me_op (o_add C) (me_op (o_mul C) (me_var 3) me_int) (me_op o_mod (me_ty (b_int C) (by rfl) T.z_int (by decide +kernel) (ma_cons (me_var 2) ma_nil)) me_int)) ma_nil)) me_int) (ma_cons me_int ma_nil))))) mss_nil)))))

theorem w_law (T : Tx W w mg) : FnM P W w mg base CX0 exF 10 T.a_law T.fd_law ["_law_cells"] m_law := by
  refine fnm_of T.F_law sc_law fun cdv A outer s H E C => ?_
  have nd := sc_law.nd
  exact (mss_cons (ms_ret (me_blt (b_all C) (by rfl) T.z_all (by decide +kernel) (ma_cons (me_lc (EX2 := EXF) (own := [("_law_k", 1)]) (vs := [1]) (g := (Tg.nm 1)) C nd (mi_rng1 (by rfl) T.z_range (ma_cons (me_blt (b_max2 C) (by rfl) T.z_max (by decide +kernel) (ma_cons me_int (ma_cons (me_blt (b_min2 C) (by rfl) T.z_min (by decide +kernel) (ma_cons (me_blt (b_len C) (by rfl) T.z_len (by decide +kernel) (ma_cons (me_var 0) ma_nil)) (ma_cons me_int ma_nil))) ma_nil))) ma_nil)) (by kernel_rfl) (fun _ _ _ _ _ => (pg_name nd rfl (Or.inl rfl))) (fun _ _ _ _ _ C => mts_nil) (fun _ _ _ _ _ C => (me_call (clb_fn C ((w__law_right T).mono (by decide)) pass0 T.F__law_right.kp (bd__law_right_1 T) .nil (fun _ _ _ => .nil) tb_ok) (by rfl) T.g__law_right (ma_cons (me_call (clb_fn C ((w__law_jug T).mono (by decide)) pass0 T.F__law_jug.kp (bd__law_jug_2 T) .nil (fun _ _ _ => .nil) tb_ok) (by rfl) T.g__law_jug (ma_cons (me_var 0) (ma_cons (me_var 1) ma_nil))) ma_nil)))) ma_nil))) mss_nil)

end
theorem all_mk {l : PySem.W.OpenLaw} {W : World} {K : PySem.W.Frag} {h : Heap} {mg : Str → Option Value} {fa : Addr} (KX : K.In h) (G : h.Ns mainGlobals mg) (hfa : mg "law" = some (.ref fa))
    {f0 : Addr} {od0 an0 : Option Addr} {sl0 : Array (Option Value)} {oc0 kV0 dc0 pm0 cd0 ct0 : Value}
    {f1 : Addr} {od1 an1 : Option Addr} {sl1 : Array (Option Value)} {oc1 kV1 dc1 pm1 cd1 ct1 : Value}
    {f2 : Addr} {od2 an2 : Option Addr} {sl2 : Array (Option Value)} {oc2 kV2 dc2 pm2 cd2 ct2 : Value}
    {f3 : Addr} {od3 an3 : Option Addr} {sl3 : Array (Option Value)} {oc3 kV3 dc3 pm3 cd3 ct3 : Value}
    {f4 : Addr} {od4 an4 : Option Addr} {sl4 : Array (Option Value)} {oc4 kV4 dc4 pm4 cd4 ct4 : Value}
    {f5 : Addr} {od5 an5 : Option Addr} {sl5 : Array (Option Value)} {oc5 kV5 dc5 pm5 cd5 ct5 : Value}
    {f6 : Addr} {od6 an6 : Option Addr} {sl6 : Array (Option Value)} {oc6 kV6 dc6 pm6 cd6 ct6 : Value}
    {f7 : Addr} {od7 an7 : Option Addr} {sl7 : Array (Option Value)} {oc7 kV7 dc7 pm7 cd7 ct7 : Value}
    {f8 : Addr} {od8 an8 : Option Addr} {sl8 : Array (Option Value)} {oc8 kV8 dc8 pm8 cd8 ct8 : Value}
    {f9 : Addr} {od9 an9 : Option Addr} {sl9 : Array (Option Value)} {oc9 kV9 dc9 pm9 cd9 ct9 : Value}
    {f10 : Addr} {od10 an10 : Option Addr} {sl10 : Array (Option Value)} {oc10 kV10 dc10 pm10 cd10 ct10 : Value}
    {f11 : Addr} {od11 an11 : Option Addr} {sl11 : Array (Option Value)} {oc11 kV11 dc11 pm11 cd11 ct11 : Value}
    {f12 : Addr} {od12 an12 : Option Addr} {sl12 : Array (Option Value)} {oc12 kV12 dc12 pm12 cd12 ct12 : Value}
    {f13 : Addr} {od13 an13 : Option Addr} {sl13 : Array (Option Value)} {oc13 kV13 dc13 pm13 cd13 ct13 : Value}
    {f14 : Addr} {od14 an14 : Option Addr} {sl14 : Array (Option Value)} {oc14 kV14 dc14 pm14 cd14 ct14 : Value}
    {f15 : Addr} {od15 an15 : Option Addr} {sl15 : Array (Option Value)} {oc15 kV15 dc15 pm15 cd15 ct15 : Value}
    {f16 : Addr} {od16 an16 : Option Addr} {sl16 : Array (Option Value)} {oc16 kV16 dc16 pm16 cd16 ct16 : Value}
    {f17 : Addr} {od17 an17 : Option Addr} {sl17 : Array (Option Value)} {oc17 kV17 dc17 pm17 cd17 ct17 : Value}
    {f18 : Addr} {od18 an18 : Option Addr} {sl18 : Array (Option Value)} {oc18 kV18 dc18 pm18 cd18 ct18 : Value}
    {f19 : Addr} {od19 an19 : Option Addr} {sl19 : Array (Option Value)} {oc19 kV19 dc19 pm19 cd19 ct19 : Value}
    {f20 : Addr} {od20 an20 : Option Addr} {sl20 : Array (Option Value)} {oc20 kV20 dc20 pm20 cd20 ct20 : Value}
    {f21 : Addr} {od21 an21 : Option Addr} {sl21 : Array (Option Value)} {oc21 kV21 dc21 pm21 cd21 ct21 : Value}
    {f22 : Addr} {od22 an22 : Option Addr} {sl22 : Array (Option Value)} {oc22 kV22 dc22 pm22 cd22 ct22 : Value}
    {f23 : Addr} {od23 an23 : Option Addr} {sl23 : Array (Option Value)} {oc23 kV23 dc23 pm23 cd23 ct23 : Value}
    {f24 : Addr} {od24 an24 : Option Addr} {sl24 : Array (Option Value)} {oc24 kV24 dc24 pm24 cd24 ct24 : Value}
    {f25 : Addr} {od25 an25 : Option Addr} {sl25 : Array (Option Value)} {oc25 kV25 dc25 pm25 cd25 ct25 : Value}
    {C0 : Addr}
    {cdt0 : ClassData}
    {t_MOST_LETTERS : Tok}
    {t_MOST_STANDS : Tok}
    {t_MOST_TEXT : Tok}
    {ffS0 : Addr}
    {ffS1 : Addr}
    {ffS2 : Addr}
    {ffS3 : Addr}
    {ffS4 : Addr}
    {ffS5 : Addr}
    {ffS6 : Addr}
    {d_SHOWN : Addr} {n_SHOWN : Nat} {hS0 hS1 hS2 hS3 hS4 hS5 hS6 hS7 : Int} {uS0 vS0 uS1 vS1 uS2 vS2 uS3 vS3 uS4 vS4 uS5 vS5 uS6 vS6 uS7 vS7 : Tok} {tS0 tS1 tS2 tS3 tS4 tS5 tS6 tS7 : Addr} {nS0 nS1 nS2 nS3 nS4 nS5 nS6 nS7 : Nat} {sS0 sS1 sS2 sS3 sS4 sS5 sS6 sS7 : Array (Option Value)}
    (aC0 : PySem.W.nsIn K mainGlobals "Machine" = some (some (.ref C0)))
    (pg0 : PySem.W.plainGet K C0 Str.empty = true)
    (hd0 : PySem.W.hasDictIn K C0 = true)
    (po0 : PySem.W.plainOver K C0 = true)
    (sa0 : PySem.W.findIn K (.ref C0) "__setattr__" = some (some (.builtin "object.__setattr__")))
    (ha0 : PySem.W.findIn K (.ref C0) "__class__" = some (some (.builtin "object.__class__")))
    (hn0 : PySem.W.specialIn K (.builtin "object.__class__") "__get__" = some (some (.builtin "getset_descriptor.__get__")))
    (ht0 : PySem.W.takesIn K (.builtin "object.__class__") = some true)
    (hm0 : PySem.W.mroIn K C0 (.type "object") = some true)
    (mk0 : PySem.W.makesIn K C0 = true)
    (kc0 : PySem.W.keepIn K (.ref C0) = true)
    (na0_letters : PySem.W.findIn K (.ref C0) "letters" = some none)
    (na0_arrows : PySem.W.findIn K (.ref C0) "arrows" = some none)
    (na0_ends : PySem.W.findIn K (.ref C0) "ends" = some none)
    (ii0_int : PySem.W.subIn K (.ref C0) (.type "int") = some false)
    (ii0_bool : PySem.W.subIn K (.ref C0) (.type "bool") = some false)
    (ii0_tuple : PySem.W.subIn K (.ref C0) (.type "tuple") = some false)
    (ii0_str : PySem.W.subIn K (.ref C0) (.type "str") = some false)
    (zcd0 : PySem.W.clsIn K C0 = some cdt0)
    (zty0 : PySem.W.typeIn K (.ref C0) = some (.type "type"))
    (kk0_NoneType : PySem.W.subIn K (.type "NoneType") (.ref C0) = some false)
    (kk0_bool : PySem.W.subIn K (.type "bool") (.ref C0) = some false)
    (kk0_int : PySem.W.subIn K (.type "int") (.ref C0) = some false)
    (kk0_str : PySem.W.subIn K (.type "str") (.ref C0) = some false)
    (kk0_tuple : PySem.W.subIn K (.type "tuple") (.ref C0) = some false)
    (kk0_list : PySem.W.subIn K (.type "list") (.ref C0) = some false)
    (kk0_dict : PySem.W.subIn K (.type "dict") (.ref C0) = some false)
    (a0 : PySem.W.nsIn K mainGlobals "_law_pour" = some (some (.ref f0)))
    (l0 : K.lookup f0 = some ⟨oc0, od0, .func (PySem.W.fnOf "_law_pour" "_law_pour" (defArgs s__law_pour) (defBody s__law_pour) (defScope s__law_pour) .none kV0 dc0 pm0 an0 cd0 ct0), sl0⟩)
    (e0 : PySem.W.codeIn K cd0 "_law_pour" = true)
    (k0 : PySem.W.keepIn K (.ref f0) = true)
    (a1 : PySem.W.nsIn K mainGlobals "_law_machine" = some (some (.ref f1)))
    (l1 : K.lookup f1 = some ⟨oc1, od1, .func (PySem.W.fnOf "_law_machine" "_law_machine" (defArgs s__law_machine) (defBody s__law_machine) (defScope s__law_machine) .none kV1 dc1 pm1 an1 cd1 ct1), sl1⟩)
    (e1 : PySem.W.codeIn K cd1 "_law_machine" = true)
    (k1 : PySem.W.keepIn K (.ref f1) = true)
    (a2 : PySem.W.nsIn K mainGlobals "is_between" = some (some (.ref f2)))
    (l2 : K.lookup f2 = some ⟨oc2, od2, .func (PySem.W.fnOf "is_between" "is_between" (defArgs s_is_between) (defBody s_is_between) (defScope s_is_between) .none kV2 dc2 pm2 an2 cd2 ct2), sl2⟩)
    (e2 : PySem.W.codeIn K cd2 "is_between" = true)
    (k2 : PySem.W.keepIn K (.ref f2) = true)
    (a3 : PySem.W.nsIn K mainGlobals "is_goal" = some (some (.ref f3)))
    (l3 : K.lookup f3 = some ⟨oc3, od3, .func (PySem.W.fnOf "is_goal" "is_goal" (defArgs s_is_goal) (defBody s_is_goal) (defScope s_is_goal) .none kV3 dc3 pm3 an3 cd3 ct3), sl3⟩)
    (e3 : PySem.W.codeIn K cd3 "is_goal" = true)
    (k3 : PySem.W.keepIn K (.ref f3) = true)
    (a4 : PySem.W.nsIn K mainGlobals "wrong_arrows" = some (some (.ref f4)))
    (l4 : K.lookup f4 = some ⟨oc4, od4, .func (PySem.W.fnOf "wrong_arrows" "wrong_arrows" (defArgs s_wrong_arrows) (defBody s_wrong_arrows) (defScope s_wrong_arrows) .none kV4 dc4 pm4 an4 cd4 ct4), sl4⟩)
    (e4 : PySem.W.codeIn K cd4 "wrong_arrows" = true)
    (k4 : PySem.W.keepIn K (.ref f4) = true)
    (a5 : PySem.W.nsIn K mainGlobals "wrong_end" = some (some (.ref f5)))
    (l5 : K.lookup f5 = some ⟨oc5, od5, .func (PySem.W.fnOf "wrong_end" "wrong_end" (defArgs s_wrong_end) (defBody s_wrong_end) (defScope s_wrong_end) .none kV5 dc5 pm5 an5 cd5 ct5), sl5⟩)
    (e5 : PySem.W.codeIn K cd5 "wrong_end" = true)
    (k5 : PySem.W.keepIn K (.ref f5) = true)
    (a6 : PySem.W.findIn K (.ref C0) "__init__" = some (some (.ref f6)))
    (i6 : PySem.W.isFn K (.ref f6) = true)
    (l6 : K.lookup f6 = some ⟨oc6, od6, .func (PySem.W.fnOf "__init__" "Machine.__init__" (defArgs s_Machine___init__) (defBody s_Machine___init__) (defScope s_Machine___init__) .none kV6 dc6 pm6 an6 cd6 ct6), sl6⟩)
    (e6 : PySem.W.codeIn K cd6 "Machine.__init__" = true)
    (k6 : PySem.W.keepIn K (.ref f6) = true)
    (a7 : PySem.W.nsIn K mainGlobals "_law_one_of" = some (some (.ref f7)))
    (l7 : K.lookup f7 = some ⟨oc7, od7, .func (PySem.W.fnOf "_law_one_of" "_law_one_of" (defArgs s__law_one_of) (defBody s__law_one_of) (defScope s__law_one_of) .none kV7 dc7 pm7 an7 cd7 ct7), sl7⟩)
    (e7 : PySem.W.codeIn K cd7 "_law_one_of" = true)
    (k7 : PySem.W.keepIn K (.ref f7) = true)
    (a8 : PySem.W.nsIn K mainGlobals "_law_count" = some (some (.ref f8)))
    (l8 : K.lookup f8 = some ⟨oc8, od8, .func (PySem.W.fnOf "_law_count" "_law_count" (defArgs s__law_count) (defBody s__law_count) (defScope s__law_count) .none kV8 dc8 pm8 an8 cd8 ct8), sl8⟩)
    (e8 : PySem.W.codeIn K cd8 "_law_count" = true)
    (k8 : PySem.W.keepIn K (.ref f8) = true)
    (a9 : PySem.W.nsIn K mainGlobals "check_machine" = some (some (.ref f9)))
    (l9 : K.lookup f9 = some ⟨oc9, od9, .func (PySem.W.fnOf "check_machine" "check_machine" (defArgs s_check_machine) (defBody s_check_machine) (defScope s_check_machine) .none kV9 dc9 pm9 an9 cd9 ct9), sl9⟩)
    (e9 : PySem.W.codeIn K cd9 "check_machine" = true)
    (k9 : PySem.W.keepIn K (.ref f9) = true)
    (a10 : PySem.W.nsIn K mainGlobals "check_length" = some (some (.ref f10)))
    (l10 : K.lookup f10 = some ⟨oc10, od10, .func (PySem.W.fnOf "check_length" "check_length" (defArgs s_check_length) (defBody s_check_length) (defScope s_check_length) .none kV10 dc10 pm10 an10 cd10 ct10), sl10⟩)
    (e10 : PySem.W.codeIn K cd10 "check_length" = true)
    (k10 : PySem.W.keepIn K (.ref f10) = true)
    (a11 : PySem.W.nsIn K mainGlobals "end_counts" = some (some (.ref f11)))
    (l11 : K.lookup f11 = some ⟨oc11, od11, .func (PySem.W.fnOf "end_counts" "end_counts" (defArgs s_end_counts) (defBody s_end_counts) (defScope s_end_counts) .none kV11 dc11 pm11 an11 cd11 ct11), sl11⟩)
    (e11 : PySem.W.codeIn K cd11 "end_counts" = true)
    (k11 : PySem.W.keepIn K (.ref f11) = true)
    (a12 : PySem.W.nsIn K mainGlobals "counts_before" = some (some (.ref f12)))
    (l12 : K.lookup f12 = some ⟨oc12, od12, .func (PySem.W.fnOf "counts_before" "counts_before" (defArgs s_counts_before) (defBody s_counts_before) (defScope s_counts_before) .none kV12 dc12 pm12 an12 cd12 ct12), sl12⟩)
    (e12 : PySem.W.codeIn K cd12 "counts_before" = true)
    (k12 : PySem.W.keepIn K (.ref f12) = true)
    (a13 : PySem.W.nsIn K mainGlobals "all_counts" = some (some (.ref f13)))
    (l13 : K.lookup f13 = some ⟨oc13, od13, .func (PySem.W.fnOf "all_counts" "all_counts" (defArgs s_all_counts) (defBody s_all_counts) (defScope s_all_counts) .none kV13 dc13 pm13 an13 cd13 ct13), sl13⟩)
    (e13 : PySem.W.codeIn K cd13 "all_counts" = true)
    (k13 : PySem.W.keepIn K (.ref f13) = true)
    (a14 : PySem.W.nsIn K mainGlobals "count_of" = some (some (.ref f14)))
    (l14 : K.lookup f14 = some ⟨oc14, od14, .func (PySem.W.fnOf "count_of" "count_of" (defArgs s_count_of) (defBody s_count_of) (defScope s_count_of) .none kV14 dc14 pm14 an14 cd14 ct14), sl14⟩)
    (e14 : PySem.W.codeIn K cd14 "count_of" = true)
    (k14 : PySem.W.keepIn K (.ref f14) = true)
    (a15 : PySem.W.nsIn K mainGlobals "told_of" = some (some (.ref f15)))
    (l15 : K.lookup f15 = some ⟨oc15, od15, .func (PySem.W.fnOf "told_of" "told_of" (defArgs s_told_of) (defBody s_told_of) (defScope s_told_of) .none kV15 dc15 pm15 an15 cd15 ct15), sl15⟩)
    (e15 : PySem.W.codeIn K cd15 "told_of" = true)
    (k15 : PySem.W.keepIn K (.ref f15) = true)
    (a16 : PySem.W.nsIn K mainGlobals "certify_count" = some (some (.ref f16)))
    (l16 : K.lookup f16 = some ⟨oc16, od16, .func (PySem.W.fnOf "certify_count" "certify_count" (defArgs s_certify_count) (defBody s_certify_count) (defScope s_certify_count) .none kV16 dc16 pm16 an16 cd16 ct16), sl16⟩)
    (e16 : PySem.W.codeIn K cd16 "certify_count" = true)
    (k16 : PySem.W.keepIn K (.ref f16) = true)
    (a17 : PySem.W.nsIn K mainGlobals "is_told" = some (some (.ref f17)))
    (l17 : K.lookup f17 = some ⟨oc17, od17, .func (PySem.W.fnOf "is_told" "is_told" (defArgs s_is_told) (defBody s_is_told) (defScope s_is_told) .none kV17 dc17 pm17 an17 cd17 ct17), sl17⟩)
    (e17 : PySem.W.codeIn K cd17 "is_told" = true)
    (k17 : PySem.W.keepIn K (.ref f17) = true)
    (a18 : PySem.W.nsIn K mainGlobals "is_integer" = some (some (.ref f18)))
    (l18 : K.lookup f18 = some ⟨oc18, od18, .func (PySem.W.fnOf "is_integer" "is_integer" (defArgs s_is_integer) (defBody s_is_integer) (defScope s_is_integer) .none kV18 dc18 pm18 an18 cd18 ct18), sl18⟩)
    (e18 : PySem.W.codeIn K cd18 "is_integer" = true)
    (k18 : PySem.W.keepIn K (.ref f18) = true)
    (a19 : PySem.W.nsIn K mainGlobals "is_empty" = some (some (.ref f19)))
    (l19 : K.lookup f19 = some ⟨oc19, od19, .func (PySem.W.fnOf "is_empty" "is_empty" (defArgs s_is_empty) (defBody s_is_empty) (defScope s_is_empty) .none kV19 dc19 pm19 an19 cd19 ct19), sl19⟩)
    (e19 : PySem.W.codeIn K cd19 "is_empty" = true)
    (k19 : PySem.W.keepIn K (.ref f19) = true)
    (a20 : PySem.W.nsIn K mainGlobals "made_of" = some (some (.ref f20)))
    (l20 : K.lookup f20 = some ⟨oc20, od20, .func (PySem.W.fnOf "made_of" "made_of" (defArgs s_made_of) (defBody s_made_of) (defScope s_made_of) .none kV20 dc20 pm20 an20 cd20 ct20), sl20⟩)
    (e20 : PySem.W.codeIn K cd20 "made_of" = true)
    (k20 : PySem.W.keepIn K (.ref f20) = true)
    (a21 : PySem.W.nsIn K mainGlobals "shows_count" = some (some (.ref f21)))
    (l21 : K.lookup f21 = some ⟨oc21, od21, .func (PySem.W.fnOf "shows_count" "shows_count" (defArgs s_shows_count) (defBody s_shows_count) (defScope s_shows_count) .none kV21 dc21 pm21 an21 cd21 ct21), sl21⟩)
    (e21 : PySem.W.codeIn K cd21 "shows_count" = true)
    (k21 : PySem.W.keepIn K (.ref f21) = true)
    (a22 : PySem.W.nsIn K mainGlobals "holds" = some (some (.ref f22)))
    (l22 : K.lookup f22 = some ⟨oc22, od22, .func (PySem.W.fnOf "holds" "holds" (defArgs s_holds) (defBody s_holds) (defScope s_holds) .none kV22 dc22 pm22 an22 cd22 ct22), sl22⟩)
    (e22 : PySem.W.codeIn K cd22 "holds" = true)
    (k22 : PySem.W.keepIn K (.ref f22) = true)
    (a23 : PySem.W.nsIn K mainGlobals "_law_right" = some (some (.ref f23)))
    (l23 : K.lookup f23 = some ⟨oc23, od23, .func (PySem.W.fnOf "_law_right" "_law_right" (defArgs s__law_right) (defBody s__law_right) (defScope s__law_right) .none kV23 dc23 pm23 an23 cd23 ct23), sl23⟩)
    (e23 : PySem.W.codeIn K cd23 "_law_right" = true)
    (k23 : PySem.W.keepIn K (.ref f23) = true)
    (a24 : PySem.W.nsIn K mainGlobals "_law_jug" = some (some (.ref f24)))
    (l24 : K.lookup f24 = some ⟨oc24, od24, .func (PySem.W.fnOf "_law_jug" "_law_jug" (defArgs s__law_jug) (defBody s__law_jug) (defScope s__law_jug) .none kV24 dc24 pm24 an24 cd24 ct24), sl24⟩)
    (e24 : PySem.W.codeIn K cd24 "_law_jug" = true)
    (k24 : PySem.W.keepIn K (.ref f24) = true)
    (a25 : PySem.W.nsIn K mainGlobals "law" = some (some (.ref f25)))
    (l25 : K.lookup f25 = some ⟨oc25, od25, .func (PySem.W.fnOf "law" "law" (defArgs s_law) (defBody s_law) (defScope s_law) .none kV25 dc25 pm25 an25 cd25 ct25), sl25⟩)
    (e25 : PySem.W.codeIn K cd25 "law" = true)
    (k25 : PySem.W.keepIn K (.ref f25) = true)
    (g_MOST_LETTERS : PySem.W.nsIn K mainGlobals "MOST_LETTERS" = some (some (.int 5 t_MOST_LETTERS)))
    (g_MOST_STANDS : PySem.W.nsIn K mainGlobals "MOST_STANDS" = some (some (.int 8 t_MOST_STANDS)))
    (g_MOST_TEXT : PySem.W.nsIn K mainGlobals "MOST_TEXT" = some (some (.int 300 t_MOST_TEXT)))
    (g_SHOWN : PySem.W.nsIn K mainGlobals "SHOWN" = some (some (.ref d_SHOWN)))
    (q_SHOWN : K.lookup d_SHOWN = some ⟨.type "dict", none, .dict #[⟨hS0, .str "agree" uS0, .ref tS0⟩, ⟨hS1, .str "differ" uS1, .ref tS1⟩, ⟨hS2, .str "same" uS2, .ref tS2⟩, ⟨hS3, .str "apart" uS3, .ref tS3⟩, ⟨hS4, .str "lengths" uS4, .ref tS4⟩, ⟨hS5, .str "readable" uS5, .ref tS5⟩, ⟨hS6, .str "clash" uS6, .ref tS6⟩, ⟨hS7, .str "count" uS7, .ref tS7⟩] n_SHOWN, #[]⟩)
    (qS0 : K.lookup tS0 = some ⟨.type "tuple", none, .seq #[.int 4 vS0, .ref ffS0] nS0, sS0⟩)
    (qS1 : K.lookup tS1 = some ⟨.type "tuple", none, .seq #[.int 4 vS1, .ref ffS1] nS1, sS1⟩)
    (qS2 : K.lookup tS2 = some ⟨.type "tuple", none, .seq #[.int 3 vS2, .ref ffS2] nS2, sS2⟩)
    (qS3 : K.lookup tS3 = some ⟨.type "tuple", none, .seq #[.int 3 vS3, .ref ffS3] nS3, sS3⟩)
    (qS4 : K.lookup tS4 = some ⟨.type "tuple", none, .seq #[.int 4 vS4, .ref ffS4] nS4, sS4⟩)
    (qS5 : K.lookup tS5 = some ⟨.type "tuple", none, .seq #[.int 3 vS5, .ref ffS5] nS5, sS5⟩)
    (qS6 : K.lookup tS6 = some ⟨.type "tuple", none, .seq #[.int 3 vS6, .ref ffS6] nS6, sS6⟩)
    (qS7 : K.lookup tS7 = some ⟨.type "tuple", none, .seq #[.int 4 vS7, .ref f21] nS7, sS7⟩)
    (lit_SHOWN : PySem.W.KeysLit W.params (List.map rowE [(hS0, "agree", uS0, .ref tS0), (hS1, "differ", uS1, .ref tS1), (hS2, "same", uS2, .ref tS2), (hS3, "apart", uS3, .ref tS3), (hS4, "lengths", uS4, .ref tS4), (hS5, "readable", uS5, .ref tS5), (hS6, "clash", uS6, .ref tS6), (hS7, "count", uS7, .ref tS7)]))
    (low_SHOWN : (d_SHOWN == sysModules) = false)
    (z_abs : PySem.W.nsIn K mainGlobals "abs" = some none)
    (z_all : PySem.W.nsIn K mainGlobals "all" = some none)
    (z_bool : PySem.W.nsIn K mainGlobals "bool" = some none)
    (z_divmod : PySem.W.nsIn K mainGlobals "divmod" = some none)
    (z_enumerate : PySem.W.nsIn K mainGlobals "enumerate" = some none)
    (z_int : PySem.W.nsIn K mainGlobals "int" = some none)
    (z_isinstance : PySem.W.nsIn K mainGlobals "isinstance" = some none)
    (z_len : PySem.W.nsIn K mainGlobals "len" = some none)
    (z_max : PySem.W.nsIn K mainGlobals "max" = some none)
    (z_min : PySem.W.nsIn K mainGlobals "min" = some none)
    (z_range : PySem.W.nsIn K mainGlobals "range" = some none)
    (z_repr : PySem.W.nsIn K mainGlobals "repr" = some none)
    (z_str : PySem.W.nsIn K mainGlobals "str" = some none)
    (z_sum : PySem.W.nsIn K mainGlobals "sum" = some none)
    (z_tuple : PySem.W.nsIn K mainGlobals "tuple" = some none)
    : ∃ fd : FuncData, (∀ (s : Shared) (v : Value), BindsTo s fd ⟨[v], []⟩ [("_law_cells", v)]) ∧ ∀ base : Heap, K.In base → base.Ns mainGlobals mg → ∃ w : Wo, w.K = K ∧ FnM l.prog W w mg base CX0 exF 10 fa fd ["_law_cells"] m_law := by
  cases hfa.symm.trans (PySem.W.mg_of KX G a25)
  let T : Tx W ⟨K, fun c => if c = 0 then some C0 else none, gvOf [(0, d_SHOWN), (1, ffS0), (2, ffS1), (3, ffS2), (4, ffS3), (5, ffS4), (6, ffS5), (7, ffS6), (8, f21)]⟩ mg := {
    gvn := gvn_of (l := [(0, d_SHOWN), (1, ffS0), (2, ffS1), (3, ffS2), (4, ffS3), (5, ffS4), (6, ffS5), (7, ffS6), (8, f21)])
    d_SHOWN := d_SHOWN
    g_SHOWN := PySem.W.mg_of KX G g_SHOWN
    vd_SHOWN := rfl
    kt_SHOWN := ktab_of (n := n_SHOWN) (rs := [(hS0, "agree", uS0, .ref tS0), (hS1, "differ", uS1, .ref tS1), (hS2, "same", uS2, .ref tS2), (hS3, "apart", uS3, .ref tS3), (hS4, "lengths", uS4, .ref tS4), (hS5, "readable", uS5, .ref tS5), (hS6, "clash", uS6, .ref tS6), (hS7, "count", uS7, .ref tS7)]) rfl q_SHOWN lit_SHOWN low_SHOWN (.cons (by decide +kernel) (v := .ref tS0) rfl (fun _ _ _ => gtup qS0 (by exact (by decide : 2 ≤ 1000)) (vs := [.int 4, .ref ffS0]) (.cons ⟨vS0, rfl⟩ (.cons rfl .nil)) (.cons (.int _) (.cons (.gl rfl) .nil))) (.cons (by decide +kernel) (v := .ref tS1) rfl (fun _ _ _ => gtup qS1 (by exact (by decide : 2 ≤ 1000)) (vs := [.int 4, .ref ffS1]) (.cons ⟨vS1, rfl⟩ (.cons rfl .nil)) (.cons (.int _) (.cons (.gl rfl) .nil))) (.cons (by decide +kernel) (v := .ref tS2) rfl (fun _ _ _ => gtup qS2 (by exact (by decide : 2 ≤ 1000)) (vs := [.int 3, .ref ffS2]) (.cons ⟨vS2, rfl⟩ (.cons rfl .nil)) (.cons (.int _) (.cons (.gl rfl) .nil))) (.cons (by decide +kernel) (v := .ref tS3) rfl (fun _ _ _ => gtup qS3 (by exact (by decide : 2 ≤ 1000)) (vs := [.int 3, .ref ffS3]) (.cons ⟨vS3, rfl⟩ (.cons rfl .nil)) (.cons (.int _) (.cons (.gl rfl) .nil))) (.cons (by decide +kernel) (v := .ref tS4) rfl (fun _ _ _ => gtup qS4 (by exact (by decide : 2 ≤ 1000)) (vs := [.int 4, .ref ffS4]) (.cons ⟨vS4, rfl⟩ (.cons rfl .nil)) (.cons (.int _) (.cons (.gl rfl) .nil))) (.cons (by decide +kernel) (v := .ref tS5) rfl (fun _ _ _ => gtup qS5 (by exact (by decide : 2 ≤ 1000)) (vs := [.int 3, .ref ffS5]) (.cons ⟨vS5, rfl⟩ (.cons rfl .nil)) (.cons (.int _) (.cons (.gl rfl) .nil))) (.cons (by decide +kernel) (v := .ref tS6) rfl (fun _ _ _ => gtup qS6 (by exact (by decide : 2 ≤ 1000)) (vs := [.int 3, .ref ffS6]) (.cons ⟨vS6, rfl⟩ (.cons rfl .nil)) (.cons (.int _) (.cons (.gl rfl) .nil))) (.cons (by decide +kernel) (v := .ref tS7) rfl (fun _ _ _ => gtup qS7 (by exact (by decide : 2 ≤ 1000)) (vs := [.int 4, .ref f21]) (.cons ⟨vS7, rfl⟩ (.cons rfl .nil)) (.cons (.int _) (.cons (.gl rfl) .nil))) (.nil)))))))))
    gv_shows_count := rfl
    nn_Desk := rfl
    nn_Console := rfl
    nn_Kept := rfl
    nn_Trial := rfl
    nn_Run := rfl
    nn_Paths := rfl
    nn_Readings := rfl
    nn_InputError := rfl
    nn_StateError := rfl
    nn_SizeError := rfl
    nn_NotAMachine := rfl
    nn_NotADesk := rfl
    nn_InvalidText := rfl
    nn_InvalidCount := rfl
    nn_InvalidLetter := rfl
    nn_InvalidStand := rfl
    nn_InvalidWord := rfl
    nn_InvalidLine := rfl
    nn_InvalidArrows := rfl
    nn_InvalidEnds := rfl
    nn_InvalidBook := rfl
    nn_InvalidTexts := rfl
    nn_InvalidDeeds := rfl
    nn_NothingToUndo := rfl
    nn_Busy := rfl
    nn_TooMany := rfl
    a__law_pour := f0
    fd__law_pour := _
    F__law_pour := fun_mk (st := s__law_pour) l0 e0 k0
    g__law_pour := PySem.W.mg_of KX G a0
    a__law_machine := f1
    fd__law_machine := _
    F__law_machine := fun_mk (st := s__law_machine) l1 e1 k1
    g__law_machine := PySem.W.mg_of KX G a1
    a_is_between := f2
    fd_is_between := _
    F_is_between := fun_mk (st := s_is_between) l2 e2 k2
    g_is_between := PySem.W.mg_of KX G a2
    a_is_goal := f3
    fd_is_goal := _
    F_is_goal := fun_mk (st := s_is_goal) l3 e3 k3
    g_is_goal := PySem.W.mg_of KX G a3
    a_wrong_arrows := f4
    fd_wrong_arrows := _
    F_wrong_arrows := fun_mk (st := s_wrong_arrows) l4 e4 k4
    g_wrong_arrows := PySem.W.mg_of KX G a4
    a_wrong_end := f5
    fd_wrong_end := _
    F_wrong_end := fun_mk (st := s_wrong_end) l5 e5 k5
    g_wrong_end := PySem.W.mg_of KX G a5
    a_Machine___init__ := f6
    fd_Machine___init__ := _
    F_Machine___init__ := fun_mk (st := s_Machine___init__) l6 e6 k6
    a__law_one_of := f7
    fd__law_one_of := _
    F__law_one_of := fun_mk (st := s__law_one_of) l7 e7 k7
    g__law_one_of := PySem.W.mg_of KX G a7
    a__law_count := f8
    fd__law_count := _
    F__law_count := fun_mk (st := s__law_count) l8 e8 k8
    g__law_count := PySem.W.mg_of KX G a8
    a_check_machine := f9
    fd_check_machine := _
    F_check_machine := fun_mk (st := s_check_machine) l9 e9 k9
    g_check_machine := PySem.W.mg_of KX G a9
    a_check_length := f10
    fd_check_length := _
    F_check_length := fun_mk (st := s_check_length) l10 e10 k10
    g_check_length := PySem.W.mg_of KX G a10
    a_end_counts := f11
    fd_end_counts := _
    F_end_counts := fun_mk (st := s_end_counts) l11 e11 k11
    g_end_counts := PySem.W.mg_of KX G a11
    a_counts_before := f12
    fd_counts_before := _
    F_counts_before := fun_mk (st := s_counts_before) l12 e12 k12
    g_counts_before := PySem.W.mg_of KX G a12
    a_all_counts := f13
    fd_all_counts := _
    F_all_counts := fun_mk (st := s_all_counts) l13 e13 k13
    g_all_counts := PySem.W.mg_of KX G a13
    a_count_of := f14
    fd_count_of := _
    F_count_of := fun_mk (st := s_count_of) l14 e14 k14
    g_count_of := PySem.W.mg_of KX G a14
    a_told_of := f15
    fd_told_of := _
    F_told_of := fun_mk (st := s_told_of) l15 e15 k15
    g_told_of := PySem.W.mg_of KX G a15
    a_certify_count := f16
    fd_certify_count := _
    F_certify_count := fun_mk (st := s_certify_count) l16 e16 k16
    g_certify_count := PySem.W.mg_of KX G a16
    a_is_told := f17
    fd_is_told := _
    F_is_told := fun_mk (st := s_is_told) l17 e17 k17
    g_is_told := PySem.W.mg_of KX G a17
    a_is_integer := f18
    fd_is_integer := _
    F_is_integer := fun_mk (st := s_is_integer) l18 e18 k18
    g_is_integer := PySem.W.mg_of KX G a18
    a_is_empty := f19
    fd_is_empty := _
    F_is_empty := fun_mk (st := s_is_empty) l19 e19 k19
    g_is_empty := PySem.W.mg_of KX G a19
    a_made_of := f20
    fd_made_of := _
    F_made_of := fun_mk (st := s_made_of) l20 e20 k20
    g_made_of := PySem.W.mg_of KX G a20
    a_shows_count := f21
    fd_shows_count := _
    F_shows_count := fun_mk (st := s_shows_count) l21 e21 k21
    g_shows_count := PySem.W.mg_of KX G a21
    a_holds := f22
    fd_holds := _
    F_holds := fun_mk (st := s_holds) l22 e22 k22
    g_holds := PySem.W.mg_of KX G a22
    a__law_right := f23
    fd__law_right := _
    F__law_right := fun_mk (st := s__law_right) l23 e23 k23
    g__law_right := PySem.W.mg_of KX G a23
    a__law_jug := f24
    fd__law_jug := _
    F__law_jug := fun_mk (st := s__law_jug) l24 e24 k24
    g__law_jug := PySem.W.mg_of KX G a24
    a_law := fa
    fd_law := _
    F_law := fun_mk (st := s_law) l25 e25 k25
    g_law := PySem.W.mg_of KX G a25
    t_MOST_LETTERS := t_MOST_LETTERS
    g_MOST_LETTERS := PySem.W.mg_of KX G g_MOST_LETTERS
    t_MOST_STANDS := t_MOST_STANDS
    g_MOST_STANDS := PySem.W.mg_of KX G g_MOST_STANDS
    t_MOST_TEXT := t_MOST_TEXT
    g_MOST_TEXT := PySem.W.mg_of KX G g_MOST_TEXT
    c_Machine := C0
    g_Machine := PySem.W.mg_of KX G aC0
    n_Machine := rfl
    cl_Machine := ⟨pg0, hd0, po0, sa0⟩
    ci_Machine := ⟨⟨pg0, hd0, po0, sa0⟩, ha0, hn0, ht0, hm0⟩
    mk_Machine := ⟨mk0, a6, i6, kc0⟩
    na_Machine_letters := na0_letters
    na_Machine_arrows := na0_arrows
    na_Machine_ends := na0_ends
    i_Machine_int := kit_ct (by decide +kernel) ii0_int
    i_Machine_bool := kit_ct (by decide +kernel) ii0_bool
    i_Machine_tuple := kit_ct (by decide +kernel) ii0_tuple
    i_Machine_str := kit_ct (by decide +kernel) ii0_str
    k_Machine_NoneType := kit_tc zcd0 zty0 kk0_NoneType
    k_Machine_bool := kit_tc zcd0 zty0 kk0_bool
    k_Machine_int := kit_tc zcd0 zty0 kk0_int
    k_Machine_str := kit_tc zcd0 zty0 kk0_str
    k_Machine_tuple := kit_tc zcd0 zty0 kk0_tuple
    k_Machine_list := kit_tc zcd0 zty0 kk0_list
    k_Machine_dict := kit_tc zcd0 zty0 kk0_dict
    i_Machine_Machine := kit_cc
    z_abs := PySem.W.mg_none_of KX G z_abs
    z_all := PySem.W.mg_none_of KX G z_all
    z_bool := PySem.W.mg_none_of KX G z_bool
    z_divmod := PySem.W.mg_none_of KX G z_divmod
    z_enumerate := PySem.W.mg_none_of KX G z_enumerate
    z_int := PySem.W.mg_none_of KX G z_int
    z_isinstance := PySem.W.mg_none_of KX G z_isinstance
    z_len := PySem.W.mg_none_of KX G z_len
    z_max := PySem.W.mg_none_of KX G z_max
    z_min := PySem.W.mg_none_of KX G z_min
    z_range := PySem.W.mg_none_of KX G z_range
    z_repr := PySem.W.mg_none_of KX G z_repr
    z_str := PySem.W.mg_none_of KX G z_str
    z_sum := PySem.W.mg_none_of KX G z_sum
    z_tuple := PySem.W.mg_none_of KX G z_tuple
  }
  exact ⟨T.fd_law, fun s v => .of_eq rfl, fun base _ _ => ⟨_, rfl, w_law T⟩⟩
end K55

end
section
set_option maxRecDepth 100000
set_option maxHeartbeats 4000000
namespace MC
open PySem L2

theorem nd {α : Sort _} {a b : α} (e : a = b) : a = b := e
/-- so that simp leaves Q alone -/
inductive Dm {α : Type} (Q : α → PH → Prop) : Type where
  | mk
/-- it ends well, and with Q -/
def Ws {α : Type} (r : R α) (Q : α → PH → Prop) (_ : Dm Q := .mk) : Prop := ∃ a h, r = .ok a h ∧ Q a h
/-- one of two, both left alone by simp -/
@[reducible] def RS {β : Type} (_ _ : R β) : Type := R β
def sel {β : Type} (c : Bool) (a b : R β) : RS a b := bif c then a else b
@[simp] theorem sel_true {β : Type} {a b : R β} : sel true a b = a := nd rfl
@[simp] theorem sel_false {β : Type} {a b : R β} : sel false a b = b := nd rfl
theorem Ws.bind {α β : Type} {r : R α} {f : α → PH → R β} {P : α → PH → Prop} {Q : β → PH → Prop} (w : Ws r P) (i : ∀ a h, P a h → Ws (f a h) Q) : Ws (r.bind f) Q := by
  obtain ⟨a, h, e, p⟩ := w
  rw [e]
  exact i a h p
theorem Ws.mono {α : Type} {r : R α} {P Q : α → PH → Prop} (w : Ws r P) (i : ∀ a h, P a h → Q a h) : Ws r Q := by
  obtain ⟨a, h, e, p⟩ := w
  exact ⟨a, h, e, i a h p⟩
@[simp] theorem Ws_ok {α : Type} {a : α} {h : PH} {Q : α → PH → Prop} : Ws (.ok a h) Q ↔ Q a h :=
  ⟨fun ⟨_, _, e, q⟩ => by cases e; exact q, fun q => ⟨a, h, rfl, q⟩⟩
@[simp] theorem Ws_stuck {α : Type} {Q : α → PH → Prop} : Ws (.stuck : R α) Q ↔ False := ⟨fun ⟨_, _, e, _⟩ => (by cases e), False.elim⟩
theorem Ws.eq {α : Type} {r : R α} {a : α} {h : PH} {Q : α → PH → Prop} (e : r = .ok a h) (q : Q a h) : Ws r Q := ⟨a, h, e, q⟩

section
variable {α β : Type} {env : En} {h : PH} {x : PV} {xs : List PV}
@[simp] theorem bind_ok {a : α} {f : α → PH → R β} : (R.ok a h).bind f = f a h := nd rfl
@[simp] theorem bind_st {f : α → PH → R β} : (R.stuck : R α).bind f = .stuck := nd rfl
@[simp] theorem noX_ok {a : α} : noX (R.ok a h) = .ok a h := nd rfl
@[simp] theorem e_nil : mNil env h = .ok (.nx env) h := nd rfl
@[simp] theorem e_seq {a b : MS} : mSeq a b env h = (a env h).bind fun f h1 => match f with
  | .nx e => b e h1
  | .rt v => .ok (.rt v) h1
  | .bk e => .ok (.bk e) h1
  | .ct e => .ok (.ct e) h1 := nd rfl
@[simp] theorem e_set {i : Nat} {m : ME} : mSet i m env h = (m env h).bind fun x h1 => .ok (.nx (env.set i (some x))) h1 := nd rfl
@[simp] theorem e_drop {m : ME} : mDrop m env h = (m env h).bind fun _ h1 => .ok (.nx env) h1 := nd rfl
@[simp] theorem e_ret {m : ME} : mRet m env h = (m env h).bind fun x h1 => .ok (.rt x) h1 := nd rfl
@[simp] theorem e_retN : mRetN env h = .ok (.rt .non) h := nd rfl
@[simp] theorem e_ifS {t : MT} {a b : MS} : mIfS t a b env h = (t env h).bind fun c h1 => sel c (a env h1) (b env h1) := nd rfl
@[simp] theorem e_break : mBreak env h = .ok (.bk env) h := nd rfl
@[simp] theorem e_cont : mCont env h = .ok (.ct env) h := nd rfl
@[simp] theorem e_asg {m : ME} {g : MG} : mAsg m g env h = (m env h).bind fun x h1 => (g x env h1).bind fun e h2 => .ok (.nx e) h2 := nd rfl
@[simp] theorem e_gname {i : Nat} : gName' i x env h = .ok (env.set i (some x)) h := nd rfl
@[simp] theorem e_gsnil : gsNil [] env h = .ok env h := nd rfl
@[simp] theorem e_gscons {g : MG} {gs : MGs} : gsCons g gs (x :: xs) env h = (g x env h).bind fun e h1 => gs xs e h1 := nd rfl
@[simp] theorem e_gtup {n : Nat} {gs : MGs} : gTup' n gs (.tup xs) env h = sel (xs.length == n) (gs xs env h) .stuck := nd rfl
@[simp] theorem e_par {i j : Nat} {ma mb : ME} : mPar i j ma mb env h = (ma env h).bind fun x h1 => (mb env h1).bind fun y h2 => .ok (.nx ((env.set i (some x)).set j (some y))) h2 := nd rfl
@[simp] theorem e_par3 {i j l : Nat} {ma mb mc : ME} : mPar3 i j l ma mb mc env h = (ma env h).bind fun x h1 => (mb env h1).bind fun y h2 => (mc env h2).bind fun z h3 => .ok (.nx (((env.set i (some x)).set j (some y)).set l (some z))) h3 := nd rfl
@[simp] theorem e_fun {n : Nat} {b : MS} : mFun n b xs h = (b (xs.map some ++ List.replicate (n - xs.length) none) h).bind fun f h1 => match f with
  | .nx _ => .ok .non h1
  | .rt v => .ok v h1
  | _ => .stuck := nd rfl
@[simp] theorem e_var {i : Nat} : mVar i env h = match env[i]? with
  | some (some x) => .ok x h
  | _ => .stuck := nd rfl
@[simp] theorem e_c : mC x env h = .ok x h := nd rfl
@[simp] theorem e_manil : maNil env h = .ok [] h := nd rfl
@[simp] theorem e_macons {m : ME} {ms : MA} : maCons m ms env h = (m env h).bind fun x h1 => (ms env h1).bind fun xs h2 => .ok (x :: xs) h2 := nd rfl
@[simp] theorem e_tup {ms : MA} : mTup ms env h = (ms env h).bind fun xs h1 => if xs.length ≤ LIM then .ok (.tup xs) h1 else .stuck := nd rfl
@[simp] theorem e_lst {ms : MA} : mLst ms env h = (ms env h).bind fun xs h1 => if xs.length ≤ LIM then .ok (.ref h1.length) (h1 ++ [.lst xs]) else .stuck := nd rfl
@[simp] theorem e_op {op : O2} {ma mb : ME} : mOp op ma mb env h = (ma env h).bind fun x h1 => (mb env h1).bind fun y h2 => op h2 x y := nd rfl
@[simp] theorem e_un {op : O1} {ma : ME} : mUn op ma env h = (ma env h).bind fun x h1 => op h1 x := nd rfl
@[simp] theorem e_tb {m : ME} : mTB m env h = asB (m env h) := nd rfl
@[simp] theorem e_asb {r : R PV} : asB r = r.bind fun x h => match x with
  | .bl b => .ok b h
  | _ => .stuck := nd rfl
@[simp] theorem e_tru {m : ME} : mTru m env h = (m env h).bind fun x h1 => match truth h1 x with
  | some b => .ok b h1
  | none => .stuck := nd rfl
@[simp] theorem e_and {a b : MT} : mAnd a b env h = (a env h).bind fun c h1 => sel c (b env h1) (.ok false h1) := nd rfl
@[simp] theorem e_or {a b : MT} : mOr a b env h = (a env h).bind fun c h1 => sel c (.ok true h1) (b env h1) := nd rfl
@[simp] theorem e_not {a : MT} : mNot a env h = (a env h).bind fun c h1 => .ok (!c) h1 := nd rfl
@[simp] theorem e_if {t : MT} {a b : ME} : mIf t a b env h = (t env h).bind fun c h1 => sel c (a env h1) (b env h1) := nd rfl
@[simp] theorem e_andV {a b : ME} : mAndV a b env h = (a env h).bind fun x h1 => match x with
  | .bl c => sel c (b env h1) (.ok (.bl false) h1)
  | _ => .stuck := nd rfl
@[simp] theorem e_orV {a b : ME} : mOrV a b env h = (a env h).bind fun x h1 => match x with
  | .bl c => sel c (.ok (.bl true) h1) (b env h1)
  | _ => .stuck := nd rfl
@[simp] theorem e_notV {a : ME} : mNotV a env h = (a env h).bind fun x h1 => match x with
  | .bl c => .ok (.bl (!c)) h1
  | _ => .stuck := nd rfl
@[simp] theorem e_ch {f g : O2} {ma mb mc : ME} : mCh f g ma mb mc env h = (ma env h).bind fun x h1 => (mb env h1).bind fun y h2 => (f h2 x y).bind fun z h3 => match z with
  | .bl true => (mc env h3).bind fun u h4 => g h4 y u
  | .bl false => .ok (.bl false) h3
  | _ => .stuck := nd rfl
@[simp] theorem e_cl0 {op : OC} {n : Nat} {ma : MA} : mCl0 op n ma env h = (ma env h).bind fun xs h1 => sel (xs.length == n) (op h1 xs) .stuck := nd rfl
@[simp] theorem e_cl {op : OC} {n j : Nat} {ma mk : MA} : mCl op n j ma mk env h = (ma env h).bind fun xs h1 => (mk env h1).bind fun ys h2 => sel (xs.length == n && ys.length == j) (op h2 (xs ++ ys)) .stuck := nd rfl
@[simp] theorem e_bt {op : OC} {ma : MA} : mBt op ma env h = (ma env h).bind fun xs h1 => op h1 xs := nd rfl
@[simp] theorem e_bm {ty : Nat} {op : OC} {mo : ME} {ma : MA} : mBM ty op mo ma env h = (mo env h).bind fun x h1 => sel (isTy h1 ty x) ((ma env h1).bind fun xs h2 => op h2 (x :: xs)) .stuck := nd rfl
@[simp] theorem e_opF {m : MF} {ix : List Nat} {dp : List PV} : opF m ix dp h xs = callG takeBack m (gI ix (xs ++ dp)) h := nd rfl
@[simp] theorem e_opC {c : Nat} {m : MF} {ix : List Nat} {dp : List PV} : opC c m ix dp h xs = callG takeFrz (initM c m ix dp) xs h := nd rfl
@[simp] theorem e_sl {m : ME} {l u : MO} : mSl m l u env h = (m env h).bind fun x h1 => (l env h1).bind fun lo h2 => (u env h2).bind fun hi h3 => opSl h3 x lo hi := nd rfl
@[simp] theorem e_monone : moNone env h = .ok none h := nd rfl
@[simp] theorem e_mosome {m : ME} : moSome m env h = (m env h).bind fun x h1 => match x with
  | .int i => .ok (some i) h1
  | _ => .stuck := nd rfl
@[simp] theorem e_for {mi : MI} {g : MG} {b : MS} : mFor mi g b env h = (mi env h).bind fun p h1 => forL g b p.2 p.1 env h1 := nd rfl
@[simp] theorem e_miV {m : ME} : miV m env h = (m env h).bind fun x h1 => match srcV h1 x with
  | some p => .ok p h1
  | none => srcD h1 x := nd rfl
@[simp] theorem e_rng1 {ma : MA} : miRng1 ma env h = (ma env h).bind fun xs h1 => match xs with
  | [.int j] => bif inR j then .ok (seqI 0 j.toNat, []) h1 else .stuck
  | _ => .stuck := nd rfl
@[simp] theorem e_enum {ma : MA} : miEnum ma env h = (ma env h).bind fun xs h1 => match xs with
  | [x] => match seqP h1 x with
    | some ys => .ok (numbered 0 ys, wtOf ys x) h1
    | none => .stuck
  | _ => .stuck := nd rfl
@[simp] theorem e_zip {ma : MA} : miZip ma env h = (ma env h).bind fun xs h1 => match xs with
  | [x, y] => match x, y with
    | .tup xs, .tup ys => .ok (pairs xs ys, []) h1
    | x, y => match lstP h1 x, lstP h1 y with
      | some xs, some ys => .ok (pairs xs ys, wtOf xs x ++ wtOf ys y) h1
      | _, _ => .stuck
  | _ => .stuck := nd rfl
@[simp] theorem e_lc {mi : MI} {g : Tg} {t : MT} {m : ME} {vs : List Nat} : mLc mi g t m vs env h = (mi env h).bind fun p h1 => lcL g t m p.2 (wipeE env vs) p.1 [] h1 := nd rfl
@[simp] theorem e_yes : mYes env h = .ok true h := nd rfl
@[simp] theorem e_gsub {op : O3} {mo mi : ME} : gSubM op mo mi x env h = (mo env h).bind fun o h1 => (mi env h1).bind fun i h2 => (op h2 o i x).bind fun _ h3 => .ok env h3 := nd rfl
@[simp] theorem e_setF {cs : List Nat} {f : Nm} {mo me : ME} : mSetF cs f mo me env h = (me env h).bind fun v h1 => (mo env h1).bind fun o h2 => match o with
  | .ref n => match h2[n]? with
    | some (.ins c fs) => bif cs.contains c && decide (fs.length < 1000) then .ok (.nx env) (h2.set n (.ins c (putP f v fs))) else .stuck
    | _ => .stuck
  | _ => .stuck := nd rfl
@[simp] theorem e_fld {cs : List Nat} {f : Nm} {m : ME} : mFld cs f m env h = (m env h).bind fun x h1 => match fldsOf h1 x with
  | some (c, fs) => bif cs.contains c then (match lookF f fs with
    | some v => .ok v h1
    | none => .stuck) else .stuck
  | none => .stuck := nd rfl
@[simp] theorem e_isi {tb cs : List (Nat × Bool)} {m : ME} : mIsi tb cs m env h = (m env h).bind fun x h1 => match kindP h1 x with
  | some k => match isiT tb cs k with
    | some b => .ok (.bl b) h1
    | none => .stuck
  | none => .stuck := nd rfl
@[simp] theorem e_rev {m : ME} : mRev m env h = (m env h).bind fun x h1 => match x with
  | .str s => bif decide (s.length ≤ LIM) then .ok (.str s.reverse) h1 else .stuck
  | x => match lstP h1 x with
    | some ys => .ok (.ref h1.length) (h1 ++ [.lst ys.reverse])
    | none => .stuck := nd rfl
@[simp] theorem e_aug {i : Nat} {op : O2} {me : ME} : mAug i op me env h = match env[i]? with
  | some (some x) => (me env h).bind fun y h1 => (op h1 x y).bind fun z h2 => .ok (.nx (env.set i (some z))) h2
  | _ => .stuck := nd rfl
@[simp] theorem v_add {i j : Int} : opAdd h (.int i) (.int j) = .ok (.int (i + j)) h := nd rfl
@[simp] theorem v_addS {a b : List Nat} : opAdd h (.str a) (.str b) = bif decide (a.length + b.length ≤ LIM) then .ok (.str (a ++ b)) h else .stuck := nd rfl
@[simp] theorem v_addT {a b : List PV} : opAdd h (.tup a) (.tup b) = bif decide (a.length + b.length ≤ LIM) then .ok (.tup (a ++ b)) h else .stuck := nd rfl
@[simp] theorem v_sub {i j : Int} : opSub h (.int i) (.int j) = .ok (.int (i - j)) h := nd rfl
theorem v_mul {i j : Int} (c : (-(2 ^ 64) < i ∧ i < 2 ^ 64) ∨ (-(2 ^ 64) < j ∧ j < 2 ^ 64)) : opMul h (.int i) (.int j) = .ok (.int (i * j)) h := by
  have : ((decide (-(2 ^ 64) < i) && decide (i < 2 ^ 64)) || (decide (-(2 ^ 64) < j) && decide (j < 2 ^ 64))) = true := by simpa using c
  show (bif (decide (-(2 ^ 64) < i) && decide (i < 2 ^ 64)) || (decide (-(2 ^ 64) < j) && decide (j < 2 ^ 64)) then (R.ok (.int (i * j)) h : R PV) else .stuck) = _
  rw [this]; rfl
@[simp] theorem v_mod {i j : Int} : opMod h (.int i) (.int j) = bif decide (0 < j) then .ok (.int (i % j)) h else .stuck := nd rfl
@[simp] theorem v_fdiv {i j : Int} : opFdiv h (.int i) (.int j) = bif decide (0 < j) && decide (j < 1073741824) then .ok (.int (i / j)) h else .stuck := nd rfl
@[simp] theorem v_neg {i : Int} {g : Int → Int} : unI g h (.int i) = .ok (.int (g i)) h := nd rfl
@[simp] theorem v_lt {i j : Int} : opLt h (.int i) (.int j) = .ok (.bl (decide (i < j))) h := nd rfl
@[simp] theorem v_le {i j : Int} : opLe h (.int i) (.int j) = .ok (.bl (decide (i ≤ j))) h := nd rfl
@[simp] theorem v_gt {i j : Int} : opGt h (.int i) (.int j) = .ok (.bl (decide (j < i))) h := nd rfl
@[simp] theorem v_ge {i j : Int} : opGe h (.int i) (.int j) = .ok (.bl (decide (j ≤ i))) h := nd rfl
@[simp] theorem v_is {neg : Bool} : opIs neg h x .non = .ok (.bl (bif neg then !isNon x else isNon x)) h := nd rfl
@[simp] theorem v_bint {i : Int} : bInt h [.int i] = .ok (.int i) h := nd rfl
@[simp] theorem v_babs {i : Int} : bAbs h [.int i] = .ok (.int (if i < 0 then -i else i)) h := nd rfl
@[simp] theorem v_bmax {i j : Int} : bMax2 h [.int i, .int j] = .ok (.int (if j > i then j else i)) h := nd rfl
@[simp] theorem v_bmin {i j : Int} : bMin2 h [.int i, .int j] = .ok (.int (if j < i then j else i)) h := nd rfl
@[simp] theorem v_bdm {i j : Int} : bDivmod h [.int i, .int j] = bif decide (0 < j) && decide (j < B30) then .ok (.tup [.int (i / j), .int (i % j)]) h else .stuck := nd rfl
@[simp] theorem v_btup {ys : List PV} : bTuple h [.tup ys] = .ok (.tup ys) h := nd rfl
@[simp] theorem v_btupR {n : Nat} {ys : List PV} (e : h[n]? = some (.lst ys)) : bTuple h [.ref n] = .ok (.tup ys) h := by
  show (match seqP h (.ref n) with
    | some ys => R.ok (PV.tup ys) h
    | none => .stuck) = _
  have : seqP h (.ref n) = some ys := by simp [seqP, e]
  rw [this]
end
end MC

end
section
set_option maxRecDepth 100000
set_option maxHeartbeats 4000000
namespace MC
open PySem L2

mutual
theorem ren_no (f : Nat → Option Nat) : ∀ x : PV, noRef x = true → renV f x = some x
  | .non, _ | .bl _, _ | .int _, _ | .str _, _ | .gl _, _ => by unfold renV; rfl
  | .tup xs, h => by unfold renV; rw [rens_no f xs (by unfold noRef at h; exact h)]
  | .scr xs, h => by unfold renV; rw [rens_no f xs (by unfold noRef at h; exact h)]
  | .rdic xs, h => by unfold renV; rw [renk_no f xs (by unfold noRef at h; exact h)]
  | .ins c fs, h => by unfold renV; rw [renf_no f fs (by unfold noRef at h; exact h)]
  | .ref n, h => by unfold noRef at h; cases h
theorem rens_no (f : Nat → Option Nat) : ∀ x : List PV, noRefs x = true → renVs f x = some x
  | [], _ => by unfold renVs; rfl
  | x :: xs, h => by
    unfold noRefs at h
    rw [Bool.and_eq_true] at h
    unfold renVs
    rw [ren_no f x h.1, rens_no f xs h.2]
theorem renk_no (f : Nat → Option Nat) : ∀ x : List (PV × PV), noRefK x = true → renK f x = some x
  | [], _ => by unfold renK; rfl
  | (k, x) :: xs, h => by
    unfold noRefK at h
    rw [Bool.and_eq_true, Bool.and_eq_true] at h
    unfold renK
    rw [ren_no f x h.2.1, renk_no f xs h.2.2]
theorem renf_no (f : Nat → Option Nat) : ∀ x : List (Nm × PV), noRefF x = true → renF f x = some x
  | [], _ => by unfold renF; rfl
  | (k, x) :: xs, h => by
    unfold noRefF at h
    rw [Bool.and_eq_true] at h
    unfold renF
    rw [ren_no f x h.1, renf_no f xs h.2]
end
mutual
theorem refs_no : ∀ x : PV, noRef x = true → refsV x = []
  | .non, _ | .bl _, _ | .int _, _ | .str _, _ | .gl _, _ => by unfold refsV; rfl
  | .tup xs, h => by unfold refsV; exact refss_no xs (by unfold noRef at h; exact h)
  | .scr xs, h => by unfold refsV; exact refss_no xs (by unfold noRef at h; exact h)
  | .rdic xs, h => by unfold refsV; exact refsk_no xs (by unfold noRef at h; exact h)
  | .ins c fs, h => by unfold refsV; exact refsf_no fs (by unfold noRef at h; exact h)
  | .ref n, h => by unfold noRef at h; cases h
theorem refss_no : ∀ x : List PV, noRefs x = true → refsVs x = []
  | [], _ => by unfold refsVs; rfl
  | x :: xs, h => by
    unfold noRefs at h
    rw [Bool.and_eq_true] at h
    unfold refsVs
    rw [refs_no x h.1, refss_no xs h.2]; rfl
theorem refsk_no : ∀ x : List (PV × PV), noRefK x = true → refsK x = []
  | [], _ => by unfold refsK; rfl
  | (k, x) :: xs, h => by
    unfold noRefK at h
    rw [Bool.and_eq_true, Bool.and_eq_true] at h
    unfold refsK
    first
      | rw [refs_no x h.2.1, refsk_no xs h.2.2]; rfl
      | simp [refs_no x h.2.1, refsk_no xs h.2.2, refs_no k h.1]
theorem refsf_no : ∀ x : List (Nm × PV), noRefF x = true → refsF x = []
  | [], _ => by unfold refsF; rfl
  | (k, x) :: xs, h => by
    unfold noRefF at h
    rw [Bool.and_eq_true] at h
    unfold refsF
    rw [refs_no x h.1, refsf_no xs h.2]; rfl
end
section
variable {m : MF} {xs : List PV} {h g : PH} {v : PV} {j k : Nat}
theorem reach0 (h : PH) : reach h FUEL [] [] = some [] := by unfold FUEL; rfl
theorem reach1 {o : PO} (e : h[j]? = some o) (r : refsO o = []) : reach h FUEL [j] [] = some [j] := by
  show reach h (398 + 1 + 1) [j] [] = _
  unfold reach
  simp only [List.contains_nil, cond_false, e, r, List.append_nil, List.nil_append]
  unfold reach
  rfl
theorem reach2 {o p : PO} (e : h[j]? = some o) (r : refsO o = []) (e2 : h[k]? = some p) (r2 : refsO p = []) (ne : j ≠ k) : reach h FUEL [j, k] [] = some [j, k] := by
  show reach h (397 + 1 + 1 + 1) [j, k] [] = _
  unfold reach
  simp only [List.contains_nil, cond_false, e, r, List.append_nil, List.nil_append]
  unfold reach
  have c : [j].contains k = false := by simp [Ne.symm ne]
  simp only [c, cond_false, e2, r2, List.append_nil]
  unfold reach
  rfl
theorem call_pure (hx : noRefs xs = true) (hm : m xs [] = .ok v g) (hv : noRef v = true) : callG takeBack m xs h = .ok v h := by
  have e1 : reach g FUEL (refsVs [v] ++ List.range ([] : List Nat).length) [] = some [] := by
    have : refsVs [v] = [] := refss_no [v] (by unfold noRefs; rw [hv]; rfl)
    rw [this]; exact reach0 g
  have e2 : takeBack h [] v g = .ok v h := by
    have : takeL h [] [v] g = some ([], [v], h) := by
      unfold takeL
      rw [e1]
      show (match renVs (backF [] (newsOf [] []) h.length) [v], (some [] : Option (List PO)), (some [] : Option (List PO)) with
        | some us, some os, some ns => some (newsOf [] [], us, setAll h [] os ++ ns)
        | _, _, _ => none) = _
      rw [rens_no _ [v] (by unfold noRefs; rw [hv]; rfl)]
      simp [setAll, newsOf]
    unfold takeBack
    rw [this]
  unfold callG
  rw [refss_no xs hx, reach0]
  show (match renVs (idx []) xs, (some [] : Option PH) with
    | some as, some hc => _
    | _, _ => _) = _
  rw [rens_no _ xs hx]
  simp only [hm]
  exact e2
theorem flatO_of {ys : List PV} (hy : noRefs ys = true) : refsO (.lst ys) = [] ∧ ∀ f, renO f (.lst ys) = some (.lst ys) := by
  refine ⟨by unfold refsO; exact refss_no ys hy, fun f => ?_⟩
  simp only [renO, rens_no f ys hy]
theorem idx_hd : idx [j] j = some 0 := by unfold idx; simp
theorem call_one {ys zs : List PV} (hj : h[j]? = some (.lst ys)) (hy : noRefs ys = true) (hx : noRefs xs = true) (hm : m (.ref 0 :: xs) [.lst ys] = .ok v g) (hg : g[0]? = some (.lst zs)) (hz : noRefs zs = true) (hv : noRef v = true) :
    callG takeBack m (.ref j :: xs) h = .ok v (h.set j (.lst zs)) := by
  obtain ⟨y1, y2⟩ := flatO_of hy
  obtain ⟨z1, z2⟩ := flatO_of hz
  have v1 : noRefs [v] = true := by unfold noRefs; rw [hv]; rfl
  have e2 : takeBack h [j] v g = .ok v (h.set j (.lst zs)) := by
    have : takeL h [j] [v] g = some ([], [v], h.set j (.lst zs)) := by
      unfold takeL
      have r0 : reach g FUEL (refsVs [v] ++ List.range [j].length) [] = some [0] := by
        rw [refss_no [v] v1]; exact reach1 hg z1
      rw [r0]
      have n0 : newsOf [j] [0] = [] := by simp [newsOf]
      simp only [n0]
      rw [rens_no _ [v] v1]
      have p0 : mapO (pick g (backF [j] [] h.length)) (List.range [j].length) = some [.lst zs] := by
        show mapO _ [0] = _
        simp [mapO, pick, hg, z2]
      rw [p0]
      simp [mapO, setAll]
    unfold takeBack
    rw [this]
  unfold callG
  have rr : refsVs (.ref j :: xs) = [j] := by unfold refsVs refsV; rw [refss_no xs hx]; rfl
  rw [rr, reach1 hj y1]
  have a0 : renVs (idx [j]) (.ref j :: xs) = some (.ref 0 :: xs) := by
    unfold renVs
    rw [rens_no _ xs hx]
    unfold renV
    rw [idx_hd]
  have h0 : mapO (pick h (idx [j])) [j] = some [.lst ys] := by simp [mapO, pick, hj, y2]
  simp only [a0, h0, hm]
  exact e2
theorem call_two {ys zs us ws : List PV} (hj : h[j]? = some (.lst ys)) (hy : noRefs ys = true) (hk : h[k]? = some (.lst us)) (hu : noRefs us = true) (ne : j ≠ k) (hx : noRefs xs = true) (hm : m (.ref 0 :: .ref 1 :: xs) [.lst ys, .lst us] = .ok v g) (hg : g[0]? = some (.lst zs)) (hz : noRefs zs = true)
    (hg2 : g[1]? = some (.lst ws)) (hw : noRefs ws = true) (hv : noRef v = true) : callG takeBack m (.ref j :: .ref k :: xs) h = .ok v ((h.set j (.lst zs)).set k (.lst ws)) := by
  obtain ⟨y1, y2⟩ := flatO_of hy
  obtain ⟨z1, z2⟩ := flatO_of hz
  obtain ⟨u1, u2⟩ := flatO_of hu
  obtain ⟨w1, w2⟩ := flatO_of hw
  have v1 : noRefs [v] = true := by unfold noRefs; rw [hv]; rfl
  have e2 : takeBack h [j, k] v g = .ok v ((h.set j (.lst zs)).set k (.lst ws)) := by
    have : takeL h [j, k] [v] g = some ([], [v], (h.set j (.lst zs)).set k (.lst ws)) := by
      unfold takeL
      have r0 : reach g FUEL (refsVs [v] ++ List.range [j, k].length) [] = some [0, 1] := by
        rw [refss_no [v] v1]; exact reach2 (j := 0) (k := 1) hg z1 hg2 w1 (Nat.ne_of_lt Nat.one_pos)
      rw [r0]
      have n0 : newsOf [j, k] [0, 1] = [] := by simp [newsOf]
      simp only [n0]
      rw [rens_no _ [v] v1]
      have p0 : mapO (pick g (backF [j, k] [] h.length)) (List.range [j, k].length) = some [.lst zs, .lst ws] := by
        show mapO _ [0, 1] = _
        simp [mapO, pick, hg, z2, hg2, w2]
      rw [p0]
      simp [mapO, setAll]
    unfold takeBack
    rw [this]
  unfold callG
  have rr : refsVs (.ref j :: .ref k :: xs) = [j, k] := by unfold refsVs refsV refsVs refsV; rw [refss_no xs hx]; rfl
  rw [rr, reach2 hj y1 hk u1 ne]
  have i0 : idx [j, k] j = some 0 := by unfold idx; simp
  have i1 : idx [j, k] k = some 1 := by
    unfold idx
    have : (j == k) = false := beq_eq_false_iff_ne.mpr ne
    simp [this, idx]
  have a0 : renVs (idx [j, k]) (.ref j :: .ref k :: xs) = some (.ref 0 :: .ref 1 :: xs) := by
    unfold renVs renVs
    rw [rens_no _ xs hx]
    unfold renV
    rw [i0, i1]
  have h0 : mapO (pick h (idx [j, k])) [j, k] = some [.lst ys, .lst us] := by simp [mapO, pick, hj, y2, hk, u2]
  simp only [a0, h0, hm]
  exact e2
theorem call_newl {ys : List PV} {i : Nat} (hx : noRefs xs = true) (hm : m xs [] = .ok (.ref i) g) (hg : g[i]? = some (.lst ys)) (hy : noRefs ys = true) : callG takeBack m xs h = .ok (.ref h.length) (h ++ [.lst ys]) := by
  obtain ⟨y1, y2⟩ := flatO_of hy
  have e2 : takeBack h [] (.ref i) g = .ok (.ref h.length) (h ++ [.lst ys]) := by
    have : takeL h [] [.ref i] g = some ([i], [.ref h.length], h ++ [.lst ys]) := by
      unfold takeL
      have r0 : reach g FUEL (refsVs [.ref i] ++ List.range ([] : List Nat).length) [] = some [i] := by
        have : refsVs [PV.ref i] = [i] := by unfold refsVs refsV refsVs; rfl
        rw [this]; exact reach1 hg y1
      rw [r0]
      have n0 : newsOf [] [i] = [i] := by simp [newsOf]
      simp only [n0]
      have b0 : backF [] [i] h.length i = some h.length := by simp [backF, idx_hd]
      have p0 : renVs (backF [] [i] h.length) [PV.ref i] = some [.ref h.length] := by unfold renVs renVs renV; rw [b0]
      rw [p0]
      have q0 : mapO (pick g (backF [] [i] h.length)) [i] = some [.lst ys] := by simp [mapO, pick, hg, y2]
      rw [q0]
      simp [mapO, setAll]
    unfold takeBack
    rw [this]
  unfold callG
  rw [refss_no xs hx, reach0]
  show (match renVs (idx []) xs, (some [] : Option PH) with
    | some as, some hc => _
    | _, _ => _) = _
  rw [rens_no _ xs hx]
  simp only [hm]
  exact e2
theorem zip_fs : ∀ fs : List (Nm × PV), (fs.map (·.1)).zip (fs.map (·.2)) = fs
  | [] => rfl
  | (a, b) :: r => by simp [zip_fs r]
theorem call_frz {c i : Nat} {fs : List (Nm × PV)} (hx : noRefs xs = true) (hm : m xs [] = .ok (.ref i) g) (hg : g[i]? = some (.ins c fs)) (hf : noRefs (fs.map (·.2)) = true) : callG takeFrz m xs h = .ok (.ins c fs) h := by
  have e2 : takeFrz h [] (.ref i) g = .ok (.ins c fs) h := by
    have : takeL h [] (fs.map (·.2)) g = some ([], fs.map (·.2), h) := by
      unfold takeL
      have r0 : reach g FUEL (refsVs (fs.map (·.2)) ++ List.range ([] : List Nat).length) [] = some [] := by
        rw [refss_no _ hf]; exact reach0 g
      rw [r0]
      show (match renVs (backF [] (newsOf [] []) h.length) (fs.map (·.2)), (some [] : Option (List PO)), (some [] : Option (List PO)) with
        | some us, some os, some ns => some (newsOf [] [], us, setAll h [] os ++ ns)
        | _, _, _ => none) = _
      rw [rens_no _ _ hf]
      simp [setAll, newsOf]
    unfold takeFrz
    simp only [hg, this]
    simp [zip_fs]
  unfold callG
  rw [refss_no xs hx, reach0]
  show (match renVs (idx []) xs, (some [] : Option PH) with
    | some as, some hc => _
    | _, _ => _) = _
  rw [rens_no _ xs hx]
  simp only [hm]
  exact e2
end
end MC
namespace MC
open PySem L2
@[simp] theorem Ws_noX {α : Type} {r : R α} {Q : α → PH → Prop} : Ws (noX r) Q ↔ Ws r Q := by
  cases r with
  | ok a h => exact Iff.rfl
  | exc c fs h => exact ⟨fun ⟨_, _, e, _⟩ => (by cases e), fun ⟨_, _, e, _⟩ => (by cases e)⟩
  | stuck => exact Iff.rfl
/-- behind a turn -/
def turnQ (I : En → PH → Prop) (Q : Fl → PH → Prop) : Fl → PH → Prop := fun f h => match f with
  | .nx e => I e h
  | .ct e => I e h
  | .bk e => Q (.nx e) h
  | .rt v => Q (.rt v) h
@[simp] theorem turn_nx {I : En → PH → Prop} {Q : Fl → PH → Prop} {e : En} {h : PH} : turnQ I Q (.nx e) h = I e h := nd rfl
@[simp] theorem turn_ct {I : En → PH → Prop} {Q : Fl → PH → Prop} {e : En} {h : PH} : turnQ I Q (.ct e) h = I e h := nd rfl
@[simp] theorem turn_bk {I : En → PH → Prop} {Q : Fl → PH → Prop} {e : En} {h : PH} : turnQ I Q (.bk e) h = Q (.nx e) h := nd rfl
@[simp] theorem turn_rt {I : En → PH → Prop} {Q : Fl → PH → Prop} {v : PV} {h : PH} : turnQ I Q (.rt v) h = Q (.rt v) h := nd rfl
theorem Ws_for {g : MG} {b : MS} {wt : Wt} {Q : Fl → PH → Prop} : ∀ {xs : List PV} (I : Nat → En → PH → Prop) {env : En} {h : PH}, I 0 env h → (∀ i env h, I i env h → watch wt h = true) →
    (∀ i x env h, xs[i]? = some x → I i env h → Ws (g x env h) fun e h1 => Ws (b e h1) (turnQ (I (i + 1)) Q)) → (∀ env h, I xs.length env h → Q (.nx env) h) → Ws (forL g b wt xs env h) Q
  | [], I, env, h, h0, hw, _, hd => by
    unfold forL
    rw [hw 0 env h h0]
    exact Ws_ok.mpr (hd env h h0)
  | x :: xs, I, env, h, h0, hw, hs, hd => by
    unfold forL
    rw [hw 0 env h h0, cond_true]
    refine Ws.bind (hs 0 x env h rfl h0) fun e h1 w => Ws.bind w fun f h2 q => ?_
    have go : ∀ e2, I 1 e2 h2 → Ws (forL g b wt xs e2 h2) Q := fun e2 q => Ws_for (fun i => I (i + 1)) q (fun i => hw (i + 1)) (fun i x env h e => hs (i + 1) x env h (by simpa using e)) hd
    cases f with
    | nx e2 => exact go e2 q
    | ct e2 => exact go e2 q
    | bk e2 => exact Ws_ok.mpr q
    | rt v => exact Ws_ok.mpr q
theorem Ws_lc {g : Tg} {t : MT} {m : ME} {wt : Wt} {e0 : En} {Q : PV → PH → Prop} : ∀ {xs : List PV} (I : Nat → List PV → PH → Prop) {acc : List PV} {h : PH}, I 0 acc h → (∀ i acc h, I i acc h → watch wt h = true) →
    (∀ i x acc h, xs[i]? = some x → I i acc h → ∃ e, tgM g x e0 = some e ∧ Ws (t e h) fun c h1 => bif c then Ws (m e h1) (fun y h2 => acc.length < LIM ∧ I (i + 1) (acc ++ [y]) h2) else I (i + 1) acc h1) →
    (∀ acc h, I xs.length acc h → Q (.ref h.length) (h ++ [.lst acc])) → Ws (lcL g t m wt e0 xs acc h) Q
  | [], I, acc, h, h0, hw, _, hd => by
    unfold lcL
    rw [hw 0 acc h h0]
    exact Ws_ok.mpr (hd acc h h0)
  | x :: xs, I, acc, h, h0, hw, hs, hd => by
    unfold lcL
    rw [hw 0 acc h h0, cond_true]
    obtain ⟨e, he, w⟩ := hs 0 x acc h rfl h0
    rw [he]
    have go : ∀ acc2 h2, I 1 acc2 h2 → Ws (lcL g t m wt e0 xs acc2 h2) Q := fun acc2 h2 q => Ws_lc (fun i => I (i + 1)) q (fun i => hw (i + 1)) (fun i x acc h e => hs (i + 1) x acc h (by simpa using e)) hd
    refine Ws.bind (Ws_noX.mpr w) fun c h1 q => ?_
    cases c with
    | false => exact go acc h1 q
    | true =>
      refine Ws.bind (Ws_noX.mpr q) fun y h2 ⟨hl, q2⟩ => ?_
      rw [decide_eq_true hl]
      exact go _ _ q2
end MC
namespace MC
open PySem L2
@[simp] theorem gI_nil {α : Type} {l : List α} : gI [] l = [] := nd rfl
@[simp] theorem gI_cons {α : Type} {i : Nat} {ix : List Nat} {l : List α} : gI (i :: ix) l = match l[i]? with
  | some x => x :: gI ix l
  | none => gI ix l := by
  unfold gI
  rw [List.filterMap_cons]
  cases l[i]? <;> rfl
section
variable {h : PH}
@[simp] theorem v_eqI {i j : Int} : opEq h (.int i) (.int j) = .ok (.bl (decide (i = j))) h := by
  have : (i == j) = decide (i = j) := by by_cases e : i = j <;> simp [e]
  show (bif SeqAt.shaped (.int i) && SeqAt.shaped (.int j) then (R.ok (.bl (PyData.eqv (.int i) (.int j))) h : R PV) else .stuck) = _
  simp [SeqAt.shaped, PyData.eqv, PyData.canLay0, PyData.depth, this]
@[simp] theorem v_neI {i j : Int} : opNe h (.int i) (.int j) = .ok (.bl (!decide (i = j))) h := by
  have : (i == j) = decide (i = j) := by by_cases e : i = j <;> simp [e]
  show (bif SeqAt.shaped (.int i) && SeqAt.shaped (.int j) then (R.ok (.bl (!PyData.eqv (.int i) (.int j))) h : R PV) else .stuck) = _
  simp [SeqAt.shaped, PyData.eqv, PyData.canLay0, PyData.depth, this]
theorem call_pureW {m : MF} {xs : List PV} {v : PV} (hx : noRefs xs = true) (hm : Ws (m xs []) fun u _ => u = v) (hv : noRef v = true) : callG takeBack m xs h = .ok v h := by
  obtain ⟨u, g, e, rfl⟩ := hm
  exact call_pure hx e hv
/-- a comprehension whose items are f of the source's -/
theorem Ws_map {g : Tg} {m : ME} {e0 : En} {Q : PV → PH → Prop} (f : PV → PV) (J : PH → Prop) {xs : List PV} (j0 : J h) (hl : xs.length ≤ LIM) (hs : ∀ x ∈ xs, ∀ h, J h → ∃ e, tgM g x e0 = some e ∧ Ws (m e h) fun y h' => y = f x ∧ J h')
    (hd : ∀ h0, J h0 → Q (.ref h0.length) (h0 ++ [.lst (xs.map f)])) : Ws (lcL g mYes m [] e0 xs [] h) Q := by
  refine Ws_lc (fun i acc h => i ≤ xs.length ∧ acc = (xs.take i).map f ∧ J h) ⟨Nat.zero_le _, rfl, j0⟩ (fun _ _ _ _ => rfl) (fun i x acc h e ⟨hi, ea, jh⟩ => ?_) fun acc h ⟨_, ea, jh⟩ => ?_
  · have hlt := (List.getElem?_eq_some_iff.mp e).1
    obtain ⟨e1, t1, w⟩ := hs x (List.mem_of_getElem? e) h jh
    refine ⟨e1, t1, ?_⟩
    rw [e_yes, Ws_ok, cond_true]
    refine w.mono fun y h' ⟨ey, jh'⟩ => ⟨?_, hlt, ?_, jh'⟩
    · subst ea
      rw [List.length_map, List.length_take]
      omega
    · subst ea; subst ey
      rw [List.take_add_one, e, List.map_append]; rfl
  · subst ea
    rw [List.take_length]
    exact hd h jh
/-- .. whose items keep P -/
theorem Ws_mapP {g : Tg} {m : ME} {e0 : En} {Q : PV → PH → Prop} (P : PV → Prop) (J : PH → Prop) {xs : List PV} (j0 : J h) (hl : xs.length ≤ LIM) (hs : ∀ x ∈ xs, ∀ h, J h → ∃ e, tgM g x e0 = some e ∧ Ws (m e h) fun y h' => P y ∧ J h')
    (hd : ∀ h0 ys, J h0 → ys.length = xs.length → (∀ y ∈ ys, P y) → Q (.ref h0.length) (h0 ++ [.lst ys])) : Ws (lcL g mYes m [] e0 xs [] h) Q := by
  refine Ws_lc (fun i acc h => i ≤ xs.length ∧ acc.length = i ∧ (∀ y ∈ acc, P y) ∧ J h) ⟨Nat.zero_le _, rfl, (fun _ z => nomatch z), j0⟩ (fun _ _ _ _ => rfl) (fun i x acc h e ⟨hi, ea, ha, jh⟩ => ?_) fun acc h ⟨_, ea, ha, jh⟩ => hd h acc jh ea ha
  have hlt := (List.getElem?_eq_some_iff.mp e).1
  obtain ⟨e1, t1, w⟩ := hs x (List.mem_of_getElem? e) h jh
  refine ⟨e1, t1, ?_⟩
  rw [e_yes, Ws_ok, cond_true]
  refine w.mono fun y h' ⟨ey, jh'⟩ => ⟨by omega, hlt, by simp [ea], fun z hz => ?_, jh'⟩
  rcases List.mem_append.mp hz with q | q
  · exact ha z q
  · rw [List.mem_singleton.mp q]; exact ey
theorem bls_true : ∀ n : Nat, blsP (List.replicate n (PV.bl true)) = some (List.replicate n true)
  | 0 => rfl
  | n + 1 => by simp [List.replicate_succ, blsP, bls_true n]
theorem all_last {ys : List PV} {bs : List Bool} (e : blsP ys = some bs) : bAll (h ++ [PO.lst ys]) [PV.ref h.length] = .ok (PV.bl (bs.all id)) (h ++ [PO.lst ys]) := by
  have : lstP (h ++ [PO.lst ys]) (.ref h.length) = some ys := by simp [lstP]
  simp only [bAll, this, e]
end
end MC
namespace MC
open PySem L2
section
variable {α β γ : Type} {h : PH} {x y : PV}
@[simp] theorem bind_asc {r : R α} {f : α → PH → R β} {g : β → PH → R γ} : (r.bind f).bind g = r.bind fun a h => (f a h).bind g := by cases r <;> rfl
@[simp] theorem src_tup {xs : List PV} : srcV h (.tup xs) = some (xs, []) := nd rfl
@[simp] theorem src_scr {xs : List PV} : srcV h (.scr xs) = some (xs, []) := nd rfl
@[simp] theorem src_str {s : List Nat} : srcV h (.str s) = some (signsOf s, []) := nd rfl
theorem src_ref {n : Nat} {xs : List PV} (e : h[n]? = some (.lst xs)) : srcV h (.ref n) = some (xs, [(n, xs)]) := by simp [srcV, e]
@[simp] theorem seq_tup {xs : List PV} : seqP h (.tup xs) = some xs := nd rfl
@[simp] theorem wt_tup {xs ys : List PV} : wtOf ys (.tup xs) = [] := nd rfl
@[simp] theorem wt_ref {n : Nat} {ys : List PV} : wtOf ys (.ref n) = [(n, ys)] := nd rfl
@[simp] theorem kd_non : kindP h .non = some (.inl 0) := nd rfl
@[simp] theorem kd_bl {b : Bool} : kindP h (.bl b) = some (.inl 1) := nd rfl
@[simp] theorem kd_int {i : Int} : kindP h (.int i) = some (.inl 2) := nd rfl
@[simp] theorem kd_str {s : List Nat} : kindP h (.str s) = some (.inl 3) := nd rfl
@[simp] theorem kd_tup {s : List PV} : kindP h (.tup s) = some (.inl 4) := nd rfl
@[simp] theorem kd_ins {c : Nat} {fs : List (Nm × PV)} : kindP h (.ins c fs) = some (.inr c) := nd rfl
@[simp] theorem tr_non : truth h .non = some false := nd rfl
@[simp] theorem tr_bl {b : Bool} : truth h (.bl b) = some b := nd rfl
@[simp] theorem tr_int {i : Int} : truth h (.int i) = some (i != 0) := nd rfl
@[simp] theorem len_tup {xs : List PV} : bLen h [.tup xs] = .ok (.int xs.length) h := nd rfl
theorem len_str {s : List Nat} (e : s.length ≤ LIM) : bLen h [.str s] = .ok (.int s.length) h := by
  show (bif decide (s.length ≤ LIM) then R.ok (PV.int s.length) h else .stuck) = _
  rw [decide_eq_true e]; rfl
theorem len_ref {n : Nat} {xs : List PV} (e : h[n]? = some (.lst xs)) : bLen h [.ref n] = .ok (.int xs.length) h := by simp [bLen, seqP, e]
@[simp] theorem fld_ins {c : Nat} {fs : List (Nm × PV)} : fldsOf h (.ins c fs) = some (c, fs) := nd rfl
@[simp] theorem ty_str {s : List Nat} : isTy h 0 (.str s) = true := nd rfl
theorem ty_lst {n : Nat} {xs : List PV} (e : h[n]? = some (.lst xs)) : isTy h 1 (.ref n) = true := by simp [isTy, lstP, e]
@[simp] theorem nn_non : MC.isNon .non = true := nd rfl
@[simp] theorem nn_int {i : Int} : MC.isNon (.int i) = false := nd rfl
@[simp] theorem nn_tup {i : List PV} : MC.isNon (.tup i) = false := nd rfl
@[simp] theorem nn_str {i : List Nat} : MC.isNon (.str i) = false := nd rfl
theorem mapB {g : Tg} {m : ME} {e0 : En} {Q : β → PH → Prop} {k : PV → PH → R β} (f : PV → PV) (J : PH → Prop) {xs : List PV} (j0 : J h) (hl : xs.length ≤ LIM) (hs : ∀ x ∈ xs, ∀ h, J h → ∃ e, tgM g x e0 = some e ∧ Ws (m e h) fun y h' => y = f x ∧ J h')
    (hd : ∀ h0, J h0 → Ws (k (.ref h0.length) (h0 ++ [.lst (xs.map f)])) Q) : Ws ((lcL g mYes m [] e0 xs [] h).bind k) Q :=
  Ws.bind (Ws_map (Q := fun v h' => ∃ h0, J h0 ∧ v = .ref h0.length ∧ h' = h0 ++ [.lst (xs.map f)]) f J j0 hl hs fun h0 j => ⟨h0, j, rfl, rfl⟩) fun v h' ⟨h0, j, e1, e2⟩ => by rw [e1, e2]; exact hd h0 j
theorem mapPB {g : Tg} {m : ME} {e0 : En} {Q : β → PH → Prop} {k : PV → PH → R β} (P : PV → Prop) (J : PH → Prop) {xs : List PV} (j0 : J h) (hl : xs.length ≤ LIM) (hs : ∀ x ∈ xs, ∀ h, J h → ∃ e, tgM g x e0 = some e ∧ Ws (m e h) fun y h' => P y ∧ J h')
    (hd : ∀ h0 ys, J h0 → ys.length = xs.length → (∀ y ∈ ys, P y) → Ws (k (.ref h0.length) (h0 ++ [.lst ys])) Q) : Ws ((lcL g mYes m [] e0 xs [] h).bind k) Q :=
  Ws.bind (Ws_mapP (Q := fun v h' => ∃ h0 ys, J h0 ∧ ys.length = xs.length ∧ (∀ y ∈ ys, P y) ∧ v = .ref h0.length ∧ h' = h0 ++ [.lst ys]) P J j0 hl hs fun h0 ys j l p => ⟨h0, ys, j, l, p, rfl, rfl⟩) fun v h' ⟨h0, ys, j, l, p, e1, e2⟩ => by rw [e1, e2]; exact hd h0 ys j l p
theorem forB {g : MG} {b : MS} {wt : Wt} {Q : β → PH → Prop} {k : Fl → PH → R β} {xs : List PV} (I : Nat → En → PH → Prop) {env : En} (h0 : I 0 env h) (hw : ∀ i env h, I i env h → watch wt h = true)
    (hs : ∀ i x env h, xs[i]? = some x → I i env h → Ws (g x env h) fun e h1 => Ws (b e h1) (turnQ (I (i + 1)) fun f h => Ws (k f h) Q)) (hd : ∀ env h, I xs.length env h → Ws (k (.nx env) h) Q) : Ws ((forL g b wt xs env h).bind k) Q :=
  Ws.bind (Ws_for I h0 hw hs hd) fun _ _ q => q
end
end MC

end
section
set_option maxRecDepth 100000
set_option maxHeartbeats 4000000
namespace MC
open PySem L2
section
variable {h : PH} {n : Nat}
theorem str_len_app (a b : Str) : (a ++ b).length = a.length + b.length := by
  show (a.cps ++ b.cps).size = _
  simp [Str.length]
theorem textFrom_le : ∀ (ts : List Str) (k : Nat) (acc : Str), (textFrom k acc ts).length ≤ acc.length + ((ts.map fun t => t.length + 2).sum)
  | [], k, acc => by show acc.length ≤ acc.length + 0; omega
  | t :: r, k, acc => by
    have ih := textFrom_le r (k + 1) (acc ++ (if k > 0 then ", " else "" : String) ++ t)
    have e : (acc ++ (if k > 0 then ", " else "" : String) ++ t).length ≤ acc.length + 2 + t.length := by
      rw [str_len_app, str_len_app]
      have : ((if k > 0 then ", " else "" : String) : Str).length ≤ 2 := by split <;> decide +kernel
      omega
    show (textFrom (k + 1) (acc ++ (if k > 0 then ", " else "" : String) ++ t) r).length ≤ _
    rw [List.map_cons, List.sum_cons]
    omega
theorem listText_le (ts : List Str) : (listText ts).length ≤ 2 + ((ts.map fun t => t.length + 2).sum) := by
  unfold listText
  rw [str_len_app]
  have h1 := textFrom_le ts 0 "["
  have h2 : (("[" : String) : Str).length = 1 := by decide +kernel
  have h3 : (("]" : String) : Str).length = 1 := by decide +kernel
  omega
theorem repr_str_le (s : List Nat) (hs : ∀ c ∈ s, c < 1114112) : (reprText (S s)).length ≤ 10 * s.length + 2 := by
  have := StrLaws.reprText_len (S s) (fun c hc => by
    rw [S_list] at hc
    exact Nat.lt_trans (hs c hc) (by decide))
  rw [S_len] at this
  exact this
/-- the text of a list of two equal texts -/
def rep2 (s : List Nat) : List Nat := (PyData.shown (.list [.str (S s), .str (S s)])).cps.toList
theorem repr_ss (s : List Nat) (hs : ∀ c ∈ s, c < 1114112) (hl : s.length ≤ 1000) (e : h[n]? = some (.lst [.str s, .str s])) : bRepr h [.ref n] = .ok (.str (rep2 s)) h := by
  have d : toD h DEP (.ref n) = some (.list [.str (S s), .str (S s)]) := by
    have z : toD h (19 + 1) (.ref n) = _ := toD.eq_def ..
    rw [show DEP = 19 + 1 from rfl, z]
    simp only [e]
    rfl
  have l : (PyData.shown (.list [.str (S s), .str (S s)])).length ≤ LIM := by
    show (listText [reprText (S s), reprText (S s)]).length ≤ LIM
    refine Nat.le_trans (listText_le _) ?_
    have := repr_str_le s hs
    simp [LIM]
    omega
  have r : reprD h (.ref n) = some (rep2 s) := by
    unfold reprD
    rw [d]
    simp only [decide_eq_true l]
    simp [PyData.showable, PyData.showableAll, PyData.hasDict, PyData.hasDictAll, PyData.depth, PyData.depthAll, rep2]
  simp [bRepr, isRefV, r]
def rep2b (b : Bool) : List Nat := (PyData.shown (.list [.bool b, .bool b])).cps.toList
theorem repr_bb (b : Bool) (e : h[n]? = some (.lst [.bl b, .bl b])) : bRepr h [.ref n] = .ok (.str (rep2b b)) h := by
  have d : toD h DEP (.ref n) = some (.list [.bool b, .bool b]) := by
    have z : toD h (19 + 1) (.ref n) = _ := toD.eq_def ..
    rw [show DEP = 19 + 1 from rfl, z]
    simp only [e]
    rfl
  have l : (PyData.shown (.list [.bool b, .bool b])).length ≤ LIM := by cases b <;> decide +kernel
  have r : reprD h (.ref n) = some (rep2b b) := by
    unfold reprD
    rw [d]
    simp only [decide_eq_true l]
    simp [PyData.showable, PyData.showableAll, PyData.hasDict, PyData.hasDictAll, PyData.depth, PyData.depthAll, rep2b]
  simp [bRepr, isRefV, r]
theorem v_eqS {s t : List Nat} (hs : PyData.strOk (S s) = true) (ht : PyData.strOk (S t) = true) : opEq h (.str s) (.str t) = .ok (.bl (decide (s = t))) h := by
  have : (S s == S t) = decide (s = t) := by
    by_cases e : s = t
    · subst e; simp
    · have : S s ≠ S t := fun z => e (S_inj z)
      simp [e, this]
  unfold opEq by2
  rw [show toD h DEP (.str s) = some (.str (S s)) from rfl, show toD h DEP (.str t) = some (.str (S t)) from rfl]
  simp [SeqAt.shaped, PyData.eqv, PyData.canLay0, PyData.depth, this, hs, ht]
theorem v_neS {s t : List Nat} (hs : PyData.strOk (S s) = true) (ht : PyData.strOk (S t) = true) : opNe h (.str s) (.str t) = .ok (.bl (!decide (s = t))) h := by
  have : (S s == S t) = decide (s = t) := by
    by_cases e : s = t
    · subst e; simp
    · have : S s ≠ S t := fun z => e (S_inj z)
      simp [e, this]
  unfold opNe by2
  rw [show toD h DEP (.str s) = some (.str (S s)) from rfl, show toD h DEP (.str t) = some (.str (S t)) from rfl]
  simp [SeqAt.shaped, PyData.eqv, PyData.canLay0, PyData.depth, this, hs, ht]
theorem atI_nat' {α : Type} {xs : List α} {i : Nat} {x : α} (e : xs[i]? = some x) : L2.atI xs (i : Int) = some x := atI_nat e
theorem ix_tup {xs : List PV} {i : Nat} {x : PV} (e : xs[i]? = some x) : opIx h (.tup xs) (.int i) = .ok x h := by
  show (match L2.atI xs (i : Int) with
    | some v => R.ok v h
    | none => .stuck) = _
  rw [atI_nat' e]
theorem ix_ref {xs : List PV} {i : Nat} {x : PV} (e0 : h[n]? = some (.lst xs)) (e : xs[i]? = some x) : opIx h (.ref n) (.int i) = .ok x h := by
  have : opIx h (.ref n) (.int i) = ixL h xs (.int i) := by simp [opIx, e0]
  rw [this]
  show (match L2.atI xs (i : Int) with
    | some v => R.ok v h
    | none => .stuck) = _
  rw [atI_nat' e]
theorem ix_str {s : List Nat} {i : Nat} {c : Nat} (e : s[i]? = some c) (hl : s.length ≤ LIM) : opIx h (.str s) (.int i) = .ok (.str [c]) h := by
  show (match L2.atI s (i : Int) with
    | some c => bif decide (s.length ≤ LIM) then R.ok (PV.str [c]) h else .stuck
    | none => .stuck) = _
  rw [atI_nat' e]
  simp [hl]
theorem in_str {c : Nat} {t : List Nat} : opIn false h (.str [c]) (.str t) = .ok (.bl (decide (c ∈ t))) h := rfl
theorem strs_map : ∀ zs : List (List Nat), strsP (zs.map PV.str) = some zs
  | [] => rfl
  | z :: zs => by simp [strsP, strs_map zs]
theorem glue_nil : ∀ zs : List (List Nat), glue [] zs = zs.flatten
  | [] => rfl
  | [z] => by simp [glue]
  | z :: y :: r => by
    show z ++ ([] ++ glue [] (y :: r)) = _
    rw [glue_nil (y :: r)]; simp
theorem join_nil {zs : List (List Nat)} (e : h[n]? = some (.lst (zs.map PV.str))) (hl : zs.flatten.length ≤ LIM) : oJoin h [.str [], .ref n] = .ok (.str zs.flatten) h := by
  have s : seqP h (.ref n) = some (zs.map PV.str) := by simp [seqP, e]
  have t : totL zs ≤ LIM := by
    unfold totL
    rw [← List.length_flatten]
    exact hl
  have t2 : totL zs + zs.length * ([] : List Nat).length ≤ LIM := by simpa using t
  simp only [oJoin, s, strs_map, glue_nil, decide_eq_true t2, cond_true]
theorem last_at {ys : List PO} {o : PO} : (ys ++ [o])[ys.length]? = some o := by simp
end
end MC

end
section
set_option maxRecDepth 100000
set_option maxHeartbeats 4000000
namespace MC
open PySem L2
def skd (a b c : Int) : PO := .lst [.int a, .int b, .int c]
/-- the j-th object is a draw list -/
def Dr (j : Nat) (h : PH) : Prop := ∃ a b c, h[j]? = some (skd a b c)
/-- all but the j-th object stands -/
def But (j : Nat) (h h' : PH) : Prop := h'.length = h.length ∧ ∀ i, i ≠ j → h'[i]? = h[i]?
theorem But.refl {j : Nat} {h : PH} : But j h h := ⟨rfl, fun _ _ => rfl⟩
theorem But.trans {j : Nat} {h h1 h2 : PH} (a : But j h h1) (b : But j h1 h2) : But j h h2 := ⟨b.1.trans a.1, fun i n => (b.2 i n).trans (a.2 i n)⟩
theorem Dr.lt {j : Nat} {h : PH} (d : Dr j h) : j < h.length := by
  obtain ⟨a, b, c, e⟩ := d
  exact (List.getElem?_eq_some_iff.mp e).1
theorem Dr.app {j : Nat} {h : PH} {o : List PO} (d : Dr j h) : Dr j (h ++ o) := by
  obtain ⟨a, b, c, e⟩ := d
  exact ⟨a, b, c, by rw [List.getElem?_append_left (List.getElem?_eq_some_iff.mp e).1]; exact e⟩
theorem get_app {h : PH} {i : Nat} {o : PO} {os : List PO} (e : h[i]? = some o) : (h ++ os)[i]? = some o := by
  rw [List.getElem?_append_left (List.getElem?_eq_some_iff.mp e).1]; exact e
/-- a function of draws: xs its other arguments, P its answer -/
def Fs (m : MF) (xs : List PV) (P : PV → Prop) : Prop := ∀ a b c, Ws (m (.ref 0 :: xs) [skd a b c]) fun v g => Dr 0 g ∧ noRef v = true ∧ P v
section
variable {α : Type} {m : MF} {xs : List PV} {P : PV → Prop} {h : PH} {j : Nat} {k : PV → PH → R α} {Q : α → PH → Prop}
theorem Fs.call (F : Fs m xs P) (hx : noRefs xs = true) (d : Dr j h) : Ws (callG takeBack m (.ref j :: xs) h) fun v h' => noRef v = true ∧ P v ∧ Dr j h' ∧ But j h h' := by
  have hl := d.lt
  obtain ⟨a, b, c, e⟩ := d
  obtain ⟨v, g, e1, ⟨a', b', c', e2⟩, nv, p⟩ := F a b c
  refine ⟨v, h.set j (skd a' b' c'), call_one (ys := [.int a, .int b, .int c]) (zs := [.int a', .int b', .int c']) e (by rfl) hx e1 e2 (by rfl) nv, nv, p, ⟨a', b', c', ?_⟩, ?_, fun i hi => ?_⟩
  · rw [List.getElem?_set_self hl]
  · rw [List.length_set]
  · rw [List.getElem?_set_ne (Ne.symm hi)]
theorem Fs.use (F : Fs m xs P) (hx : noRefs xs = true) (d : Dr j h) (q : ∀ v h', noRef v = true → P v → Dr j h' → But j h h' → Ws (k v h') Q) : Ws ((callG takeBack m (.ref j :: xs) h).bind k) Q :=
  (F.call hx d).bind fun v h' ⟨n, p, d', b⟩ => q v h' n p d' b
/-- .. that gets a list besides -/
def Fs2 (m : MF) (us : List PV) (xs : List PV) (P : PV → Prop) : Prop := ∀ a b c, Ws (m (.ref 0 :: .ref 1 :: xs) [skd a b c, .lst us]) fun v g => Dr 0 g ∧ (∃ ws, g[1]? = some (.lst ws) ∧ noRefs ws = true) ∧ noRef v = true ∧ P v
theorem Fs2.use {us : List PV} {i : Nat} (F : Fs2 m us xs P) (hx : noRefs xs = true) (hu : noRefs us = true) (d : Dr j h) (hi : h[i]? = some (.lst us)) (ne : j ≠ i) (q : ∀ v h', noRef v = true → P v → Dr j h' → h'.length = h.length → (∀ n, n ≠ j → n ≠ i → h'[n]? = h[n]?) → Ws (k v h') Q) :
    Ws ((callG takeBack m (.ref j :: .ref i :: xs) h).bind k) Q := by
  have hl := d.lt
  obtain ⟨a, b, c, e⟩ := d
  obtain ⟨v, g, e1, ⟨a', b', c', e2⟩, ⟨ws, e3, nw⟩, nv, p⟩ := F a b c
  refine Ws.bind (Ws.eq (Q := fun v' h' => v' = v ∧ h' = (h.set j (skd a' b' c')).set i (.lst ws)) (call_two (ys := [.int a, .int b, .int c]) (zs := [.int a', .int b', .int c']) e (by rfl) hi hu ne hx e1 e2 (by rfl) e3 nw nv) ⟨rfl, rfl⟩) fun v' h' ⟨ev, eh⟩ => ?_
  subst ev; subst eh
  refine q v' _ nv p ⟨a', b', c', ?_⟩ (by rw [List.length_set, List.length_set]) fun n h1 h2 => ?_
  · rw [List.getElem?_set_ne (Ne.symm ne), List.getElem?_set_self hl]
  · rw [List.getElem?_set_ne (Ne.symm h2), List.getElem?_set_ne (Ne.symm h1)]
end
section
variable {β : Type} {h : PH}
theorem watch_mk {k : Nat} {ys : List PV} (e : h[k]? = some (.lst ys)) : watch [(k, ys)] h = true := by
  simp [watch, e, beqVs_rf]
theorem mapW {g : Tg} {m : ME} {e0 : En} {wt : Wt} {Q : β → PH → Prop} {k : PV → PH → R β} (f : PV → PV) (J : PH → Prop) {xs : List PV} (hw : ∀ h, J h → watch wt h = true) (j0 : J h) (hl : xs.length ≤ LIM) (hs : ∀ x ∈ xs, ∀ h, J h → ∃ e, tgM g x e0 = some e ∧ Ws (m e h) fun y h' => y = f x ∧ J h')
    (hd : ∀ h0, J h0 → Ws (k (.ref h0.length) (h0 ++ [.lst (xs.map f)])) Q) : Ws ((lcL g mYes m wt e0 xs [] h).bind k) Q := by
  refine Ws.bind (Ws_lc (Q := fun v h' => ∃ h0, J h0 ∧ v = .ref h0.length ∧ h' = h0 ++ [.lst (xs.map f)]) (fun i acc h => i ≤ xs.length ∧ acc = (xs.take i).map f ∧ J h) ⟨Nat.zero_le _, rfl, j0⟩ (fun _ _ h q => hw h q.2.2) (fun i x acc h e ⟨hi, ea, jh⟩ => ?_) fun acc h ⟨_, ea, jh⟩ => ?_) fun v h' ⟨h0, j, e1, e2⟩ => by rw [e1, e2]; exact hd h0 j
  · have hlt := (List.getElem?_eq_some_iff.mp e).1
    obtain ⟨e1, t1, w⟩ := hs x (List.mem_of_getElem? e) h jh
    refine ⟨e1, t1, ?_⟩
    rw [e_yes, Ws_ok, cond_true]
    refine w.mono fun y h' ⟨ey, jh'⟩ => ⟨?_, hlt, ?_, jh'⟩
    · subst ea
      rw [List.length_map, List.length_take]
      omega
    · subst ea; subst ey
      rw [List.take_add_one, e, List.map_append]; rfl
  · subst ea
    rw [List.take_length]
    exact ⟨h, jh, rfl, rfl⟩
theorem mapPW {g : Tg} {m : ME} {e0 : En} {wt : Wt} {Q : β → PH → Prop} {k : PV → PH → R β} (P : PV → Prop) (J : PH → Prop) {xs : List PV} (hw : ∀ h, J h → watch wt h = true) (j0 : J h) (hl : xs.length ≤ LIM) (hs : ∀ x ∈ xs, ∀ h, J h → ∃ e, tgM g x e0 = some e ∧ Ws (m e h) fun y h' => P y ∧ J h')
    (hd : ∀ h0 ys, J h0 → ys.length = xs.length → (∀ y ∈ ys, P y) → Ws (k (.ref h0.length) (h0 ++ [.lst ys])) Q) : Ws ((lcL g mYes m wt e0 xs [] h).bind k) Q := by
  refine Ws.bind (Ws_lc (Q := fun v h' => ∃ h0 ys, J h0 ∧ ys.length = xs.length ∧ (∀ y ∈ ys, P y) ∧ v = .ref h0.length ∧ h' = h0 ++ [.lst ys]) (fun i acc h => i ≤ xs.length ∧ acc.length = i ∧ (∀ y ∈ acc, P y) ∧ J h) ⟨Nat.zero_le _, rfl, (fun _ z => nomatch z), j0⟩ (fun _ _ h q => hw h q.2.2.2) (fun i x acc h e ⟨hi, ea, ha, jh⟩ => ?_)
    fun acc h ⟨_, ea, ha, jh⟩ => ⟨h, acc, jh, ea, ha, rfl, rfl⟩) fun v h' ⟨h0, ys, j, l, p, e1, e2⟩ => by rw [e1, e2]; exact hd h0 ys j l p
  have hlt := (List.getElem?_eq_some_iff.mp e).1
  obtain ⟨e1, t1, w⟩ := hs x (List.mem_of_getElem? e) h jh
  refine ⟨e1, t1, ?_⟩
  rw [e_yes, Ws_ok, cond_true]
  refine w.mono fun y h' ⟨ey, jh'⟩ => ⟨by omega, hlt, by simp [ea], fun z hz => ?_, jh'⟩
  rcases List.mem_append.mp hz with q | q
  · exact ha z q
  · rw [List.mem_singleton.mp q]; exact ey
theorem eq_nil {is : List Int} {n m : Nat} (e : h[n]? = some (.lst (is.map PV.int))) (e2 : h[m]? = some (.lst [])) : opEq h (.ref n) (.ref m) = .ok (.bl is.isEmpty) h := by
  have mi : ∀ is : List Int, mapO (toD h 19) (is.map PV.int) = some (is.map PyData.int) := by
    intro is
    induction is with
    | nil => rfl
    | cons i r ih =>
      rw [List.map_cons]
      unfold mapO
      rw [show toD h 19 (.int i) = some (.int i) from rfl, ih]; rfl
  have d1 : toD h DEP (.ref n) = some (.list (is.map PyData.int)) := by
    have z : toD h (19 + 1) (.ref n) = _ := toD.eq_def ..
    rw [show DEP = 19 + 1 from rfl, z]
    simp only [e, mi]; rfl
  have d2 : toD h DEP (.ref m) = some (.list []) := by
    have z : toD h (19 + 1) (.ref m) = _ := toD.eq_def ..
    rw [show DEP = 19 + 1 from rfl, z]
    simp only [e2]; rfl
  have sh : ∀ is : List Int, PyData.canLayAll0 (is.map PyData.int) = true ∧ PyData.depthAll (is.map PyData.int) ≤ 1 := by
    intro is
    induction is with
    | nil => exact ⟨rfl, Nat.zero_le _⟩
    | cons i r ih => simp [PyData.canLayAll0, PyData.canLay0, PyData.depthAll, PyData.depth, ih]
  obtain ⟨s1, s2⟩ := sh is
  have s3 : SeqAt.shaped (.list (is.map PyData.int)) = true := by
    unfold SeqAt.shaped
    simp [PyData.canLay0, s1, PyData.depth]
    omega
  have s4 : SeqAt.shaped (.list []) = true := by rfl
  have ev : PyData.eqv (.list (is.map PyData.int)) (.list []) = is.isEmpty := by cases is <;> simp [PyData.eqv, PyData.eqvAll]
  unfold opEq by2
  rw [d1, d2]
  simp only [s3, s4, ev, Bool.and_self, cond_true]
end
end MC

end
section
set_option maxRecDepth 100000
set_option maxHeartbeats 4000000
namespace MC
open PySem L2
theorem ok_app {a b : Str} (ha : PyData.strOk a = true) (hb : PyData.strOk b = true) : PyData.strOk (a ++ b) = true := by
  unfold PyData.strOk at *
  show (a.cps ++ b.cps).all _ = true
  rw [Array.all_append, ha, hb]; rfl
theorem ok_text : ∀ (ts : List Str) (k : Nat) (acc : Str), PyData.strOk acc = true → (∀ t ∈ ts, PyData.strOk t = true) → PyData.strOk (textFrom k acc ts) = true
  | [], _, _, h, _ => h
  | t :: r, k, acc, h, ht => by
    have e : PyData.strOk ((if k > 0 then ", " else "" : String) : Str) = true := by split <;> decide +kernel
    exact ok_text r (k + 1) _ (ok_app (ok_app h e) (ht t List.mem_cons_self)) fun x hx => ht x (List.mem_cons_of_mem _ hx)
theorem ok_list (ts : List Str) (h : ∀ t ∈ ts, PyData.strOk t = true) : PyData.strOk (listText ts) = true := by
  unfold listText
  exact ok_app (ok_text ts 0 _ (by decide +kernel) h) (by decide +kernel)
theorem ok_reprC (q c : Nat) (hq : q = 34 ∨ q = 39) (hc : c ∈ [120, 121, 122]) : Builtin.Str.reprChar q c = [c] := by
  simp at hc
  rcases hq with rfl | rfl <;> rcases hc with rfl | rfl | rfl <;> decide +kernel
theorem ok_fold (q : Nat) (hq : q = 34 ∨ q = 39) : ∀ (s : List Nat) (acc : Array Nat), (∀ c ∈ s, c ∈ [120, 121, 122]) → acc.all (· < 0x110000) = true → (s.foldl (fun out c => out ++ (Builtin.Str.reprChar q c).toArray) acc).all (· < 0x110000) = true
  | [], _, _, h => h
  | c :: s, acc, hs, h => by
    have hc := hs c List.mem_cons_self
    rw [List.foldl_cons]
    refine ok_fold q hq s _ (fun d hd => hs d (List.mem_cons_of_mem _ hd)) ?_
    rw [ok_reprC q c hq hc, Array.all_append, h]
    simp at hc
    rcases hc with rfl | rfl | rfl <;> decide +kernel
theorem ok_repr (s : List Nat) (hs : ∀ c ∈ s, c ∈ [120, 121, 122]) : PyData.strOk (reprText (S s)) = true := by
  have hq : reprQuote (S s) = 34 ∨ reprQuote (S s) = 39 := by unfold reprQuote; split <;> simp
  have hq2 : decide (reprQuote (S s) < 0x110000) = true := by rcases hq with e | e <;> rw [e] <;> rfl
  unfold reprText PyData.strOk
  show (Array.push _ _).all _ = true
  have f : (S s).cps.foldl (fun out c => out ++ (Builtin.Str.reprChar (reprQuote (S s)) c).toArray) #[reprQuote (S s)] = s.foldl (fun out c => out ++ (Builtin.Str.reprChar (reprQuote (S s)) c).toArray) #[reprQuote (S s)] := by
    rw [← Array.foldl_toList]
    rfl
  rw [f]
  have a := ok_fold (reprQuote (S s)) hq s #[reprQuote (S s)] hs (by simpa using hq2)
  simp only [Array.all_push]
  rw [a, hq2]; rfl
theorem ok_rep2 (s : List Nat) (hs : ∀ c ∈ s, c ∈ [120, 121, 122]) : PyData.strOk (S (rep2 s)) = true := by
  unfold rep2
  rw [S_of]
  show PyData.strOk (listText [reprText (S s), reprText (S s)]) = true
  refine ok_list _ fun t ht => ?_
  simp at ht
  rw [ht]; exact ok_repr s hs
theorem ok_rep2b (b : Bool) : PyData.strOk (S (rep2b b)) = true := by
  unfold rep2b
  rw [S_of]
  cases b <;> decide +kernel
end MC

end
section
set_option maxRecDepth 100000
set_option maxHeartbeats 4000000
namespace MC
open PySem L2
mutual
/-- a value without objects, as data -/
def pd : PV → Option PyData
  | .non => some .none
  | .bl b => some (.bool b)
  | .int i => some (.int i)
  | .str s => some (.str (S s))
  | .tup xs => match pds xs with
    | some ds => some (.tuple ds)
    | none => none
  | _ => none
def pds : List PV → Option (List PyData)
  | [] => some []
  | x :: xs => match pd x, pds xs with
    | some d, some ds => some (d :: ds)
    | _, _ => none
end
mutual
/-- ints of fewer than K bits, signs that are signs; K bounds the texts -/
def pok (K : Nat) : PV → Bool
  | .non => true
  | .bl _ => true
  | .int i => decide (i.natAbs.log2 < K)
  | .str s => s.all fun c => decide (c < 1114112)
  | .tup xs => poks K xs
  | _ => false
def poks (K : Nat) : List PV → Bool
  | [] => true
  | x :: xs => pok K x && poks K xs
end
mutual
/-- how many nodes and signs -/
def pnd : PV → Nat
  | .str s => s.length + 1
  | .tup xs => pnds xs + 1
  | _ => 1
def pnds : List PV → Nat
  | [] => 0
  | x :: xs => pnd x + pnds xs
end
mutual
def pdp : PV → Nat
  | .tup xs => pdps xs + 1
  | _ => 0
def pdps : List PV → Nat
  | [] => 0
  | x :: xs => max (pdp x) (pdps xs)
end
theorem okA {cs : Array Nat} : PyData.strOk ⟨cs⟩ = true ↔ ∀ c ∈ cs.toList, c < 1114112 := by
  unfold PyData.strOk
  rw [← Array.all_toList, List.all_eq_true]
  simp
theorem ch_lt (c : Char) : c.toNat < 1114112 := by
  have h := c.valid
  simp only [UInt32.isValidChar, Nat.isValidChar] at h
  have : c.toNat = c.val.toNat := rfl
  omega
theorem ok_ofS (s : String) : PyData.strOk (Str.ofString s) = true := by
  rw [Str.ofString_eq_toList]
  refine okA.mpr fun c hc => ?_
  simp only [List.mem_map] at hc
  obtain ⟨d, _, rfl⟩ := hc
  exact ch_lt d
theorem rc_lt (q c : Nat) (hq : q < 1114112) (hc : c < 1114112) : ∀ d ∈ Builtin.Str.reprChar q c, d < 1114112 := by
  have dg : ∀ w : Nat, ∀ d ∈ (List.replicate (w - ((Nat.toDigits 16 c).map Char.toNat).length) 48 ++ (Nat.toDigits 16 c).map Char.toNat : List Nat), d < 1114112 := by
    intro w d hd
    rcases List.mem_append.mp hd with h | h
    · rw [List.eq_of_mem_replicate h]; decide
    · obtain ⟨x, _, rfl⟩ := List.mem_map.mp h
      exact ch_lt x
  intro d hd
  unfold Builtin.Str.reprChar at hd
  simp only at hd
  split at hd
  · simp at hd; omega
  split at hd
  · simp at hd; omega
  split at hd
  · simp at hd; omega
  split at hd
  · simp at hd; omega
  split at hd
  · simp at hd; omega
  split at hd
  · rcases List.mem_append.mp hd with h | h
    · simp at h; omega
    · exact dg 2 d h
  split at hd
  · rcases List.mem_append.mp hd with h | h
    · simp at h; omega
    · exact dg 4 d h
  · rcases List.mem_append.mp hd with h | h
    · simp at h; omega
    · exact dg 8 d h
theorem rfold_lt (q : Nat) (hq : q < 1114112) : ∀ (s : List Nat) (acc : Array Nat), (∀ c ∈ s, c < 1114112) → (∀ c ∈ acc.toList, c < 1114112) → ∀ c ∈ (s.foldl (fun out c => out ++ (Builtin.Str.reprChar q c).toArray) acc).toList, c < 1114112
  | [], _, _, h => h
  | c :: s, acc, hs, h => by
    rw [List.foldl_cons]
    refine rfold_lt q hq s _ (fun d hd => hs d (List.mem_cons_of_mem _ hd)) fun d hd => ?_
    rw [Array.toList_append] at hd
    rcases List.mem_append.mp hd with a | a
    · exact h d a
    · exact rc_lt q c hq (hs c List.mem_cons_self) d a
theorem ok_reprS (s : List Nat) (hs : ∀ c ∈ s, c < 1114112) : PyData.strOk (reprText (S s)) = true := by
  have hq : reprQuote (S s) < 1114112 := by unfold reprQuote; split <;> decide
  unfold reprText
  refine okA.mpr ?_
  have f : (S s).cps.foldl (fun out c => out ++ (Builtin.Str.reprChar (reprQuote (S s)) c).toArray) #[reprQuote (S s)] = s.foldl (fun out c => out ++ (Builtin.Str.reprChar (reprQuote (S s)) c).toArray) #[reprQuote (S s)] := by
    rw [← Array.foldl_toList]; rfl
  rw [f]
  intro c hc
  rw [Array.toList_push] at hc
  rcases List.mem_append.mp hc with h | h
  · exact rfold_lt _ hq s _ hs (by simpa using hq) c h
  · rw [List.mem_singleton.mp h]; exact hq
theorem ok_joinL (sep : Str) (hs : PyData.strOk sep = true) : ∀ ts : List Str, (∀ t ∈ ts, PyData.strOk t = true) → PyData.strOk (Str.join sep ts) = true
  | [], _ => (by decide +kernel : PyData.strOk Str.empty = true)
  | [t], h => h t List.mem_cons_self
  | t :: u :: r, h => ok_app (ok_app (h t List.mem_cons_self) hs) (ok_joinL sep hs (u :: r) fun y hy => h y (List.mem_cons_of_mem _ hy))
theorem ok_tuple (ts : List Str) (h : ∀ t ∈ ts, PyData.strOk t = true) : PyData.strOk (tupleText ts) = true := by
  unfold tupleText
  refine ok_app (ok_app (by decide +kernel) (ok_joinL _ (by decide +kernel) ts h)) ?_
  split <;> decide +kernel
/-- what is needed of data whose text is asked for -/
structure Good (K : Nat) (n : Nat) (d : PyData) : Prop where
  s1 : d.showable = true
  s2 : d.hasDict = false
  s3 : d.shown.length + 2 ≤ (K + 12) * n
  s4 : PyData.strOk d.shown = true
theorem int_len {i : Int} {K : Nat} (hK : 0 < K) (h : i.natAbs.log2 < K) : (PyData.shown (.int i)).length ≤ K + 1 := by
  rw [PyData.shown_int, Str.ofString_eq_toList]
  show (List.map Char.toNat (toString i).toList).toArray.size ≤ K + 1
  rw [List.size_toArray, List.length_map]
  exact int_text_length_le hK h
theorem sum_two (ts : List Str) : ((ts.map (·.length)).sum + 2 * ts.length) = (ts.map fun t => t.length + 2).sum := by
  induction ts with
  | nil => rfl
  | cons t r ih => simp only [List.map_cons, List.sum_cons, List.length_cons]; omega
mutual
theorem pd_good {K : Nat} (hK : 0 < K) (h2 : K ≤ 1920) : ∀ x : PV, pok K x = true → ∃ d, pd x = some d ∧ Good K (pnd x) d ∧ d.depth ≤ pdp x
  | .non, _ => ⟨_, rfl, ⟨rfl, rfl, by rw [PyData.shown_none]; show 4 + 2 ≤ (K + 12) * 1; omega, by decide +kernel⟩, Nat.le_refl _⟩
  | .bl b, _ => ⟨_, rfl, ⟨rfl, rfl, by
      have : (PyData.shown (.bool b)).length ≤ 5 := by cases b <;> decide
      show _ ≤ (K + 12) * 1
      omega, by cases b <;> decide +kernel⟩, Nat.le_refl _⟩
  | .int i, h => by
    have h1 : i.natAbs.log2 < K := by unfold pok at h; simpa using h
    have := int_len hK h1
    refine ⟨_, rfl, ⟨?_, rfl, by show _ ≤ (K + 12) * 1; omega, by rw [PyData.shown_int]; exact ok_ofS _⟩, Nat.le_refl _⟩
    simp [PyData.showable]; omega
  | .str s, h => by
    have h1 : ∀ c ∈ s, c < 1114112 := by unfold pok at h; simpa using h
    have := repr_str_le s h1
    refine ⟨_, rfl, ⟨rfl, rfl, ?_, by rw [PyData.shown_str]; exact ok_reprS s h1⟩, Nat.le_refl _⟩
    rw [PyData.shown_str]
    show _ ≤ (K + 12) * (s.length + 1)
    have q : 10 * s.length + 12 ≤ (K + 12) * (s.length + 1) := by
      have : 12 * (s.length + 1) ≤ (K + 12) * (s.length + 1) := Nat.mul_le_mul_right _ (by omega)
      omega
    omega
  | .tup xs, h => by
    obtain ⟨ds, e, g1, g2, g3, g4, g5⟩ := pds_good hK h2 xs (by unfold pok at h; exact h)
    refine ⟨.tuple ds, by simp [pd, e], ⟨by simpa [PyData.showable] using g1, by simpa [PyData.hasDict] using g2, ?_, ?_⟩, ?_⟩
    · have l := tupleText_len_le (PyData.shownAll ds)
      have s2 := sum_two (PyData.shownAll ds)
      show (tupleText (PyData.shownAll ds)).length + 2 ≤ (K + 12) * (pnds xs + 1)
      rw [Nat.mul_add]
      omega
    · show PyData.strOk (tupleText (PyData.shownAll ds)) = true
      exact ok_tuple _ g4
    · simp only [PyData.depth, pdp]; omega
theorem pds_good {K : Nat} (hK : 0 < K) (h2 : K ≤ 1920) : ∀ xs : List PV, poks K xs = true → ∃ ds, pds xs = some ds ∧ PyData.showableAll ds = true ∧ PyData.hasDictAll ds = false ∧ ((PyData.shownAll ds).map fun t => t.length + 2).sum ≤ (K + 12) * pnds xs ∧ (∀ t ∈ PyData.shownAll ds, PyData.strOk t = true) ∧ PyData.depthAll ds ≤ pdps xs
  | [], _ => ⟨[], rfl, rfl, rfl, Nat.le_refl _, (fun _ h => by simp [PyData.shownAll] at h), Nat.le_refl _⟩
  | x :: xs, h => by
    unfold poks at h
    rw [Bool.and_eq_true] at h
    obtain ⟨d, e, g, gd⟩ := pd_good hK h2 x h.1
    obtain ⟨ds, e2, g1, g2, g3, g4, g5⟩ := pds_good hK h2 xs h.2
    refine ⟨d :: ds, by simp [pds, e, e2], by simp [PyData.showableAll, g.s1, g1], by simp [PyData.hasDictAll, g.s2, g2], ?_, ?_, ?_⟩
    · simp only [PyData.shownAll, List.map_cons, List.sum_cons, pnds]
      have := g.s3
      rw [Nat.mul_add]
      omega
    · intro t ht
      simp only [PyData.shownAll] at ht
      rcases List.mem_cons.mp ht with rfl | q
      · exact g.s4
      · exact g4 t q
    · simp only [PyData.depthAll, pdps]; omega
end
theorem toD_pd (h : PH) : ∀ (n : Nat) (x : PV) (d : PyData), pd x = some d → pdp x < n → toD h n x = some d
  | 0, _, _, _, l => absurd l (Nat.not_lt_zero _)
  | n + 1, x, d, e, l => by
    have z : toD h (n + 1) x = _ := toD.eq_def ..
    rw [z]
    cases x with
    | non => simpa [pd] using e
    | bl b => simpa [pd] using e
    | int i => simpa [pd] using e
    | str s => simpa [pd] using e
    | tup xs =>
      have hh : ∀ xs : List PV, ∀ ds, pds xs = some ds → pdps xs < n → mapO (toD h n) xs = some ds := by
        intro xs
        induction xs with
        | nil => intro ds e _; simp only [pds] at e; rw [← Option.some.inj e]; rfl
        | cons y ys ih =>
          intro ds e l
          simp only [pdps] at l
          unfold pds at e
          cases e1 : pd y with
          | none => rw [e1] at e; cases e
          | some d1 =>
            cases e2 : pds ys with
            | none => simp only [e1, e2] at e; cases e
            | some ds1 =>
              simp only [e1, e2] at e
              unfold mapO
              rw [toD_pd h n y d1 e1 (by omega), ih ds1 e2 (by omega)]
              exact e
      unfold pd at e
      simp only [pdp] at l
      cases e1 : pds xs with
      | none => rw [e1] at e; cases e
      | some ds =>
        rw [e1] at e
        simp only [hh xs ds e1 (by omega)]
        exact e
    | scr xs => simp [pd] at e
    | rdic xs => simp [pd] at e
    | ins c fs => simp [pd] at e
    | ref m => simp [pd] at e
    | gl m => simp [pd] at e
theorem mapO_pds (h : PH) (n : Nat) : ∀ (xs : List PV) (ds : List PyData), pds xs = some ds → pdps xs < n → mapO (toD h n) xs = some ds
  | [], ds, e, _ => by simp only [pds] at e; rw [← Option.some.inj e]; rfl
  | y :: ys, ds, e, l => by
    simp only [pdps] at l
    unfold pds at e
    cases e1 : pd y with
    | none => rw [e1] at e; cases e
    | some d1 =>
      cases e2 : pds ys with
      | none => simp only [e1, e2] at e; cases e
      | some ds1 =>
        simp only [e1, e2] at e
        unfold mapO
        rw [toD_pd h n y d1 e1 (by omega), mapO_pds h n ys ds1 e2 (by omega)]
        exact e
/-- the text of a list of plain values -/
def repL (xs : List PV) : List Nat := match pds xs with
  | some ds => (PyData.shown (.list ds)).cps.toList
  | none => []
def repV (x : PV) : List Nat := match pd x with
  | some d => (PyData.shown d).cps.toList
  | none => []
section
variable {h : PH} {n K : Nat} {xs : List PV}
theorem repr_l (hK : 0 < K) (h2 : K ≤ 1920) (e : h[n]? = some (.lst xs)) (g : poks K xs = true) (gd : pdps xs < 19) (gs : (K + 12) * (pnds xs + 1) ≤ LIM) : bRepr h [.ref n] = .ok (.str (repL xs)) h := by
  obtain ⟨ds, e1, g1, g2, g3, g4, g5⟩ := pds_good hK h2 xs g
  have d : toD h DEP (.ref n) = some (.list ds) := by
    have z : toD h (19 + 1) (.ref n) = _ := toD.eq_def ..
    rw [show DEP = 19 + 1 from rfl, z]
    simp only [e, mapO_pds h 19 xs ds e1 gd]; rfl
  have l : (PyData.shown (.list ds)).length ≤ LIM := by
    have l := listText_len_le (PyData.shownAll ds)
    have s2 := sum_two (PyData.shownAll ds)
    refine Nat.le_trans ?_ gs
    show (listText (PyData.shownAll ds)).length ≤ _
    rw [Nat.mul_add]
    omega
  have r : reprD h (.ref n) = some (repL xs) := by
    unfold reprD
    rw [d]
    have dp : (PyData.list ds).depth ≤ 60 := by simp only [PyData.depth]; omega
    simp only [decide_eq_true l, decide_eq_true dp]
    simp [PyData.showable, g1, PyData.hasDict, g2, repL, e1]
  simp [bRepr, isRefV, r]
theorem ok_repL (hK : 0 < K) (h2 : K ≤ 1920) (g : poks K xs = true) : PyData.strOk (S (repL xs)) = true := by
  obtain ⟨ds, e1, g1, g2, g3, g4, g5⟩ := pds_good hK h2 xs g
  unfold repL
  simp only [e1, S_of]
  exact ok_list _ g4
theorem repr_v {ys : List PV} (hK : 0 < K) (h2 : K ≤ 1920) (g : pok K (.tup ys) = true) (gd : pdp (.tup ys) < 20) (gs : (K + 12) * (pnd (.tup ys) + 1) ≤ LIM) : bRepr h [.tup ys] = .ok (.str (repV (.tup ys))) h := by
  obtain ⟨d, e1, g, gd2⟩ := pd_good hK h2 (.tup ys) g
  have r : reprD h (.tup ys) = some (repV (.tup ys)) := by
    unfold reprD
    rw [toD_pd h DEP _ d e1 gd]
    have dp : d.depth ≤ 60 := by omega
    have l : d.shown.length ≤ LIM := by
      have := g.s3
      have := Nat.mul_le_mul_left (K + 12) (show pnd (.tup ys) ≤ pnd (.tup ys) + 1 by omega)
      omega
    simp only [decide_eq_true l, decide_eq_true dp]
    simp [g.s1, g.s2, repV, e1]
  simp [bRepr, isRefV, r]
theorem ok_repV {x : PV} (hK : 0 < K) (h2 : K ≤ 1920) (g : pok K x = true) : PyData.strOk (S (repV x)) = true := by
  obtain ⟨d, e1, g, _⟩ := pd_good hK h2 x g
  unfold repV
  simp only [e1, S_of]
  exact g.s4
end
end MC

end
section
set_option maxRecDepth 100000
set_option maxHeartbeats 4000000
namespace MC
open PySem L2
section
variable {m : MF} {xs as : List PV} {h g hc : PH} {u v : PV} {fp live : List Nat} {os ns : List PO}
theorem call_gen (r : reach h FUEL (refsVs xs) [] = some fp) (ra : renVs (idx fp) xs = some as) (rh : mapO (pick h (idx fp)) fp = some hc) (hm : m as hc = .ok v g)
    (rl : reach g FUEL (refsVs [v] ++ List.range fp.length) [] = some live) (rv : renVs (backF fp (newsOf fp live) h.length) [v] = some [u])
    (ro : mapO (pick g (backF fp (newsOf fp live) h.length)) (List.range fp.length) = some os) (rn : mapO (pick g (backF fp (newsOf fp live) h.length)) (newsOf fp live) = some ns) : callG takeBack m xs h = .ok u (setAll h fp os ++ ns) := by
  unfold callG
  simp only [r, ra, rh, hm]
  unfold takeBack takeL
  simp only [rl, rv, ro, rn]
/-- one list is handed over and stays, a new one comes back -/
theorem call_1n {j i : Nat} {ys zs : List PV} (hr : refsVs xs = [j]) (ha : renVs (idx [j]) xs = some as) (hj : h[j]? = some (.lst ys)) (hy : noRefs ys = true) (hm : m as [.lst ys] = .ok (.ref i) g) (hi : i ≠ 0) (hg0 : g[0]? = some (.lst ys)) (hg : g[i]? = some (.lst zs)) (hz : noRefs zs = true) :
    callG takeBack m xs h = .ok (.ref h.length) (h ++ [.lst zs]) := by
  obtain ⟨y1, y2⟩ := flatO_of hy
  obtain ⟨z1, z2⟩ := flatO_of hz
  have rl : reach g FUEL (refsVs [.ref i] ++ List.range [j].length) [] = some [i, 0] := by
    have : refsVs [PV.ref i] = [i] := by unfold refsVs refsV refsVs; rfl
    rw [this]
    exact reach2 hg z1 hg0 y1 hi
  have nw : newsOf [j] [i, 0] = [i] := by
    unfold newsOf
    rw [List.filter_cons, List.filter_cons]
    have : decide ([j].length ≤ i) = true := decide_eq_true (show 1 ≤ i by omega)
    rw [this]
    rfl
  have e := call_gen (m := m) (h := h) (xs := xs) (as := as) (v := .ref i) (u := .ref h.length) (fp := [j]) (hc := [.lst ys]) (live := [i, 0]) (os := [.lst ys]) (ns := [.lst zs]) (g := g) (by rw [hr]; exact reach1 hj y1) ha (by simp [mapO, pick, hj, y2]) hm rl
    (by
      rw [nw]; unfold renVs renV renVs
      have : backF [j] [i] h.length i = some h.length := by
        unfold backF
        have : decide (i < [j].length) = false := by simp; omega
        rw [this]; simp [idx_hd]
      rw [this])
    (by
      rw [nw]
      show mapO _ [0] = _
      simp [mapO, pick, hg0, y2])
    (by
      rw [nw]
      simp [mapO, pick, hg, z2])
  rw [e]
  have : setAll h [j] [PO.lst ys] = h := by
    show h.set j (PO.lst ys) = h
    obtain ⟨l, e⟩ := List.getElem?_eq_some_iff.mp hj
    rw [← e, List.set_getElem_self]
  rw [this]
theorem reach_flat : ∀ (js seen : List Nat) (f : Nat), js.length ≤ f → (∀ j ∈ js, ∃ ys, g[j]? = some (.lst ys) ∧ noRefs ys = true) → js.Nodup → (∀ j ∈ js, j ∉ seen) → reach g f js seen = some (seen ++ js)
  | [], seen, f, _, _, _, _ => by unfold reach; rw [List.append_nil]
  | j :: js, seen, 0, h, _, _, _ => by simp at h
  | j :: js, seen, f + 1, h, hj, nd, hs => by
    obtain ⟨ys, e, hy⟩ := hj j List.mem_cons_self
    unfold reach
    have c : seen.contains j = false := by
      have := hs j List.mem_cons_self
      simpa using this
    rw [c, cond_false, e]
    simp only [(flatO_of hy).1, List.nil_append]
    rw [reach_flat js (seen ++ [j]) f (by simpa using h) (fun x hx => hj x (List.mem_cons_of_mem _ hx)) (List.nodup_cons.mp nd).2 fun x hx => ?_]
    · simp
    · intro q
      rcases List.mem_append.mp q with q | q
      · exact hs x (List.mem_cons_of_mem _ hx) q
      · rw [List.mem_singleton.mp q] at hx
        exact (List.nodup_cons.mp nd).1 hx
theorem refs_map : ∀ js : List Nat, refsVs (js.map PV.ref) = js
  | [] => by unfold refsVs; rfl
  | j :: js => by
    rw [List.map_cons]
    unfold refsVs refsV
    rw [refs_map js]; rfl
theorem idx_at : ∀ {l : List Nat} {t n : Nat}, l.Nodup → l[t]? = some n → idx l n = some t
  | [], _, _, _, e => by simp at e
  | m :: r, 0, n, _, e => by
    have : m = n := by simpa using e
    subst this
    unfold idx; simp
  | m :: r, t + 1, n, nd, e => by
    have e : r[t]? = some n := by simpa using e
    have ne : m ≠ n := fun q => (List.nodup_cons.mp nd).1 (q ▸ List.mem_of_getElem? e)
    unfold idx
    rw [beq_eq_false_iff_ne.mpr ne, cond_false, idx_at (List.nodup_cons.mp nd).2 e]
theorem ren_map (f : Nat → Option Nat) : ∀ (js ks : List Nat), js.length = ks.length → (∀ (t j : Nat), js[t]? = some j → f j = ks[t]?) → renVs f (js.map PV.ref) = some (ks.map PV.ref)
  | [], [], _, _ => by unfold renVs; rfl
  | [], _ :: _, h, _ => by simp at h
  | _ :: _, [], h, _ => by simp at h
  | j :: js, k :: ks, h, hf => by
    have e0 : f j = some k := hf 0 j rfl
    rw [List.map_cons, List.map_cons]
    unfold renVs renV
    rw [e0, ren_map f js ks (by simpa using h) fun t x e => hf (t + 1) x e]
theorem mapO_flat {f : Nat → Option Nat} : ∀ {js : List Nat} {zss : List (List PV)}, js.length = zss.length → (∀ (t j : Nat), js[t]? = some j → ∃ zs, zss[t]? = some zs ∧ g[j]? = some (.lst zs) ∧ noRefs zs = true) → mapO (pick g f) js = some (zss.map PO.lst)
  | [], [], _, _ => rfl
  | [], _ :: _, h, _ => by simp at h
  | _ :: _, [], h, _ => by simp at h
  | j :: js, z :: zss, h, hf => by
    obtain ⟨zs, e1, e2, e3⟩ := hf 0 j rfl
    have e1 : z = zs := by simpa using e1
    subst e1
    unfold mapO
    rw [show pick g f j = some (.lst z) from by simp [pick, e2, (flatO_of e3).2], mapO_flat (by simpa using h) fun t x e => hf (t + 1) x e]
    rfl
/-- a list of lists in a heap -/
def LL (h : PH) (v : PV) (zss : List (List PV)) : Prop := ∃ (i : Nat) (js : List Nat), v = .ref i ∧ h[i]? = some (.lst (js.map PV.ref)) ∧ (i :: js).Nodup ∧ js.length = zss.length ∧ ∀ (t j : Nat), js[t]? = some j → ∃ zs, zss[t]? = some zs ∧ h[j]? = some (.lst zs) ∧ noRefs zs = true
/-- nothing is handed over, a list of lists comes back -/
theorem call_ll {zss : List (List PV)} (hx : noRefs xs = true) (hm : m xs [] = .ok v g) (hl : LL g v zss) (lz : zss.length ≤ 390) :
    ∃ h', callG takeBack m xs h = .ok (.ref h.length) (h ++ h') ∧ LL (h ++ h') (.ref h.length) zss := by
  obtain ⟨i, js, rfl, e0, nd, hlen, he⟩ := hl
  have hfl : ∀ j ∈ js, ∃ ys, g[j]? = some (.lst ys) ∧ noRefs ys = true := fun j hj => by
    obtain ⟨t, et⟩ := List.mem_iff_getElem?.mp hj
    obtain ⟨zs, _, q⟩ := he t j et
    exact ⟨zs, q⟩
  have nd2 := List.nodup_cons.mp nd
  have rl : reach g FUEL (refsVs [PV.ref i] ++ List.range ([] : List Nat).length) [] = some (i :: js) := by
    have : refsVs [PV.ref i] = [i] := by unfold refsVs refsV refsVs; rfl
    rw [this]
    show reach g (399 + 1) [i] [] = _
    unfold reach
    simp only [List.contains_nil, cond_false, e0, refsO, refs_map, List.append_nil, List.nil_append]
    exact reach_flat js [i] 399 (by omega) hfl nd2.2 fun x hx q => nd2.1 (List.mem_singleton.mp q ▸ hx)
  have nw : newsOf [] (i :: js) = i :: js := by
    unfold newsOf
    exact List.filter_eq_self.mpr fun a _ => by simp
  have bf : ∀ (t n : Nat), (i :: js)[t]? = some n → backF [] (i :: js) h.length n = some (h.length + t) := fun t n e => by
    unfold backF
    simp [idx_at nd e]
  have ks : List Nat := js
  have r0 : renVs (backF [] (i :: js) h.length) [PV.ref i] = some [.ref h.length] := by
    unfold renVs renV renVs
    rw [bf 0 i rfl]
    rfl
  have r1 : renVs (backF [] (i :: js) h.length) (js.map PV.ref) = some (((List.range js.length).map fun t => h.length + (t + 1)).map PV.ref) := by
    refine ren_map _ _ _ (by simp) fun t j e => ?_
    rw [bf (t + 1) j (by simpa using e)]
    have hlt := (List.getElem?_eq_some_iff.mp e).1
    rw [List.getElem?_map, List.getElem?_range hlt]; rfl
  have e := call_gen (m := m) (h := h) (xs := xs) (as := xs) (v := .ref i) (u := .ref h.length) (fp := []) (hc := []) (live := i :: js) (os := []) (ns := .lst (((List.range js.length).map fun t => h.length + (t + 1)).map PV.ref) :: zss.map PO.lst) (g := g) (by rw [refss_no xs hx]; exact reach0 h) (rens_no _ xs hx) rfl hm rl
    (by rw [nw]; exact r0) rfl (by
      rw [nw]
      unfold mapO
      rw [show pick g (backF [] (i :: js) h.length) i = some (.lst (((List.range js.length).map fun t => h.length + (t + 1)).map PV.ref)) from by simp only [pick, e0, renO, r1], mapO_flat hlen he])
  refine ⟨_, e, h.length, (List.range js.length).map fun t => h.length + (t + 1), rfl, ?_, ?_, by simpa using hlen, ?_⟩
  · show (h ++ _)[h.length]? = _
    simp
  · refine List.nodup_cons.mpr ⟨fun q => ?_, ?_⟩
    · obtain ⟨t, _, e⟩ := List.mem_map.mp q
      omega
    · exact (List.nodup_range).map _ fun a b hab => by omega
  · intro t j ej
    rw [List.getElem?_map] at ej
    obtain ⟨s, es, rfl⟩ := Option.map_eq_some_iff.mp ej
    have hlt : s < js.length := by
      have := List.mem_of_getElem? es
      exact List.mem_range.mp this
    have : s = t := by
      have hl := (List.getElem?_eq_some_iff.mp es)
      obtain ⟨hl, q⟩ := hl
      simpa using q.symm
    subst this
    obtain ⟨zs, q1, q2, q3⟩ := he s js[s] (List.getElem?_eq_getElem hlt)
    refine ⟨zs, q1, ?_, q3⟩
    show (h ++ _)[h.length + (s + 1)]? = _
    rw [List.getElem?_append_right (by omega)]
    have : h.length + (s + 1) - h.length = s + 1 := by omega
    rw [this, List.getElem?_cons_succ, List.getElem?_map, q1]; rfl
end
end MC

end
section
set_option maxRecDepth 100000
set_option maxHeartbeats 4000000
namespace MM
open PySem L2 MC
theorem between_ok (v a b : Int) : m_is_between [.int v, .int a, .int b] [] = .ok (.bl (decide (a ≤ v) && decide (v ≤ b))) [] := by
  unfold m_is_between
  by_cases h1 : a ≤ v <;> by_cases h2 : v ≤ b <;> simp [b_is_between, kindP, isiT, tb_int, tb_bool, List.lookup, h1, h2]
theorem between_c (v a b : Int) (h : PH) : callG takeBack m_is_between [.int v, .int a, .int b] h = .ok (.bl (decide (a ≤ v) && decide (v ≤ b))) h :=
  call_pure rfl (between_ok v a b) rfl
def gl (n : Int) (v : PV) : Prop := v = .non ∨ ∃ i, v = .int i ∧ 0 ≤ i ∧ i < n
theorem goal_c (v : PV) (n : Int) (g : gl n v) (h : PH) : callG takeBack m_is_goal [v, .int n] h = .ok (.bl true) h := by
  have : m_is_goal [v, .int n] [] = .ok (.bl true) [] := by
    unfold m_is_goal
    rcases g with rfl | ⟨i, rfl, h0, h1⟩
    · simp [b_is_goal, MC.isNon]
    · simp [b_is_goal, MC.isNon, between_c, h0, show i ≤ n - 1 by omega]
  rcases g with rfl | ⟨i, rfl, _⟩ <;> exact call_pure rfl this rfl
def rowOk (n : Int) (L : Nat) (x : PV) : Prop := ∃ gs, x = .tup gs ∧ gs.length = L ∧ ∀ g ∈ gs, gl n g
theorem num_at {xs : List PV} {i : Nat} {p : PV} (e : (numbered 0 xs)[i]? = some p) : ∃ x, xs[i]? = some x ∧ p = .tup [.int (i : Nat), x] := by
  rw [numbered_get] at e
  split at e
  · rename_i x ex
    cases e
    exact ⟨x, ex, by rw [Nat.zero_add]⟩
  · cases e
theorem map_true (gs : List PV) : gs.map (fun _ => PV.bl true) = List.replicate gs.length (.bl true) := by
  rw [List.map_const']
theorem wrong_arrows_w (rows : List PV) (L : Nat) (hL : L ≤ 5) (hr : ∀ r ∈ rows, rowOk rows.length L r) : Ws (m_wrong_arrows [.tup rows, .int L] []) fun v _ => v = .non := by
  unfold m_wrong_arrows
  simp [b_wrong_arrows]
  refine forB (fun i e h => ∃ x y z, e = [some (.tup rows), some (.int L), x, y, z]) ⟨_, _, _, rfl⟩ (fun _ _ _ _ => rfl) (fun i p env h hp ⟨x, y, z, ee⟩ => ?_) fun env h ⟨x, y, z, ee⟩ => ?_
  · subst ee
    obtain ⟨r, hr0, rfl⟩ := num_at hp
    obtain ⟨gs, rfl, hgl, hg⟩ := hr r (List.mem_of_getElem? hr0)
    simp [isiT, tb_tuple, List.lookup, hgl]
    refine mapB (fun _ => .bl true) (fun _ => True) trivial (by rw [hgl]; exact Nat.le_trans hL (by decide)) (fun g hg0 h _ => ⟨_, rfl, ?_⟩) fun h0 _ => ?_
    · simp [wipeE, goal_c g _ (hg g hg0)]
    · simp [map_true, all_last (bls_true _)]
  · subst ee; simp
theorem rows_noref : ∀ {rows : List PV} {n : Int} {L : Nat}, (∀ r ∈ rows, rowOk n L r) → noRefs rows = true := by
  intro rows n L hr
  have gls : ∀ gs : List PV, (∀ g ∈ gs, gl n g) → noRefs gs = true := by
    intro gs
    induction gs with
    | nil => intro _; rfl
    | cons g gs ih =>
      intro hg
      unfold noRefs
      rw [ih fun x hx => hg x (List.mem_cons_of_mem _ hx), Bool.and_true]
      rcases hg g List.mem_cons_self with rfl | ⟨i, rfl, _⟩ <;> rfl
  induction rows with
  | nil => rfl
  | cons r rs ih =>
    unfold noRefs
    rw [ih fun x hx => hr x (List.mem_cons_of_mem _ hx), Bool.and_true]
    obtain ⟨gs, rfl, _, hg⟩ := hr r List.mem_cons_self
    unfold noRef
    exact gls gs hg
theorem ints_noref : ∀ is : List Int, noRefs (is.map PV.int) = true
  | [] => rfl
  | i :: is => by
    rw [List.map_cons]
    unfold noRefs
    rw [ints_noref is]; rfl
theorem wrong_arrows_c (rows : List PV) (L : Nat) (hL : L ≤ 5) (hr : ∀ r ∈ rows, rowOk rows.length L r) (h : PH) : callG takeBack m_wrong_arrows [.tup rows, .int L] h = .ok .non h :=
  call_pureW (by simp [noRefs, noRef, rows_noref hr]) (wrong_arrows_w rows L hL hr) rfl
/-- the ends: ever greater, within the stands -/
def endsOk (n : Int) (is : List Int) : Prop := is.Pairwise (· < ·) ∧ ∀ i ∈ is, 0 ≤ i ∧ i < n
theorem wrong_end_w (is : List Int) (n : Int) (hi : endsOk n is) : Ws (m_wrong_end [.tup (is.map PV.int), .int n] []) fun v _ => v = .non := by
  unfold m_wrong_end
  simp [b_wrong_end]
  refine forB (fun j e h => ∃ l y z, e = [some (.tup (is.map PV.int)), some (.int n), some (.int l), y, z] ∧ ∀ k v, j ≤ k → is[k]? = some v → l < v) ⟨-1, _, _, rfl, fun k v _ e => ?_⟩ (fun _ _ _ _ => rfl) (fun j p env h hp ⟨l, y, z, ee, hl⟩ => ?_) fun env h ⟨l, y, z, ee, _⟩ => ?_
  · have := hi.2 v (List.mem_of_getElem? e); omega
  · subst ee
    obtain ⟨r, hr0, rfl⟩ := num_at hp
    rw [List.getElem?_map] at hr0
    obtain ⟨v, hv, rfl⟩ := Option.map_eq_some_iff.mp hr0
    have b1 := hi.2 v (List.mem_of_getElem? hv)
    have b2 := hl j v (Nat.le_refl _) hv
    simp [between_c, show 0 ≤ v from b1.1, show v ≤ n - 1 by omega, show ¬ v ≤ l by omega]
    intro k u hk hu
    obtain ⟨l1, e1⟩ := List.getElem?_eq_some_iff.mp hv
    obtain ⟨l2, e2⟩ := List.getElem?_eq_some_iff.mp hu
    have := List.pairwise_iff_getElem.mp hi.1 j k l1 l2 (by omega)
    rw [e1, e2] at this
    exact this
  · subst ee; simp
theorem wrong_end_c (is : List Int) (n : Int) (hi : endsOk n is) (h : PH) : callG takeBack m_wrong_end [.tup (is.map PV.int), .int n] h = .ok .non h :=
  call_pureW (by simp [noRefs, noRef, ints_noref]) (wrong_end_w is n hi) rfl
/-- a machine's value -/
def mach (L : Nat) (rows : List PV) (is : List Int) : PV := .ins 0 [([108, 101, 116, 116, 101, 114, 115], .int L), ([97, 114, 114, 111, 119, 115], .tup rows), ([101, 110, 100, 115], .tup (is.map PV.int))]
structure MachOk (L : Nat) (rows : List PV) (is : List Int) : Prop where
  l1 : 1 ≤ L
  l5 : L ≤ 5
  n1 : 1 ≤ rows.length
  n8 : rows.length ≤ 8
  rws : ∀ r ∈ rows, rowOk rows.length L r
  ends : endsOk rows.length is
theorem init_w (L : Nat) (rows : List PV) (is : List Int) (ok : MachOk L rows is) : Ws (m_Machine___init__ [.ref 0, .int L, .tup rows, .tup (is.map PV.int)] [.ins 0 []]) fun v g => v = .non ∧ g[0]? = some (.ins 0 [([108, 101, 116, 116, 101, 114, 115], .int L), ([97, 114, 114, 111, 119, 115], .tup rows), ([101, 110, 100, 115], .tup (is.map PV.int))]) := by
  have hL : 1 ≤ (L : Int) ∧ (L : Int) ≤ 5 := ⟨by have := ok.l1; omega, by have := ok.l5; omega⟩
  have hn : 1 ≤ (rows.length : Int) ∧ (rows.length : Int) ≤ 8 := ⟨by have := ok.n1; omega, by have := ok.n8; omega⟩
  unfold m_Machine___init__
  simp [b_Machine___init__, between_c, hL.1, hL.2, hn.1, hn.2, isiT, tb_tuple, List.lookup, wrong_arrows_c rows L ok.l5 ok.rws, wrong_end_c is _ ok.ends, cs_letters, cs_arrows, cs_ends, putP]
theorem make_c (L : Nat) (rows : List PV) (is : List Int) (ok : MachOk L rows is) (h : PH) : callG takeFrz (initM 0 m_Machine___init__ [0, 1, 2, 3] []) [.int L, .tup rows, .tup (is.map PV.int)] h = .ok (mach L rows is) h := by
  have r1 := rows_noref ok.rws
  obtain ⟨v, g, e, rfl, hg⟩ := init_w L rows is ok
  refine call_frz (i := 0) (g := g) (by simp [noRefs, noRef, r1, ints_noref]) ?_ hg (by simp [noRefs, noRef, r1, ints_noref])
  unfold initM
  simp [e]
theorem strs_noref : ∀ ws : List (List Nat), noRefs (ws.map PV.str) = true
  | [] => rfl
  | w :: ws => by
    rw [List.map_cons]
    unfold noRefs
    rw [strs_noref ws]; rfl
theorem signs_true (s : List Nat) : (signsOf s).map (fun _ => PV.bl true) = List.replicate s.length (.bl true) := by
  rw [List.map_const']
  unfold signsOf
  rw [List.length_map]
theorem mem_signs {s : List Nat} {x : PV} (h : x ∈ signsOf s) : ∃ c ∈ s, x = .str [c] := by
  obtain ⟨c, hc, e⟩ := List.mem_map.mp h
  exact ⟨c, hc, e.symm⟩
theorem lim_of {n : Nat} (h : n ≤ 1000) : n ≤ LIM := Nat.le_trans h (by decide)
section
variable {L : Nat} {rows : List PV} {is : List Int} {ws us : List (List Nat)}
theorem mach_noref (ok : MachOk L rows is) : noRef (mach L rows is) = true := by
  simp [mach, noRef, noRefF, noRefs, rows_noref ok.rws, ints_noref]
theorem check_machine_c (ok : MachOk L rows is) (h : PH) : callG takeBack m_check_machine [mach L rows is] h = .ok .non h := by
  refine call_pureW (by simp [noRefs, mach_noref ok]) ?_ rfl
  unfold m_check_machine
  simp [b_check_machine, mach, isiT, cs_isi_Machine, List.lookup]
end
end MM

end
section
set_option maxRecDepth 100000
set_option maxHeartbeats 4000000
namespace MC
open PySem L2
section
variable {β : Type} {h : PH} {n : Nat}
theorem filtW {g : Tg} {t : MT} {m : ME} {e0 : En} {wt : Wt} {Q : β → PH → Prop} {k : PV → PH → R β} (p : PV → Bool) (f : PV → PV) (J : PH → Prop) {xs : List PV} (hw : ∀ h, J h → watch wt h = true) (j0 : J h) (hl : xs.length ≤ LIM)
    (hs : ∀ x ∈ xs, ∀ h, J h → ∃ e, tgM g x e0 = some e ∧ Ws (t e h) fun c h1 => c = p x ∧ J h1 ∧ (p x = true → Ws (m e h1) fun y h2 => y = f x ∧ J h2))
    (hd : ∀ h0, J h0 → Ws (k (.ref h0.length) (h0 ++ [.lst ((xs.filter p).map f)])) Q) : Ws ((lcL g t m wt e0 xs [] h).bind k) Q := by
  refine Ws.bind (Ws_lc (Q := fun v h' => ∃ h0, J h0 ∧ v = .ref h0.length ∧ h' = h0 ++ [.lst ((xs.filter p).map f)]) (fun i acc h => i ≤ xs.length ∧ acc = ((xs.take i).filter p).map f ∧ J h) ⟨Nat.zero_le _, rfl, j0⟩ (fun _ _ h ⟨_, _, j⟩ => hw h j) (fun i x acc h e ⟨hi, ea, jh⟩ => ?_) fun acc h ⟨_, ea, jh⟩ => ?_) fun v h' ⟨h0, j, e1, e2⟩ => by rw [e1, e2]; exact hd h0 j
  · have hlt := (List.getElem?_eq_some_iff.mp e).1
    obtain ⟨e1, t1, w⟩ := hs x (List.mem_of_getElem? e) h jh
    refine ⟨e1, t1, w.mono fun c h1 ⟨ec, j1, w2⟩ => ?_⟩
    have tk : ((xs.take (i + 1)).filter p).map f = ((xs.take i).filter p).map f ++ (if p x then [f x] else []) := by
      rw [List.take_add_one, e, List.filter_append, List.map_append]
      cases q : p x <;> simp [q]
    subst ec
    cases q : p x with
    | false => exact ⟨hlt, by rw [tk, q, ea]; simp, j1⟩
    | true =>
      refine (w2 q).mono fun y h2 ⟨ey, j2⟩ => ⟨?_, hlt, by rw [tk, q, ea, ey]; simp, j2⟩
      have : ((xs.take i).filter p).length ≤ (xs.take i).length := List.length_filter_le ..
      rw [ea, List.length_map]
      rw [List.length_take] at this
      omega
  · subst ea
    rw [List.take_length]
    exact ⟨h, jh, rfl, rfl⟩
theorem ints_map : ∀ is : List Int, intsP (is.map PV.int) = some is
  | [] => rfl
  | i :: is => by simp [intsP, ints_map is]
theorem sum_last {is : List Int} : bSum (h ++ [.lst (is.map PV.int)]) [.ref h.length] = .ok (.int is.sum) (h ++ [.lst (is.map PV.int)]) := by
  have : lstP (h ++ [PO.lst (is.map PV.int)]) (.ref h.length) = some (is.map PV.int) := by simp [lstP]
  simp only [bSum, this, ints_map]
theorem in_ints {k : Int} {is : List Int} : opIn false h (.int k) (.tup (is.map PV.int)) = .ok (.bl (decide (k ∈ is))) h := by
  have m : ∀ is : List Int, mapO (toD h DEP) (is.map PV.int) = some (is.map PyData.int) := by
    intro is
    induction is with
    | nil => rfl
    | cons i r ih =>
      rw [List.map_cons]
      unfold mapO
      rw [show toD h DEP (.int i) = some (.int i) from rfl, ih]; rfl
  have c : ∀ is : List Int, PyData.canLayAll0 (is.map PyData.int) = true := by
    intro is
    induction is with
    | nil => rfl
    | cons i r ih => simp [PyData.canLayAll0, PyData.canLay0, ih]
  have a : ((is.map PyData.int).any fun z => PyData.eqv z (.int k)) = decide (k ∈ is) := by
    induction is with
    | nil => rfl
    | cons i r ih =>
      rw [List.map_cons, List.any_cons, ih]
      by_cases e : i = k
      · subst e; simp [PyData.eqv]
      · have e2 : ¬ k = i := fun q => e q.symm
        simp [PyData.eqv, e, e2]
  show inItems false h (.int k) (is.map PV.int) = _
  unfold inItems
  rw [m, show toD h DEP (.int k) = some (.int k) from rfl]
  have s : SeqAt.shaped (.int k) = true := by simp [SeqAt.shaped, PyData.canLay0, PyData.depth]
  simp only [s, c, a, Bool.and_self, cond_true, negB, cond_false]
theorem app_c {xs : List PV} {v : PV} (e : h[n]? = some (.lst xs)) (hl : xs.length < LIM) : oAppend h [.ref n, v] = .ok .non (h.set n (.lst (xs ++ [v]))) := by
  simp only [oAppend, e, decide_eq_true hl, cond_true]
theorem len_seqI {n : Nat} : (seqI 0 n).length = n := by unfold seqI; rw [List.length_map, List.length_range]
theorem at_seqI {n t : Nat} {x : PV} (e : (seqI 0 n)[t]? = some x) : t < n ∧ x = .int t := by
  have hl := (List.getElem?_eq_some_iff.mp e).1
  rw [len_seqI] at hl
  unfold seqI at e
  rw [List.getElem?_map, List.getElem?_range hl] at e
  cases e
  exact ⟨hl, by simp⟩
theorem mem_seqI {n : Nat} {x : PV} (h : x ∈ seqI 0 n) : ∃ i : Nat, i < n ∧ x = .int i := by
  unfold seqI at h
  obtain ⟨i, hi, e⟩ := List.mem_map.mp h
  exact ⟨i, List.mem_range.mp hi, by rw [← e]; simp⟩
theorem inR_small {i : Int} (h0 : 0 ≤ i) (h1 : i ≤ 1000) : inR i = true := by unfold inR L62; simp; omega
theorem ix_last {xs : List PV} {x : PV} (e0 : h[n]? = some (.lst (xs ++ [x]))) : opIx h (.ref n) (.int (-1)) = .ok x h := by
  have : opIx h (.ref n) (.int (-1)) = ixL h (xs ++ [x]) (.int (-1)) := by simp [opIx, e0]
  rw [this]
  have z : L2.atI (xs ++ [x]) (-1) = some x := by
    unfold L2.atI
    have : ixN (xs ++ [x]).length (-1) = some xs.length := by unfold ixN; simp; omega
    rw [this]; simp
  show (match L2.atI (xs ++ [x]) (-1) with
    | some v => R.ok v h
    | none => .stuck) = _
  rw [z]
end
end MC
namespace MM
open PySem L2 MC
def ov : Option Nat → PV
  | none => .non
  | some g => .int g
def rowV (r : List (Option Nat)) : PV := .tup (r.map ov)
def rowsV (rs : List (List (Option Nat))) : List PV := rs.map rowV
def enI (es : List Nat) : List Int := es.map fun (e : Nat) => (e : Int)
def gsOf (rs : List (List (Option Nat))) (k : Nat) : List Nat := ((rs[k]?).getD []).filterMap id
/-- how many rows of t letters lead from stand k to an end -/
def Bt (rs : List (List (Option Nat))) (es : List Nat) : Nat → Nat → Nat
  | 0, k => if k ∈ es then 1 else 0
  | t + 1, k => ((gsOf rs k).map (Bt rs es t)).sum
def cnts (rs : List (List (Option Nat))) (es : List Nat) (t : Nat) : List PV := (List.range rs.length).map fun k => .int (Bt rs es t k)
section
variable {L : Nat} {rs : List (List (Option Nat))} {es : List Nat}
theorem rowsV_len : (rowsV rs).length = rs.length := by unfold rowsV; rw [List.length_map]
theorem cnts_noref (t : Nat) : noRefs (cnts rs es t) = true := by
  have := ints_noref ((List.range rs.length).map fun k => (Bt rs es t k : Int))
  unfold cnts
  rw [List.map_map] at this
  exact this
/-- a good machine, as data -/
def TO (L : Nat) (rs : List (List (Option Nat))) (es : List Nat) : Prop := MachOk L (rowsV rs) (enI es)
def mk (L : Nat) (rs : List (List (Option Nat))) (es : List Nat) : PV := mach L (rowsV rs) (enI es)
theorem TO.row (o : TO L rs es) {k : Nat} {r : List (Option Nat)} (e : rs[k]? = some r) : r.length = L ∧ ∀ g, some g ∈ r → g < rs.length := by
  have := o.rws (rowV r) (by unfold rowsV; exact List.mem_map.mpr ⟨r, List.mem_of_getElem? e, rfl⟩)
  obtain ⟨gs, q1, q2, q3⟩ := this
  have q1 : r.map ov = gs := by
    unfold rowV at q1
    exact PV.tup.inj q1
  subst q1
  refine ⟨by simpa using q2, fun g hg => ?_⟩
  have := q3 (ov (some g)) (List.mem_map.mpr ⟨_, hg, rfl⟩)
  rw [rowsV_len] at this
  rcases this with q | ⟨i, q, a, b⟩
  · cases q
  · have : (g : Int) = i := by unfold ov at q; exact PV.int.inj q
    omega
theorem TO.goals (o : TO L rs es) (k : Nat) : (gsOf rs k).length ≤ 5 ∧ ∀ g ∈ gsOf rs k, g < rs.length := by
  unfold gsOf
  cases e : rs[k]? with
  | none => exact ⟨Nat.zero_le _, fun _ h => nomatch h⟩
  | some r =>
    obtain ⟨l, h⟩ := o.row e
    refine ⟨?_, fun g hg => ?_⟩
    · have := List.length_filterMap_le id r
      have := o.l5
      show (r.filterMap id).length ≤ 5
      omega
    · obtain ⟨x, hx, q⟩ := List.mem_filterMap.mp hg
      have : x = some g := q
      exact h g (this ▸ hx)
theorem Bt_le (o : TO L rs es) : ∀ t k, Bt rs es t k ≤ 5 ^ t
  | 0, k => by unfold Bt; split <;> decide
  | t + 1, k => by
    obtain ⟨l, _⟩ := o.goals k
    have : ∀ gs : List Nat, (gs.map (Bt rs es t)).sum ≤ gs.length * 5 ^ t := by
      intro gs
      induction gs with
      | nil => simp
      | cons g gs ih =>
        have := Bt_le o t g
        rw [List.map_cons, List.sum_cons, List.length_cons, Nat.add_mul]
        omega
    have h1 := this (gsOf rs k)
    have h2 : (gsOf rs k).length * 5 ^ t ≤ 5 * 5 ^ t := Nat.mul_le_mul_right _ l
    unfold Bt
    rw [Nat.pow_succ, Nat.mul_comm]
    omega
theorem en_mem {k : Nat} : ((k : Int) ∈ enI es) ↔ k ∈ es := by
  unfold enI
  rw [List.mem_map]
  exact ⟨fun ⟨a, h, e⟩ => by have : a = k := by omega
                             exact this ▸ h, fun h => ⟨k, h, rfl⟩⟩
theorem end_counts_c (o : TO L rs es) (h : PH) : callG takeBack m_end_counts [mk L rs es] h = .ok (.ref h.length) (h ++ [.lst (cnts rs es 0)]) := by
  have nm : noRef (mk L rs es) = true := mach_noref o
  have n8 : rs.length ≤ 8 := by have := o.n8; rw [rowsV_len] at this; exact this
  have w : Ws (m_end_counts [mk L rs es] []) fun v g => v = .ref 0 ∧ g = [.lst (cnts rs es 0)] := by
    unfold m_end_counts
    simp [b_end_counts, mk, mach, cs_arrows, lookF, rowsV_len, inR_small (i := (rs.length : Int)) (by omega) (by omega)]
    refine mapB (fun x => match x with
      | .int i => .int (if i ∈ enI es then 1 else 0)
      | _ => .non) (fun h => h = []) rfl (by rw [len_seqI]; exact lim_of (by omega)) (fun x hx h e => ?_) fun h0 e => ?_
    · subst e
      obtain ⟨k, hk, rfl⟩ := mem_seqI hx
      refine ⟨_, rfl, ?_⟩
      by_cases q : (k : Int) ∈ enI es <;> simp [wipeE, cs_ends, lookF, in_ints, q]
    · subst e
      simp
      unfold seqI cnts
      rw [List.map_map]
      refine List.map_congr_left fun k hk => ?_
      show PV.int (if (0 + (k : Int)) ∈ enI es then 1 else 0) = _
      rw [Int.zero_add]
      unfold Bt
      by_cases q : k ∈ es
      · rw [if_pos (en_mem.mpr q), if_pos q]; rfl
      · rw [if_neg (fun z => q (en_mem.mp z)), if_neg q]; rfl
  obtain ⟨v, g, e, rfl, rfl⟩ := w
  exact call_newl (i := 0) (ys := cnts rs es 0) (by simp [noRefs, nm]) e rfl (cnts_noref 0)
theorem sum_nat (f : Nat → Nat) : ∀ l : List Nat, (l.map fun g => ((f g : Nat) : Int)).sum = (((l.map f).sum : Nat) : Int)
  | [] => rfl
  | a :: l => by simp [sum_nat f l]
theorem filt_row (f : PV → Int) (F : Nat → Nat) (hf : ∀ g : Nat, f (.int g) = F g) : ∀ r : List (Option Nat), (((r.map ov).filter fun x => !MC.isNon x).map f).sum = ((((r.filterMap id).map F).sum : Nat) : Int)
  | [] => rfl
  | none :: r => by
    have := filt_row f F hf r
    simpa [ov] using this
  | some g :: r => by
    have := filt_row f F hf r
    simp [ov, hf, this]
def bI (rs : List (List (Option Nat))) (es : List Nat) (t : Nat) (x : PV) : Int := match x with
  | .int i => ((Bt rs es t i.toNat : Nat) : Int)
  | _ => 0
theorem counts_before_c (o : TO L rs es) {t j : Nat} {h : PH} (hj : h[j]? = some (.lst (cnts rs es t))) : callG takeBack m_counts_before [mk L rs es, .ref j] h = .ok (.ref h.length) (h ++ [.lst (cnts rs es (t + 1))]) := by
  have nm : noRef (mk L rs es) = true := mach_noref o
  have n8 : rs.length ≤ 8 := by have := o.n8; rw [rowsV_len] at this; exact this
  have w : Ws (m_counts_before [mk L rs es, .ref 0] [.lst (cnts rs es t)]) fun v g => v = .ref 1 ∧ g[0]? = some (.lst (cnts rs es t)) ∧ g[1]? = some (.lst (cnts rs es (t + 1))) := by
    unfold m_counts_before
    simp [b_counts_before, mk, mach, cs_arrows, lookF, LIM]
    refine forB (fun i e h => ∃ x y, e = [some (mach L (rowsV rs) (enI es)), some (.ref 0), some (.ref 1), x, y] ∧ h[0]? = some (.lst (cnts rs es t)) ∧ h[1]? = some (.lst ((cnts rs es (t + 1)).take i))) ⟨_, _, rfl, rfl, by simp⟩ (fun _ _ _ _ => rfl) (fun i x env h hx ⟨y, z, ee, h0, h1⟩ => ?_) fun env h ⟨y, z, ee, h0, h1⟩ => ?_
    · subst ee
      unfold rowsV at hx
      rw [List.getElem?_map] at hx
      obtain ⟨r, hr, rfl⟩ := Option.map_eq_some_iff.mp hx
      obtain ⟨lr, hg⟩ := o.row hr
      have hi := (List.getElem?_eq_some_iff.mp hr).1
      simp [ty_lst h1, rowV]
      refine filtW (fun x => !MC.isNon x) (fun x => .int (bI rs es t x)) (fun h => h[0]? = some (.lst (cnts rs es t)) ∧ h[1]? = some (.lst ((cnts rs es (t + 1)).take i))) (fun _ _ => rfl) ⟨h0, h1⟩ (by rw [List.length_map]; exact lim_of (by have := o.l5; omega)) (fun x hx h ⟨g0, g1⟩ => ?_) fun h3 ⟨g0, g1⟩ => ?_
      · obtain ⟨a, ha, rfl⟩ := List.mem_map.mp hx
        refine ⟨_, rfl, ?_⟩
        cases a with
        | none => simp [wipeE, ov, MC.isNon, g0, g1]
        | some a =>
          have hl := hg a ha
          have e1 : (cnts rs es t)[a]? = some (.int (Bt rs es t a)) := by
            unfold cnts
            rw [List.getElem?_map, List.getElem?_range hl]; rfl
          simp [wipeE, ov, MC.isNon, ix_ref g0 e1, g0, g1, bI]
      · have e2 := filt_row (bI rs es t) (Bt rs es t) (fun g => by simp [bI]) r
        have e : (((r.map ov).filter fun x => !MC.isNon x).map fun x => PV.int (bI rs es t x)) = (((r.map ov).filter fun x => !MC.isNon x).map (bI rs es t)).map PV.int := by rw [List.map_map]; rfl
        rw [e]
        have sl := sum_last (h := h3) (is := ((r.map ov).filter fun x => !MC.isNon x).map (bI rs es t))
        rw [e2] at sl
        have es' : gsOf rs i = r.filterMap id := by unfold gsOf; rw [hr]; rfl
        have lt : (List.take i (cnts rs es (t + 1))).length < LIM := by
          rw [List.length_take]
          exact Nat.lt_of_le_of_lt (Nat.min_le_left _ _) (Nat.lt_of_lt_of_le (show i < 1000 by omega) (by decide))
        have nx : (cnts rs es (t + 1)).take (i + 1) = (cnts rs es (t + 1)).take i ++ [.int ((List.map (Bt rs es t) (List.filterMap id r)).sum : Nat)] := by
          rw [List.take_add_one]
          refine congrArg (List.take i (cnts rs es (t + 1)) ++ ·) ?_
          unfold cnts
          rw [List.getElem?_map, List.getElem?_range hi]
          show [PV.int (Bt rs es (t + 1) i)] = _
          unfold Bt
          rw [es']
        simp only [List.map_map] at sl
        have ap : ∀ v, oAppend (h3 ++ [PO.lst (List.map (PV.int ∘ bI rs es t) (List.filter (fun x => !MC.isNon x) (List.map ov r)))]) [.ref 1, v] = _ := fun v => app_c (get_app g1) lt
        have l1 : 1 < h3.length := (List.getElem?_eq_some_iff.mp g1).1
        simp [sl, ap, nx, l1, g0, List.getElem?_append_left, show 0 < h3.length by omega]
        exact (List.getElem?_eq_some_iff.mp g0).2
    · subst ee
      simp
      refine ⟨h0, ?_⟩
      rw [h1, List.take_of_length_le]
      simp [cnts, rowsV_len]
  obtain ⟨v, g, e, rfl, g0, g1⟩ := w
  exact call_1n (i := 1) (by unfold refsVs refsVs; rw [refs_no _ nm]; simp [refsV, refsVs]) (as := [mk L rs es, .ref 0]) (by unfold renVs renVs; rw [ren_no _ _ nm]; simp [renV, idx_hd, renVs]) hj (cnts_noref t) e (by decide) g0 g1 (cnts_noref (t + 1))

theorem n8 (o : TO L rs es) : 1 ≤ rs.length ∧ rs.length ≤ 8 := by
  have h1 := o.n1
  have h8 := o.n8
  rw [rowsV_len] at h1 h8
  exact ⟨h1, h8⟩
def lls (rs : List (List (Option Nat))) (es : List Nat) (n : Nat) : List (List PV) := (List.range n).map (cnts rs es)
/-- the list of lists that grows -/
def AC (rs : List (List (Option Nat))) (es : List Nat) (i : Nat) (h : PH) : Prop := ∃ js : List Nat, h[1]? = some (.lst (js.map PV.ref)) ∧ (1 :: js).Nodup ∧ js.length = i + 1 ∧ ∀ (t j : Nat), js[t]? = some j → h[j]? = some (.lst (cnts rs es t))
theorem AC.more {i : Nat} {h : PH} (hi : i < 300) : AC rs es i h → ∃ j, h[j]? = some (.lst (cnts rs es i)) ∧ isTy h 1 (.ref 1) = true ∧ opIx h (.ref 1) (.int (-1)) = .ok (.ref j) h ∧ ∃ h', oAppend (h ++ [PO.lst (cnts rs es (i + 1))]) [.ref 1, .ref h.length] = .ok .non h' ∧ AC rs es (i + 1) h' := by
  intro ⟨js, h1, nd, lj, hj⟩
  have nn := List.nodup_cons.mp nd
  obtain ⟨j, ej⟩ : ∃ j, js[i]? = some j := ⟨_, List.getElem?_eq_getElem (by omega)⟩
  have sp : js = js.take i ++ [j] := by
    have a : js.take (i + 1) = js := List.take_of_length_le (by omega)
    rw [List.take_add_one, ej] at a
    exact a.symm
  have spm : js.map PV.ref = (js.take i).map PV.ref ++ [.ref j] := by
    have := congrArg (List.map PV.ref) sp
    rw [List.map_append] at this
    exact this
  have l1 := (List.getElem?_eq_some_iff.mp h1).1
  refine ⟨j, hj i j ej, ty_lst h1, ix_last (xs := (js.take i).map PV.ref) (by rw [h1, spm]), _, app_c (get_app h1) (by rw [List.length_map]; exact Nat.lt_of_le_of_lt (show js.length ≤ 301 by omega) (by decide)), js ++ [h.length], ?_, ?_, by simp [lj], fun t k e => ?_⟩
  · rw [List.getElem?_set_self (by rw [List.length_append]; omega)]; simp
  · have lt : ∀ k ∈ js, k < h.length := fun k hk => by
      obtain ⟨t, et⟩ := List.mem_iff_getElem?.mp hk
      exact (List.getElem?_eq_some_iff.mp (hj t k et)).1
    refine List.nodup_cons.mpr ⟨?_, ?_⟩
    · intro q
      rcases List.mem_append.mp q with q | q
      · exact nn.1 q
      · have := List.mem_singleton.mp q
        omega
    · refine List.nodup_append.mpr ⟨nn.2, by simp, fun a ha b hb q => ?_⟩
      have := lt a ha
      rw [List.mem_singleton.mp hb] at q
      omega
  · have ne : ∀ k ∈ js, 1 ≠ k := fun k hk q => nn.1 (q ▸ hk)
    by_cases ht : t < js.length
    · rw [List.getElem?_append_left ht] at e
      rw [List.getElem?_set_ne (ne k (List.mem_of_getElem? e))]
      exact get_app (hj t k e)
    · rw [List.getElem?_append_right (by omega)] at e
      have : t - js.length = 0 := by
        rcases Nat.eq_zero_or_pos (t - js.length) with z | z
        · exact z
        · rw [List.getElem?_eq_none (by simp; omega)] at e; cases e
      rw [this] at e
      have e : h.length = k := by simpa using e
      subst e
      rw [List.getElem?_set_ne (by omega), show t = i + 1 by omega]
      simp
theorem all_counts_w (o : TO L rs es) (n : Nat) (hn : n ≤ 300) : Ws (m_all_counts [mk L rs es, .int n] []) fun v g => LL g v (lls rs es (n + 1)) := by
  unfold m_all_counts
  simp [b_all_counts, end_counts_c o, LIM]
  simp [inR_small (i := (n : Int)) (by omega) (by omega)]
  refine forB (fun i e h => ∃ x, e = [some (mk L rs es), some (.int n), some (.ref 1), x] ∧ AC rs es i h)
    ⟨_, rfl, [0], rfl, by decide, rfl, fun t j e => ?_⟩ (fun _ _ _ _ => rfl) (fun i x env h hx ⟨y, ee, ac⟩ => ?_) fun env h ⟨y, ee, js, h1, nd, lj, hj⟩ => ?_
  · match t with
    | 0 => cases e; rfl
    | t + 1 => simp at e
  · subst ee
    have hi := (at_seqI hx).1
    obtain ⟨j, hj, ty, ex, h', ap, ac'⟩ := ac.more (by omega)
    have cb := counts_before_c o hj
    simp [ty, ex, cb, ap, ac']
  · subst ee
    rw [len_seqI] at lj
    simp
    refine ⟨1, js, rfl, h1, nd, by simp [lls, lj], fun t j e => ⟨cnts rs es t, ?_, hj t j e, cnts_noref t⟩⟩
    have := (List.getElem?_eq_some_iff.mp e).1
    unfold lls
    rw [List.getElem?_map, List.getElem?_range (by omega)]; rfl
theorem all_counts_c (o : TO L rs es) (n : Nat) (hn : n ≤ 300) (h : PH) : ∃ h', callG takeBack m_all_counts [mk L rs es, .int n] h = .ok (.ref h.length) (h ++ h') ∧ LL (h ++ h') (.ref h.length) (lls rs es (n + 1)) := by
  have nm : noRef (mk L rs es) = true := mach_noref o
  obtain ⟨v, g, e, hl⟩ := all_counts_w o n hn
  exact call_ll (by simp [noRefs, nm, noRef]) e hl (by simp [lls]; omega)
theorem _root_.MC.LL.two {h : PH} {v : PV} {zss : List (List PV)} (l : LL h v zss) {t k : Nat} {zs : List PV} {z : PV} (e : zss[t]? = some zs) (e2 : zs[k]? = some z) : ∃ j, opIx h v (.int t) = .ok (.ref j) h ∧ opIx h (.ref j) (.int k) = .ok z h := by
  obtain ⟨i, js, rfl, e0, nd, hlen, he⟩ := l
  have : t < js.length := by rw [hlen]; exact (List.getElem?_eq_some_iff.mp e).1
  obtain ⟨zs', q1, q2, q3⟩ := he t js[t] (List.getElem?_eq_getElem this)
  rw [e] at q1
  cases q1
  exact ⟨js[t], ix_ref e0 (by rw [List.getElem?_map, List.getElem?_eq_getElem this]; rfl), ix_ref q2 e2⟩
theorem lls_at {n t : Nat} (h : t < n) : (lls rs es n)[t]? = some (cnts rs es t) := by
  unfold lls
  rw [List.getElem?_map, List.getElem?_range h]; rfl
theorem cnts_at {t k : Nat} (h : k < rs.length) : (cnts rs es t)[k]? = some (.int (Bt rs es t k)) := by
  unfold cnts
  rw [List.getElem?_map, List.getElem?_range h]; rfl
theorem count_of_c (o : TO L rs es) (n : Nat) (hn : n ≤ 300) (h : PH) : callG takeBack m_count_of [mk L rs es, .int n] h = .ok (.int (Bt rs es n 0)) h := by
  have nm : noRef (mk L rs es) = true := mach_noref o
  refine call_pureW (by simp [noRefs, nm, noRef]) ?_ rfl
  obtain ⟨h', e, l⟩ := all_counts_c o n hn []
  obtain ⟨j, x1, x2⟩ := l.two (t := n) (k := 0) (lls_at (by omega)) (cnts_at (n8 o).1)
  have x2 : opIx ([] ++ h') (.ref j) (.int 0) = _ := x2
  unfold m_count_of
  simp [b_count_of]
  rw [e]
  simp only [bind_ok]
  simp
  have x1 : opIx h' (.ref 0) (.int n) = .ok (.ref j) h' := x1
  have x2 : opIx h' (.ref j) (.int 0) = _ := x2
  simp [x1, x2]
end
end MM

end
section
set_option maxRecDepth 100000
set_option maxHeartbeats 4000000
namespace MM
open PySem L2 MC
def dg (n : Int) (v : PV) : Prop := ∃ d, v = .int d ∧ 0 ≤ d ∧ d < n
theorem pour_ok (n : Int) (h0 : 0 < n) (h1 : n < B30) (a b c : Int) : ∃ d a' b' c', 0 ≤ d ∧ d < n ∧ m__law_pour [.ref 0, .int n] [skd a b c] = .ok (.int d) [skd a' b' c'] := by
  have m1 : ∀ h (i : Int), opMul h (.int i) (.int 43019) = .ok (.int (i * 43019)) h := fun h i => v_mul (.inr (by decide))
  have m2 : ∀ h (i : Int), opMul h (.int i) (.int 51001) = .ok (.int (i * 51001)) h := fun h i => v_mul (.inr (by decide))
  have m3 : ∀ h (i : Int), opMul h (.int i) (.int 83) = .ok (.int (i * 83)) h := fun h i => v_mul (.inr (by decide))
  have ix0 : ∀ (a b c : Int), opIx [skd a b c] (.ref 0) (.int 0) = .ok (.int a) [skd a b c] := fun _ _ _ => rfl
  have ix1 : ∀ (a b c : Int), opIx [skd a b c] (.ref 0) (.int 1) = .ok (.int b) [skd a b c] := fun _ _ _ => rfl
  have ix2 : ∀ (a b c : Int), opIx [skd a b c] (.ref 0) (.int 2) = .ok (.int c) [skd a b c] := fun _ _ _ => rfl
  have p0 : ∀ (a b c x : Int), oSetIx [skd a b c] (.ref 0) (.int 0) (.int x) = .ok () [skd x b c] := fun _ _ _ _ => rfl
  have p1 : ∀ (a b c x : Int), oSetIx [skd a b c] (.ref 0) (.int 1) (.int x) = .ok () [skd a x c] := fun _ _ _ _ => rfl
  have p2 : ∀ (a b c x : Int), oSetIx [skd a b c] (.ref 0) (.int 2) (.int x) = .ok () [skd a b x] := fun _ _ _ _ => rfl
  by_cases hb : 0 < a
  · refine ⟨a % n, a / n, b, c, Int.emod_nonneg _ (by omega), Int.emod_lt_of_pos _ h0, ?_⟩
    unfold m__law_pour
    simp [b__law_pour, ix0, p0, hb, h0, h1]
  · refine ⟨((b * 43019 + b / 7013 * 83 + (c + 3) * 51001) % 2147483423 / 409) % n, a, (b * 43019 + b / 7013 * 83 + (c + 3) * 51001) % 2147483423, c + 3, Int.emod_nonneg _ (by omega), Int.emod_lt_of_pos _ h0, ?_⟩
    unfold m__law_pour
    simp [b__law_pour, ix0, ix1, ix2, p0, p1, p2, m1, m2, m3, hb, h0, h1]
theorem pour_f {n : Int} (h0 : 0 < n) (h1 : n < B30) : Fs m__law_pour [.int n] (dg n) := fun a b c => by
  obtain ⟨d, a', b', c', d0, d1, e⟩ := pour_ok n h0 h1 a b c
  exact ⟨_, _, e, ⟨a', b', c', rfl⟩, rfl, d, rfl, d0, d1⟩
theorem pour_u {α : Type} {n : Int} {h : PH} {j : Nat} {k : PV → PH → R α} {Q : α → PH → Prop} (h0 : 0 < n) (h1 : n ≤ 1000) (d : Dr j h) (q : ∀ (i : Nat) h', (i : Int) < n → Dr j h' → But j h h' → Ws (k (.int i) h') Q) : Ws ((callG takeBack m__law_pour [.ref j, .int n] h).bind k) Q :=
  (pour_f h0 (by unfold B30; omega)).use rfl d fun v h' _ ⟨i, e, i0, i1⟩ d' b => by
    subst e
    obtain ⟨m, rfl⟩ : ∃ m : Nat, i = m := ⟨i.toNat, by omega⟩
    exact q m h' i1 d' b
theorem one_of_f (us : List PV) (hu : 0 < us.length) (hl : us.length ≤ 1000) (hn : noRefs us = true) (hv : ∀ x ∈ us, noRef x = true) : Fs2 m__law_one_of us [] (fun v => v ∈ us) := fun a b c => by
  unfold m__law_one_of
  simp [b__law_one_of, len_ref (h := [skd a b c, .lst us]) (n := 1) rfl]
  refine pour_u (by omega) (by omega) ⟨a, b, c, rfl⟩ fun j h' i1 d' bt => ?_
  have hj : j < us.length := by omega
  have e : us[j]? = some us[j] := List.getElem?_eq_getElem hj
  have e1 : h'[1]? = some (.lst us) := by rw [bt.2 1 (by decide)]; rfl
  simp [ix_ref e1 e]
  exact ⟨d', ⟨us, e1, hn⟩, hv _ (List.mem_of_getElem? e)⟩
/-- a plan: letters, rows, ends -/
def plnV (L : Nat) (rows : List PV) (is : List Int) : PV := .tup [.int L, .tup rows, .tup (is.map PV.int)]
def pl (L : Nat) (rs : List (List (Option Nat))) (es : List Nat) : PV := plnV L (rowsV rs) (enI es)
theorem row_of {ys : List PV} {n : Nat} (h : ∀ y ∈ ys, gl n y) : ∃ r : List (Option Nat), ys = r.map ov := by
  induction ys with
  | nil => exact ⟨[], rfl⟩
  | cons y ys ih =>
    obtain ⟨r, e⟩ := ih fun x hx => h x (List.mem_cons_of_mem _ hx)
    rcases h y List.mem_cons_self with q | ⟨i, q, i0, _⟩
    · exact ⟨none :: r, by rw [List.map_cons, ← e, q]; rfl⟩
    · refine ⟨some i.toNat :: r, ?_⟩
      rw [List.map_cons, ← e, q]
      show _ = PV.int (i.toNat : Nat) :: ys
      rw [show ((i.toNat : Nat) : Int) = i by omega]
/-- rows of n stands told as data -/
theorem typed_of {L : Nat} {rows : List PV} {is : List Int} (ok : MachOk L rows is) : ∃ rs es, rows = rowsV rs ∧ is = enI es ∧ TO L rs es := by
  have hr : ∀ rows : List PV, (∀ r ∈ rows, ∃ n, rowOk n L r ∧ n = (rows.length : Int) ∨ ∃ n : Nat, rowOk (n : Int) L r) → True := fun _ _ => trivial
  have h1 : ∀ (n : Nat) (rows : List PV), (∀ r ∈ rows, rowOk (n : Int) L r) → ∃ rs, rows = rowsV rs := by
    intro n rows
    induction rows with
    | nil => exact fun _ => ⟨[], rfl⟩
    | cons r rows ih =>
      intro h
      obtain ⟨rs, e⟩ := ih fun x hx => h x (List.mem_cons_of_mem _ hx)
      obtain ⟨gs, e1, _, hg⟩ := h r List.mem_cons_self
      obtain ⟨t, e2⟩ := row_of hg
      exact ⟨t :: rs, by rw [e1, e2, e]; rfl⟩
  have h2 : ∀ is : List Int, (∀ i ∈ is, 0 ≤ i) → ∃ es, is = enI es := by
    intro is
    induction is with
    | nil => exact fun _ => ⟨[], rfl⟩
    | cons i is ih =>
      intro h
      obtain ⟨es, e⟩ := ih fun x hx => h x (List.mem_cons_of_mem _ hx)
      have := h i List.mem_cons_self
      refine ⟨i.toNat :: es, ?_⟩
      unfold enI
      rw [List.map_cons, show ((i.toNat : Nat) : Int) = i by omega, e]; rfl
  obtain ⟨rs, e1⟩ := h1 rows.length rows ok.rws
  obtain ⟨es, e2⟩ := h2 is fun i hi => (ok.ends.2 i hi).1
  exact ⟨rs, es, e1, e2, by unfold TO; rw [← e1, ← e2]; exact ok⟩
end MM

end
section
set_option maxRecDepth 100000
set_option maxHeartbeats 4000000
namespace MM
open PySem L2 MC
theorem machine_f (M W : Nat) (hM : 1 ≤ M ∧ M ≤ 8) (hW : 1 ≤ W ∧ W ≤ 5) : Fs m__law_machine [.int M, .int W] (fun v => ∃ L rows is, v = plnV L rows is ∧ MachOk L rows is) := fun a b c => by
  unfold m__law_machine
  simp [b__law_machine]
  refine pour_u (by omega) (by omega) ⟨a, b, c, rfl⟩ fun i h1 i1 d1 b1 => ?_
  simp
  refine pour_u (by omega) (by omega) d1 fun l h2 l1 d2 b2 => ?_
  obtain ⟨N, eN, n1, n8⟩ : ∃ N : Nat, 1 + (i : Int) = (N : Int) ∧ 1 ≤ N ∧ N ≤ 8 := ⟨1 + i, by omega, by omega, by omega⟩
  obtain ⟨L, eL, L1, L5⟩ : ∃ L : Nat, 1 + (l : Int) = (L : Int) ∧ 1 ≤ L ∧ L ≤ 5 := ⟨1 + l, by omega, by omega, by omega⟩
  have l3 : h2.length = 1 := by rw [b2.1, b1.1]; rfl
  rw [eN]
  simp
  rw [eL]
  simp [LIM, inR_small (i := (N : Int)) (by omega) (by omega), l3]
  refine forB (fun t e h => ∃ x6 rs, e = [some (.ref 0), some (.int M), some (.int W), some (.int N), some (.int L), some (.ref 1), x6, none, none] ∧ Dr 0 h ∧ h[1]? = some (.lst rs) ∧ rs.length = t ∧ ∀ r ∈ rs, rowOk N L r)
    ⟨_, [], rfl, d2.app, by rw [← l3]; exact last_at, rfl, fun _ z => nomatch z⟩ (fun _ _ _ _ => rfl) (fun t x env h hx ⟨x6, rs, ee, dh, hr, lr, pr⟩ => ?_) fun env h ⟨x6, rs, ee, dh, hr, lr, pr⟩ => ?_
  · subst ee
    obtain ⟨ht, rfl⟩ := at_seqI hx
    simp [ty_lst hr, inR_small (i := (L : Int)) (by omega) (by omega)]
    refine mapPB (fun y => gl N y) (fun h => Dr 0 h ∧ h[1]? = some (.lst rs)) ⟨dh, hr⟩ (by rw [len_seqI]; exact lim_of (by omega)) (fun y hy h dh => ⟨_, rfl, ?_⟩) fun h4 ys d4 ly py => ?_
    · simp [wipeE]
      refine pour_u (by omega) (by omega) dh.1 fun q h6 q1 d6 b6 => ?_
      have r6 : h6[1]? = some (.lst rs) := by rw [b6.2 1 (by decide)]; exact dh.2
      by_cases e0 : 0 < q
      · simp [e0]
        exact ((pour_f (n := (N : Int)) (by omega) (by unfold B30; omega)).call rfl d6).mono fun v h' ⟨_, ⟨g, e, g0, g1⟩, d, b'⟩ => ⟨.inr ⟨g, e, g0, g1⟩, d, by rw [b'.2 1 (by decide)]; exact r6⟩
      · have : q = 0 := by omega
        subst this
        simp
        exact ⟨.inl rfl, d6, r6⟩
    · rw [len_seqI] at ly
      have k1 : (h4 ++ [PO.lst ys])[h4.length]? = some (.lst ys) := last_at
      have ap := app_c (h := h4 ++ [PO.lst ys]) (n := 1) (v := .tup ys) (get_app d4.2) (Nat.lt_of_le_of_lt (show rs.length ≤ 8 by omega) (by decide))
      simp [v_btupR k1, ap]
      refine ⟨?_, rs ++ [.tup ys], ?_, by simp [lr], fun r hr => ?_⟩
      · obtain ⟨a', b', c', ea⟩ := d4.1
        exact ⟨a', b', c', by rw [List.getElem?_set_ne (by decide)]; exact get_app ea⟩
      · rw [List.getElem?_set_self (List.getElem?_eq_some_iff.mp (get_app (os := [PO.lst ys]) d4.2)).1]
      · rcases List.mem_append.mp hr with q | q
        · exact pr r q
        · rw [List.mem_singleton.mp q]; exact ⟨ys, rfl, ly, py⟩
  · subst ee
    simp [inR_small (i := (N : Int)) (by omega) (by omega)]
    rw [len_seqI] at lr
    refine Ws.bind (Ws_lc (Q := fun v h' => ∃ h0 is, Dr 0 h0 ∧ h0[1]? = some (.lst rs) ∧ endsOk N is ∧ v = .ref h0.length ∧ h' = h0 ++ [.lst (is.map PV.int)]) (fun t acc h => Dr 0 h ∧ h[1]? = some (.lst rs) ∧ acc.length ≤ t ∧ ∃ is : List Int, acc = is.map PV.int ∧ is.Pairwise (· < ·) ∧ ∀ i ∈ is, 0 ≤ i ∧ i < t)
      ⟨dh, hr, Nat.le_refl _, [], rfl, .nil, fun _ z => nomatch z⟩ (fun _ _ _ _ => rfl) (fun t x acc h e ⟨dh, hr, la, is, ea, pw, bd⟩ => ?_) fun acc h ⟨dh, hr, la, is, ea, pw, bd⟩ => ⟨h, is, dh, hr, ⟨pw, by rw [len_seqI] at bd; exact bd⟩, rfl, by rw [ea]⟩) fun v h' ⟨h0, is, d0, r0, oke, ev, eh⟩ => ?_
    · obtain ⟨ht, rfl⟩ := at_seqI e
      refine ⟨_, rfl, ?_⟩
      simp [wipeE]
      refine pour_u (by omega) (by omega) dh fun q h6 q1 d6 b6 => ?_
      have r6 : h6[1]? = some (.lst rs) := by rw [b6.2 1 (by decide)]; exact hr
      by_cases e0 : q = 0
      · simp [e0]
        refine ⟨Nat.lt_of_le_of_lt (show acc.length ≤ 8 by omega) (by decide), d6, r6, la, is ++ [(t : Int)], by rw [ea]; simp, ?_, fun j hj => ?_⟩
        · refine List.pairwise_append.mpr ⟨pw, List.pairwise_singleton _ _, fun x hx y hy => ?_⟩
          rw [List.mem_singleton.mp hy]
          exact (bd x hx).2
        · rcases List.mem_append.mp hj with z | z
          · have := bd j z; omega
          · rw [List.mem_singleton.mp z]; omega
      · simp [e0]
        exact ⟨d6, r6, by omega, is, ea, pw, fun j hj => by have := bd j hj; omega⟩
    · subst ev; subst eh
      have mok : ∀ is, endsOk N is → MachOk L rs is := fun is q => ⟨L1, L5, by omega, by omega, by rw [lr]; exact pr, by rw [lr]; exact q⟩
      have fin : ∀ (is : List Int), endsOk N is → noRef (PV.tup [.int L, .tup rs, .tup (is.map PV.int)]) = true ∧ ∃ L' rows is', PV.tup [.int L, .tup rs, .tup (is.map PV.int)] = plnV L' rows is' ∧ MachOk L' rows is' := fun is q =>
        ⟨by simp [noRef, noRefs, rows_noref pr, ints_noref], L, rs, is, rfl, mok is q⟩
      have e1 : (h0 ++ [PO.lst (is.map PV.int), PO.lst []])[h0.length]? = some (.lst (is.map PV.int)) := by simp
      have e2 : (h0 ++ [PO.lst (is.map PV.int), PO.lst []])[h0.length + 1]? = some (.lst []) := by simp
      have d1' : Dr 0 (h0 ++ [PO.lst (is.map PV.int), PO.lst []]) := d0.app
      have r1 : (h0 ++ [PO.lst (is.map PV.int), PO.lst []])[1]? = some (.lst rs) := get_app r0
      simp [eq_nil e1 e2]
      cases is with
      | cons i0' r =>
        simp [-List.map_cons, v_btupR r1, v_btupR e1, LIM]
        exact ⟨d1', fin _ oke⟩
      | nil =>
        simp
        refine pour_u (by omega) (by omega) d1' fun q h6 q1 d6 b6 => ?_
        have r6 : h6[1]? = some (.lst rs) := by rw [b6.2 1 (by decide)]; exact r1
        have h00 : h0.length ≠ 0 := by have := d0.lt; omega
        have k6 : h6[h0.length]? = some (.lst (([] : List Int).map PV.int)) := by rw [b6.2 _ h00]; exact e1
        by_cases e0 : 0 < q
        · simp [e0]
          refine pour_u (by omega) (by omega) d6 fun u h7 u1 d7 b7 => ?_
          have r7 : h7[1]? = some (.lst rs) := by rw [b7.2 1 (by decide)]; exact r6
          simp [v_btupR (h := h7 ++ [.lst [.int u]]) (n := 1) (get_app r7), v_btupR (h := h7 ++ [.lst [.int u]]) (n := h7.length) last_at, LIM]
          refine ⟨d7.app, fin [u] ⟨List.pairwise_singleton _ _, fun x hx => by rw [List.mem_singleton.mp hx]; exact ⟨by omega, u1⟩⟩⟩
        · have : q = 0 := by omega
          subst this
          simp
          simp [v_btupR r6, v_btupR k6, LIM]
          exact ⟨d6, fin [] oke⟩
end MM

end
section
set_option maxRecDepth 100000
set_option maxHeartbeats 4000000
namespace MM
open PySem L2 MC
def dotF : List Nat → (Nat → Nat) → Nat
  | [], _ => 0
  | x :: r, b => x * b 0 + dotF r fun i => b (i + 1)
theorem dot_set : ∀ (l : List Nat) (g x : Nat) (b : Nat → Nat) (v : Nat), l[g]? = some v → dotF (l.set g (v + x)) b = dotF l b + x * b g
  | [], _, _, _, _, e => by simp at e
  | y :: r, 0, x, b, v, e => by
    have : y = v := by simpa using e
    subst this
    show (y + x) * b 0 + dotF r _ = y * b 0 + dotF r _ + x * b 0
    rw [Nat.add_mul]; omega
  | y :: r, g + 1, x, b, v, e => by
    have := dot_set r g x (fun i => b (i + 1)) v (by simpa using e)
    show y * b 0 + dotF (r.set g (v + x)) _ = y * b 0 + dotF r _ + _
    rw [this]; omega
theorem dot_add : ∀ (l : List Nat) (b c : Nat → Nat), dotF l (fun i => b i + c i) = dotF l b + dotF l c
  | [], _, _ => rfl
  | x :: r, b, c => by
    unfold dotF
    rw [dot_add r (fun i => b (i + 1)) fun i => c (i + 1), Nat.mul_add]; omega
theorem dot_zero : ∀ (l : List Nat), dotF l (fun _ => 0) = 0
  | [] => rfl
  | x :: r => by unfold dotF; rw [dot_zero r]; simp
theorem dot_at : ∀ (l : List Nat) (g v : Nat), l[g]? = some v → dotF l (fun i => if i = g then 1 else 0) = v
  | [], _, _, e => by simp at e
  | y :: r, 0, v, e => by
    have : y = v := by simpa using e
    subst this
    unfold dotF
    have : (fun i => if i + 1 = 0 then 1 else 0 : Nat → Nat) = fun _ => 0 := by funext i; simp
    rw [this, dot_zero]; simp
  | y :: r, g + 1, v, e => by
    unfold dotF
    have : (fun i => if i + 1 = g + 1 then 1 else 0 : Nat → Nat) = fun i => if i = g then 1 else 0 := by funext i; simp
    rw [this, dot_at r g v (by simpa using e)]; simp
theorem dot_fn (l : List Nat) {b c : Nat → Nat} (h : ∀ i, b i = c i) : dotF l b = dotF l c := by rw [funext h]
theorem dot_ends (l : List Nat) : ∀ es : List Nat, es.Nodup → (∀ e ∈ es, e < l.length) → (es.map fun e => (l[e]?).getD 0).sum = dotF l fun k => if k ∈ es then 1 else 0
  | [], _, _ => by simp [dot_zero]
  | e :: es, nd, hl => by
    have ih := dot_ends l es (List.nodup_cons.mp nd).2 fun x hx => hl x (List.mem_cons_of_mem _ hx)
    have el : l[e]? = some (l[e]'(hl e List.mem_cons_self)) := List.getElem?_eq_getElem _
    have h : ∀ k, (if k ∈ e :: es then 1 else 0 : Nat) = (if k = e then 1 else 0) + (if k ∈ es then 1 else 0) := fun k => by
      by_cases q : k = e
      · subst q
        have := (List.nodup_cons.mp nd).1
        simp [this]
      · simp [q]
    rw [dot_fn l h, dot_add, dot_at l e _ el, ← ih, List.map_cons, List.sum_cons, el]; rfl
/-- the first k of them -/
theorem dot_take : ∀ (l : List Nat) (k : Nat) (b : Nat → Nat) (v : Nat), l[k]? = some v → dotF (l.take (k + 1)) b = dotF (l.take k) b + v * b k
  | [], _, _, _, e => by simp at e
  | y :: r, 0, b, v, e => by
    have : y = v := by simpa using e
    subst this
    simp [dotF]
  | y :: r, k + 1, b, v, e => by
    have := dot_take r k (fun i => b (i + 1)) v (by simpa using e)
    show y * b 0 + dotF (r.take (k + 1)) _ = y * b 0 + dotF (r.take k) _ + _
    rw [this]; omega
theorem dot_one (n : Nat) (b : Nat → Nat) : dotF ((List.range (n + 1)).map fun k => if k = 0 then 1 else 0) b = b 0 := by
  have h : ∀ (n m : Nat) (b : Nat → Nat), dotF ((List.range' (m + 1) n).map fun k => if k = 0 then 1 else 0) b = 0 := by
    intro n
    induction n with
    | zero => exact fun _ _ => rfl
    | succ n ih =>
      intro m b
      rw [List.range'_succ, List.map_cons]
      unfold dotF
      rw [ih (m + 1)]; simp
  rw [List.range_eq_range', List.range'_succ, List.map_cons]
  unfold dotF
  rw [h n 0]; simp
def nats (l : List Nat) : List PV := l.map fun (n : Nat) => .int n
theorem nats_noref (l : List Nat) : noRefs (nats l) = true := by
  have := ints_noref (l.map fun (n : Nat) => (n : Int))
  rw [List.map_map] at this
  exact this
theorem nats_at {l : List Nat} {k v : Nat} (e : l[k]? = some v) : (nats l)[k]? = some (.int v) := by
  unfold nats
  rw [List.getElem?_map, e]; rfl
theorem set_c {h : PH} {n : Nat} {xs : List PV} {i : Nat} {v : PV} (e : h[n]? = some (.lst xs)) (hi : i < xs.length) : oSetIx h (.ref n) (.int i) v = .ok () (h.set n (.lst (xs.set i v))) := by
  have z : ixN xs.length (i : Int) = some i := by unfold ixN; simp [hi]
  simp only [oSetIx, e, z]
theorem rep1 (n : Nat) : (List.replicate n [PV.int 0]).flatten = nats (List.replicate n 0) := by
  induction n with
  | zero => rfl
  | succ n ih => rw [List.replicate_succ, List.flatten_cons, ih]; rfl
theorem dot_rep (n : Nat) (b : Nat → Nat) : dotF (List.replicate n 0) b = 0 := by
  induction n generalizing b with
  | zero => rfl
  | succ n ih => rw [List.replicate_succ]; unfold dotF; rw [ih]; simp
section
variable {L : Nat} {rs : List (List (Option Nat))} {es : List Nat}
theorem pl0 (h : PH) : opIx h (pl L rs es) (.int 0) = .ok (.int L) h := ix_tup (i := 0) rfl
theorem pl1 (h : PH) : opIx h (pl L rs es) (.int 1) = .ok (.tup (rowsV rs)) h := ix_tup (i := 1) rfl
theorem pl2 (h : PH) : opIx h (pl L rs es) (.int 2) = .ok (.tup ((enI es).map PV.int)) h := ix_tup (i := 2) rfl
theorem pl_noref (o : TO L rs es) : noRef (pl L rs es) = true := by
  simp [pl, plnV, noRef, noRefs, rows_noref o.rws, ints_noref]
/-- the goals of the first letters -/
theorem goals_take {r : List (Option Nat)} {i : Nat} (x : Option Nat) (e : r[i]? = some x) : (r.take (i + 1)).filterMap id = (r.take i).filterMap id ++ x.toList := by
  rw [List.take_add_one, e, List.filterMap_append]
  cases x <;> rfl
theorem len_inc : ∀ (is : List Int) (a n : Int), is.Pairwise (· < ·) → (∀ i ∈ is, a ≤ i ∧ i < n) → a ≤ n → (is.length : Int) ≤ n - a
  | [], a, n, _, _, h => by simp; omega
  | i :: is, a, n, pw, hb, h => by
    have hp := List.pairwise_cons.mp pw
    have h0 := hb i List.mem_cons_self
    have := len_inc is (i + 1) n hp.2 (fun j hj => ⟨by have := hp.1 j hj; omega, (hb j (List.mem_cons_of_mem _ hj)).2⟩) (by omega)
    rw [List.length_cons]
    omega
theorem ends_len (o : TO L rs es) : es.length ≤ 8 := by
  have := len_inc (enI es) 0 (rowsV rs).length o.ends.1 o.ends.2 (by omega)
  have h8 := o.n8
  unfold enI at this
  rw [List.length_map] at this
  omega
theorem ends_nd (o : TO L rs es) : es.Nodup := by
  have h : (enI es).Pairwise (· < ·) := o.ends.1
  unfold enI at h
  rw [List.pairwise_map] at h
  exact h.imp fun {a b} q => by omega
theorem law_count_c (o : TO L rs es) (n : Nat) (hn : n ≤ 300) (h : PH) : callG takeBack m__law_count [pl L rs es, .int n] h = .ok (.int (Bt rs es n 0)) h := by
  obtain ⟨r1, r8⟩ := n8 o
  refine call_pureW (by simp [noRefs, pl_noref o, noRef]) ?_ rfl
  unfold m__law_count
  simp [b__law_count, pl1, rowsV_len]
  simp [inR_small (i := (rs.length : Int)) (by omega) (by omega)]
  refine mapB (fun x => match x with
    | .int i => .int (if i = 0 then 1 else 0)
    | _ => .non) (fun h => h = []) rfl (by rw [len_seqI]; exact lim_of (by omega)) (fun x hx h e => ?_) fun h0 e => ?_
  · subst e
    obtain ⟨k, hk, rfl⟩ := mem_seqI hx
    refine ⟨_, rfl, ?_⟩
    by_cases q : (k : Int) = 0 <;> simp [wipeE, q, MC.bInt]
  · subst e
    have e0 : ((seqI 0 rs.length).map fun x => match x with
      | .int i => PV.int (if i = 0 then 1 else 0)
      | _ => .non) = nats ((List.range rs.length).map fun k => if k = 0 then 1 else 0) := by
      unfold seqI nats
      rw [List.map_map, List.map_map]
      refine List.map_congr_left fun k hk => ?_
      show PV.int (if (0 + (k : Int)) = 0 then 1 else 0) = PV.int (((if k = 0 then 1 else 0 : Nat) : Nat) : Int)
      by_cases q : k = 0
      · subst q; rfl
      · rw [if_neg (by omega), if_neg q]; rfl
    rw [e0]
    simp [inR_small (i := (n : Int)) (by omega) (by omega)]
    refine forB (fun i e h => ∃ x2 p x4 x5 x6 hs, e = [some (pl L rs es), some (.int n), x2, some (.ref p), x4, x5, x6] ∧ h[p]? = some (.lst (nats hs)) ∧ hs.length = rs.length ∧ dotF hs (Bt rs es (n - i)) = Bt rs es n 0)
      ⟨_, 0, _, _, _, _, rfl, rfl, by simp, ?_⟩ (fun _ _ _ _ => rfl) (fun i x env h hx ⟨x2, p, x4, x5, x6, hs, ee, hp, lh, hd⟩ => ?_) fun env h ⟨x2, p, x4, x5, x6, hs, ee, hp, lh, hd⟩ => ?_
    · obtain ⟨m, em⟩ : ∃ m, rs.length = m + 1 := ⟨rs.length - 1, by omega⟩
      rw [em]; exact dot_one m _
    · subst ee
      obtain ⟨hi, rfl⟩ := at_seqI hx
      have mul : opMul (h ++ [PO.lst [.int 0]]) (.ref h.length) (.int hs.length) = .ok (.ref (h.length + 1)) (h ++ [PO.lst [.int 0], .lst (nats (List.replicate hs.length 0))]) := by
        have g : (h ++ [PO.lst [PV.int 0]])[h.length]? = some (.lst [.int 0]) := last_at
        have c : (decide (-1000000 ≤ (hs.length : Int)) && decide ((hs.length : Int) ≤ 1000) && decide ([PV.int 0].length ≤ 1000)) = true := by simp; omega
        have z := rep1 hs.length
        simp only [opMul, g, c, cond_true]
        rw [show ((hs.length : Int)).toNat = hs.length by omega, z]
        simp
      have ln : ∀ h : PH, h[p]? = some (.lst (nats hs)) → bLen h [.ref p] = .ok (.int hs.length) h := fun h e => by
        have := len_ref e
        rw [show (nats hs).length = hs.length from by simp [nats]] at this
        exact this
      simp [LIM, ln _ (get_app hp), mul]
      have hp2 : (h ++ [PO.lst [PV.int 0], PO.lst (nats (List.replicate hs.length 0))])[p]? = some (.lst (nats hs)) := get_app hp
      simp [ln _ hp2, inR_small (i := (hs.length : Int)) (by omega) (by omega)]
      have pne : p ≠ h.length + 1 := by have := (List.getElem?_eq_some_iff.mp hp).1; omega
      obtain ⟨s, es'⟩ : ∃ s, n - i = s + 1 := ⟨n - i - 1, by omega⟩
      have es2 : n - (i + 1) = s := by omega
      rw [es'] at hd
      refine forB (fun k e h' => ∃ y2 y6 ls, e = [some (pl L rs es), some (.int n), y2, some (.ref p), some (.int i), some (.ref (h.length + 1)), y6] ∧ h'[p]? = some (.lst (nats hs)) ∧ h'[h.length + 1]? = some (.lst (nats ls)) ∧ ls.length = rs.length ∧ dotF ls (Bt rs es s) = dotF (hs.take k) (Bt rs es (s + 1)))
        ⟨_, _, List.replicate hs.length 0, rfl, hp2, by simp, by simp [lh], by rw [dot_rep]; rfl⟩ (fun _ _ _ _ => rfl) (fun k x env h' hx ⟨y2, y6, ls, ee, gp, gl, ll, gd⟩ => ?_) fun env h' ⟨y2, y6, ls, ee, gp, gl, ll, gd⟩ => ?_
      · subst ee
        obtain ⟨hk, rfl⟩ := at_seqI hx
        obtain ⟨r, er⟩ : ∃ r, rs[k]? = some r := ⟨_, List.getElem?_eq_getElem (by omega)⟩
        obtain ⟨v, ev⟩ : ∃ v, hs[k]? = some v := ⟨_, List.getElem?_eq_getElem (by omega)⟩
        obtain ⟨rl, rg⟩ := o.row er
        have ixr : ∀ h, opIx h (.tup (rowsV rs)) (.int (k : Int)) = .ok (rowV r) h := fun h => ix_tup (by unfold rowsV; rw [List.getElem?_map, er]; rfl)
        simp [pl1, ixr, rowV]
        have gk : gsOf rs k = r.filterMap id := by unfold gsOf; rw [er]; rfl
        refine forB (fun j e h' => ∃ y6 ls, e = [some (pl L rs es), some (.int n), some (.int k), some (.ref p), some (.int i), some (.ref (h.length + 1)), y6] ∧ h'[p]? = some (.lst (nats hs)) ∧ h'[h.length + 1]? = some (.lst (nats ls)) ∧ ls.length = rs.length ∧ dotF ls (Bt rs es s) = dotF (hs.take k) (Bt rs es (s + 1)) + v * (((r.take j).filterMap id).map (Bt rs es s)).sum)
          ⟨_, ls, rfl, gp, gl, ll, by rw [gd]; simp⟩ (fun _ _ _ _ => rfl) (fun j x env h' hx ⟨y6, ls, ee, gp, gl, ll, gd⟩ => ?_) fun env h' ⟨y6, ls, ee, gp, gl, ll, gd⟩ => ?_
        · subst ee
          rw [List.getElem?_map] at hx
          obtain ⟨g, eg, rfl⟩ := Option.map_eq_some_iff.mp hx
          have tk := goals_take g eg
          cases g with
          | none =>
            simp [ov, MC.isNon]
            exact ⟨gp, ls, gl, ll, by rw [gd, tk]; simp⟩
          | some g =>
            have hg := rg g (List.mem_of_getElem? eg)
            obtain ⟨u, eu⟩ : ∃ u, ls[g]? = some u := ⟨_, List.getElem?_eq_getElem (by omega)⟩
            have st := set_c (v := .int ((u : Int) + v)) gl (show g < (nats ls).length by unfold nats; rw [List.length_map]; omega)
            simp [ov, MC.isNon, ix_ref gl (nats_at eu), ix_ref gp (nats_at ev), st]
            refine ⟨?_, ls.set g (u + v), ?_, by simp [ll], ?_⟩
            · rw [List.getElem?_set_ne (Ne.symm pne)]; exact gp
            · rw [List.getElem?_set_self (List.getElem?_eq_some_iff.mp gl).1]
              unfold nats
              rw [List.map_set]; rfl
            · rw [dot_set ls g v _ u eu, gd, tk, List.map_append, List.sum_append, Nat.mul_add]
              simp; omega
        · subst ee
          simp
          refine ⟨gp, ls, gl, ll, ?_⟩
          rw [gd, List.length_map, List.take_length, dot_take hs k _ v ev]
          show _ = dotF (hs.take k) (Bt rs es (s + 1)) + v * ((gsOf rs k).map (Bt rs es s)).sum
          rw [gk]
      · subst ee
        rw [len_seqI, List.take_length] at gd
        simp
        exact ⟨_, _, ⟨rfl, rfl⟩, ls, gl, ll, by rw [es2, gd]; exact hd⟩
    · subst ee
      rw [len_seqI, Nat.sub_self] at hd
      simp [pl2]
      refine mapB (fun x => match x with
        | .int i => .int ((hs[i.toNat]?).getD 0 : Nat)
        | _ => .non) (fun h' => h' = h) rfl (by unfold enI; rw [List.length_map, List.length_map]; exact lim_of (by
          have := ends_len o
          omega)) (fun x hx h' e => ?_) fun h' e => ?_
      · subst e
        obtain ⟨i, hi, rfl⟩ := List.mem_map.mp hx
        unfold enI at hi
        obtain ⟨k, hk, rfl⟩ := List.mem_map.mp hi
        have := o.ends.2 k (en_mem.mpr hk)
        rw [rowsV_len] at this
        have ek : hs[k]? = some hs[k] := List.getElem?_eq_getElem (by omega)
        refine ⟨_, rfl, ?_⟩
        simp [wipeE, ix_ref hp (nats_at ek)]
        rw [ek]; rfl
      · subst e
        have e1 : ((enI es).map PV.int).map (fun x => match x with
          | .int i => PV.int ((hs[i.toNat]?).getD 0 : Nat)
          | _ => .non) = (es.map fun e => (((hs[e]?).getD 0 : Nat) : Int)).map PV.int := by
          unfold enI
          rw [List.map_map, List.map_map, List.map_map]
          rfl
        have e2 : (es.map fun e => (((hs[e]?).getD 0 : Nat) : Int)).sum = (Bt rs es n 0 : Nat) := by
          rw [sum_nat (fun e => (hs[e]?).getD 0) es, dot_ends hs es (ends_nd o) fun e he => ?_]
          · exact congrArg Nat.cast hd
          · have := o.ends.2 e (en_mem.mpr he)
            rw [rowsV_len] at this
            omega
        have sl := sum_last (h := h') (is := es.map fun e => (((hs[e]?).getD 0 : Nat) : Int))
        rw [e2] at sl
        rw [e1]
        simp only [List.map_map] at sl ⊢
        simp [sl]
end
end MM

end
section
set_option maxRecDepth 100000
set_option maxHeartbeats 4000000
namespace MC
open PySem L2
theorem cut_to {α : Type} (xs : List α) (j : Nat) : cutG xs none (some (j : Int)) = xs.take j := by
  unfold cutG
  rw [show HT.sIx xs.length 0 none = 0 from rfl, HT.sIx_nat]
  simp only [List.drop_zero, Nat.sub_zero]
  rw [← List.take_eq_take_min]
theorem cut_from {α : Type} (xs : List α) (j : Nat) : cutG xs (some (j : Int)) none = xs.drop j := by
  unfold cutG
  rw [show HT.sIx xs.length xs.length none = xs.length from rfl, HT.sIx_nat]
  have e : xs.drop (min j xs.length) = xs.drop j := by
    by_cases h : j ≤ xs.length
    · rw [Nat.min_eq_left h]
    · rw [Nat.min_eq_right (by omega), List.drop_of_length_le (Nat.le_refl _), List.drop_of_length_le (by omega)]
  rw [e]
  exact List.take_of_length_le (by rw [List.length_drop]; omega)
theorem sl_tup {h : PH} {xs : List PV} {lo hi : Option Int} : opSl h (.tup xs) lo hi = .ok (.tup (cutG xs lo hi)) h := by rfl
theorem len_scr {xs : List PV} {h : PH} : bLen h [.scr xs] = .ok (.int xs.length) h := by simp only [bLen, seqP]
theorem ix_scr {h : PH} {xs : List PV} {i : Nat} {x : PV} (e : xs[i]? = some x) : opIx h (.scr xs) (.int i) = .ok x h := by
  have z : L2.atI xs (i : Int) = some x := atI_nat e
  simp only [opIx, ixL, z]
theorem sl_scr {h : PH} {xs : List PV} {lo hi : Option Int} : opSl h (.scr xs) lo hi = .ok (.ref h.length) (h ++ [.lst (cutG xs lo hi)]) := by simp only [opSl]
end MC
namespace MM
open PySem L2 MC
theorem m83 (k : Int) (h : PH) : opMul h (.int 83) (.int k) = .ok (.int (83 * k)) h := v_mul (.inl (by decide))
theorem m4051 (k : Int) (h : PH) : opMul h (.int 4051) (.int k) = .ok (.int (4051 * k)) h := v_mul (.inl (by decide))
theorem m31013 (k : Int) (h : PH) : opMul h (.int k) (.int 31013) = .ok (.int (k * 31013)) h := v_mul (.inr (by decide))
theorem m61 (k : Int) (h : PH) : opMul h (.int k) (.int 61) = .ok (.int (k * 61)) h := v_mul (.inr (by decide))
theorem pow15 (h : PH) : opPow h (.int 10) (.int 15) = .ok (.int 1000000000000000) h := by rfl
theorem jug_w (ns : List Int) (k : Nat) (hk : k ≤ 4) : Ws (m__law_jug [.scr (ns.map PV.int), .int k] []) fun v g => ∃ i a b c, v = .ref i ∧ g[i]? = some (skd a b c) := by
  unfold m__law_jug
  simp [b__law_jug, len_scr]
  refine Ws.bind (P := fun v g => g = [] ∧ ∃ o : Int, v = .int o) ?_ fun v g ⟨eg, o, ev⟩ => ?_
  · by_cases hl : k < ns.length
    · have e : ∀ h, opIx h (.scr (ns.map PV.int)) (.int (k : Int)) = .ok (.int ns[k]) h := fun h => ix_scr (by rw [List.getElem?_map, List.getElem?_eq_getElem hl]; rfl)
      simp [hl, e]
    · simp [hl, m83]
  · subst eg; subst ev
    have c9 : cutG (ns.map PV.int) none (some 9) = (ns.take 9).map PV.int := by
      have := cut_to (ns.map PV.int) 9
      rw [List.map_take]
      exact this
    simp [m4051, sl_scr, c9]
    simp only [← List.map_take]
    rw [src_ref (h := [PO.lst (List.map PV.int (ns.take 9))]) (n := 0) rfl]
    simp
    simp only [← List.map_take]
    refine forB (fun t e h => ∃ m x, e = [some (.scr (ns.map PV.int)), some (.int k), some (.int o), some (.int m), x, none] ∧ h = [PO.lst (List.map PV.int (ns.take 9))]) ⟨_, _, rfl, rfl⟩ (fun _ _ _ ⟨_, _, _, q⟩ => by rw [q]; exact watch_mk rfl) (fun t x env h hx ⟨m, y, ee, eh⟩ => ?_) fun env h ⟨m, y, ee, eh⟩ => ?_
    · subst ee; subst eh
      rw [List.getElem?_map] at hx
      obtain ⟨z, _, rfl⟩ := Option.map_eq_some_iff.mp hx
      simp [m31013]
    · subst ee; subst eh
      simp [pow15, m61]
      by_cases h1 : o < 0
      · simp [h1, LIM, pow15, m61]
        exact ⟨_, _, _, rfl⟩
      · simp [h1]
        by_cases h2 : 1000000000000000 ≤ o
        · simp [h2, LIM, pow15, m61]
          exact ⟨_, _, _, rfl⟩
        · simp [h2, LIM, pow15, m61]
          exact ⟨_, _, _, rfl⟩
theorem jug_c (ns : List Int) (k : Nat) (hk : k ≤ 4) (h : PH) : ∃ a b c, callG takeBack m__law_jug [.scr (ns.map PV.int), .int k] h = .ok (.ref h.length) (h ++ [skd a b c]) := by
  obtain ⟨v, g, e, i, a, b, c, rfl, hg⟩ := jug_w ns k hk
  exact ⟨a, b, c, call_newl (ys := [.int a, .int b, .int c]) (by simp [noRefs, noRef, ints_noref]) e hg (by rfl)⟩
/-- what all laws of this family begin with -/
theorem cases_five (ns : List Int) : ∃ n : Nat, (if 2 < (if (5 : Int) < (ns.length : Int) then 5 else (ns.length : Int)) then (if (5 : Int) < (ns.length : Int) then 5 else (ns.length : Int)) else 2) = (n : Int) ∧ n ≤ 5 := by
  by_cases h5 : (5 : Int) < (ns.length : Int)
  · simp only [h5, if_true]; exact ⟨5, rfl, by omega⟩
  · simp only [h5, if_false]
    by_cases h2 : (2 : Int) < (ns.length : Int)
    · simp only [h2, if_true]; exact ⟨ns.length, rfl, by omega⟩
    · simp only [h2, if_false]; exact ⟨2, rfl, by omega⟩
section
variable {L : Nat} {rs : List (List (Option Nat))} {es : List Nat}
theorem len2 (o : TO L rs es) : (rowsV rs).length = rs.length := rowsV_len
theorem make_c' (o : TO L rs es) (h : PH) : callG takeFrz (initM 0 m_Machine___init__ [0, 1, 2, 3] []) [.int L, .tup (rowsV rs), .tup ((enI es).map PV.int)] h = .ok (mk L rs es) h := make_c L _ _ o h
theorem told_c (o : TO L rs es) (h : PH) : callG takeBack m_is_told [pl L rs es] h = .ok (.bl true) h := by
  have hL : 1 ≤ (L : Int) ∧ (L : Int) ≤ 5 := ⟨by have := o.l1; omega, by have := o.l5; omega⟩
  obtain ⟨r1, r8⟩ := n8 o
  have hn : 1 ≤ (rs.length : Int) ∧ (rs.length : Int) ≤ 8 := ⟨by omega, by omega⟩
  refine call_pureW (by simp [noRefs, pl_noref o]) ?_ rfl
  have wa := fun h => wrong_arrows_c (rowsV rs) L o.l5 o.rws h
  have we := fun h => wrong_end_c (enI es) _ o.ends h
  rw [rowsV_len] at we
  have sl : ∀ h, opSl h (pl L rs es) (some 1) none = .ok (.tup [.tup (rowsV rs), .tup ((enI es).map PV.int)]) h := fun h => rfl
  have ln : ∀ h, bLen h [pl L rs es] = .ok (.int 3) h := fun h => rfl
  have kd : ∀ h, kindP h (pl L rs es) = some (.inl 4) := fun h => rfl
  unfold m_is_told
  simp [b_is_told, kd, ln, isiT, tb_tuple, List.lookup, pl0, between_c, hL.1, hL.2, sl, rowsV_len, hn.1, hn.2, wa, we]
theorem check_length_c (n : Nat) (hn : n ≤ 300) (h : PH) : callG takeBack m_check_length [.int n] h = .ok .non h := by
  refine call_pureW rfl ?_ rfl
  unfold m_check_length
  simp [b_check_length, between_c, show (n : Int) ≤ 300 by omega]
theorem told_of_c (o : TO L rs es) (h : PH) : callG takeBack m_told_of [mk L rs es] h = .ok (pl L rs es) h := by
  have nm : noRef (mk L rs es) = true := mach_noref o
  refine call_pureW (by simp [noRefs, nm]) ?_ (pl_noref o)
  unfold m_told_of
  simp [b_told_of, mk, mach, cs_letters, cs_arrows, cs_ends, lookF, LIM, pl, plnV]
/-- a claim of a count -/
def clm (L : Nat) (rs : List (List (Option Nat))) (es : List Nat) (n : Nat) (c : Int) : PV := .tup [.str [99, 111, 117, 110, 116], pl L rs es, .int n, .int c]
theorem clm_noref (o : TO L rs es) (n : Nat) (c : Int) : noRef (clm L rs es n c) = true := by simp [clm, noRef, noRefs, pl_noref o]
theorem certify_c (o : TO L rs es) (n : Nat) (hn : n ≤ 300) (h : PH) : callG takeBack m_certify_count [mk L rs es, .int n] h = .ok (.tup [clm L rs es n (Bt rs es n 0), .tup []]) h := by
  have nm : noRef (mk L rs es) = true := mach_noref o
  have ck : ∀ h, callG takeBack m_check_machine [mk L rs es] h = .ok .non h := fun h => check_machine_c o h
  refine call_pureW (by simp [noRefs, nm, noRef]) ?_ (by simp [noRef, noRefs, clm_noref o])
  unfold m_certify_count
  simp [b_certify_count, ck, check_length_c n hn, told_of_c o, count_of_c o n hn, LIM, clm]
theorem made_of_c (o : TO L rs es) (h : PH) : callG takeBack m_made_of [pl L rs es] h = .ok (mk L rs es) h := by
  have nm : noRef (mk L rs es) = true := mach_noref o
  refine call_pureW (by simp [noRefs, pl_noref o]) ?_ nm
  unfold m_made_of
  simp [b_made_of, pl0, pl1, pl2, make_c' o]
theorem integer_c (i : Int) (h : PH) : callG takeBack m_is_integer [.int i] h = .ok (.bl true) h := by
  refine call_pureW rfl ?_ rfl
  unfold m_is_integer
  simp [b_is_integer, isiT, tb_int, tb_bool, List.lookup]
theorem empty_c (h : PH) : callG takeBack m_is_empty [.tup []] h = .ok (.bl true) h := by
  refine call_pureW rfl ?_ rfl
  unfold m_is_empty
  simp [b_is_empty, isiT, tb_tuple, List.lookup]
theorem shows_count_c (o : TO L rs es) (n : Nat) (hn : n ≤ 300) (c : Int) (h : PH) : callG takeBack m_shows_count [pl L rs es, .tup [.int n, .int c], .tup []] h = .ok (.bl (decide ((Bt rs es n 0 : Int) = c))) h := by
  refine call_pureW (by simp [noRefs, pl_noref o, noRef]) ?_ rfl
  unfold m_shows_count
  simp [b_shows_count, between_c, show (n : Int) ≤ 300 by omega, integer_c, empty_c, made_of_c o, count_of_c o n hn]
theorem holds_c (tab : List (Nat × MF)) (ht : tab.lookup 8 = some m_shows_count) (o : TO L rs es) (n : Nat) (hn : n ≤ 300) (c : Int) (h : PH) : callG takeBack (m_holds tab) [clm L rs es n c, .tup []] h = .ok (.bl (decide ((Bt rs es n 0 : Int) = c))) h := by
  refine call_pureW (by simp [noRefs, clm_noref o, noRef]) ?_ rfl
  have q0 : ∀ h, opIx h (clm L rs es n c) (.int 0) = .ok (.str [99, 111, 117, 110, 116]) h := fun h => ix_tup (i := 0) rfl
  have q1 : ∀ h, opIx h (clm L rs es n c) (.int 1) = .ok (pl L rs es) h := fun h => ix_tup (i := 1) rfl
  have ln : ∀ h, bLen h [clm L rs es n c] = .ok (.int 4) h := fun h => rfl
  have kd : ∀ h, kindP h (clm L rs es n c) = some (.inl 4) := fun h => rfl
  have sl : ∀ h, opSl h (clm L rs es n c) (some 2) none = .ok (.tup [.int n, .int c]) h := fun h => rfl
  have k1 : ∀ h, opKIn true 0 rowsS h (.str [99, 111, 117, 110, 116]) (.gl 0) = .ok (.bl false) h := fun h => rfl
  have k2 : ∀ h, opKIx 0 rowsS h (.gl 0) (.str [99, 111, 117, 110, 116]) = .ok (.tup [.int 4, .gl 8]) h := fun h => rfl
  have cv : ∀ (x : PV) h, mCallV 3 tab 3 (maCons (mOp opIx (mVar 0) (mC (.int 1))) (maCons (mSl (mVar 0) (moSome (mC (.int 2))) moNone) (maCons (mVar 1) maNil))) [some (clm L rs es n c), some (.tup []), some (.int 4), some (.gl 8)] h = .ok (.bl (decide ((Bt rs es n 0 : Int) = c))) h := fun x h => by
    unfold mCallV
    simp [ht, q1, sl, shows_count_c o n hn c, List.range_succ]
  unfold m_holds
  simp [b_holds, kd, isiT, tb_tuple, tb_str, List.lookup, ln, q0, q1, k1, k2, told_c o, cv .non]
end
end MM

end
section
set_option maxRecDepth 100000
set_option maxHeartbeats 4000000
namespace MC
open PySem L2
theorem log2_small {n K : Nat} (hK : 0 < K) (h : n < 2 ^ K) : n.log2 < K := by
  by_cases h0 : n = 0
  · subst h0; simpa using hK
  · exact (Nat.log2_lt h0).mpr h
theorem pok_int {K : Nat} {i : Int} (hK : 0 < K) (h : i.natAbs < 2 ^ K) : pok K (.int i) = true := by
  unfold pok
  exact decide_eq_true (log2_small hK h)
end MC
namespace MM
open PySem L2 MC
section
variable {L : Nat} {rs : List (List (Option Nat))} {es : List Nat} {K : Nat}
theorem row_plain (hK : 3 ≤ K) : ∀ r : List (Option Nat), (∀ g, some g ∈ r → g < 8) → poks K (r.map ov) = true ∧ pnds (r.map ov) = r.length ∧ pdps (r.map ov) = 0
  | [], _ => ⟨rfl, rfl, rfl⟩
  | x :: r, h => by
    obtain ⟨h1, h2, h3⟩ := row_plain hK r fun g hg => h g (List.mem_cons_of_mem _ hg)
    have p8 : 8 ≤ 2 ^ K := Nat.le_trans (show 8 ≤ 2 ^ 3 by decide) (Nat.pow_le_pow_right (by decide) hK)
    have h0 : pok K (ov x) = true ∧ pnd (ov x) = 1 ∧ pdp (ov x) = 0 := by
      cases x with
      | none => exact ⟨rfl, rfl, rfl⟩
      | some g => exact ⟨pok_int (by omega) (by have := h g List.mem_cons_self; simp; omega), rfl, rfl⟩
    rw [List.map_cons]
    unfold poks pnds pdps
    rw [h0.1, h0.2.1, h0.2.2, h1, h2, h3]
    exact ⟨rfl, by rw [List.length_cons]; omega, rfl⟩
theorem rows_plain (hK : 3 ≤ K) : ∀ t : List (List (Option Nat)), (∀ r ∈ t, r.length ≤ 5 ∧ ∀ g, some g ∈ r → g < 8) → poks K (rowsV t) = true ∧ pnds (rowsV t) ≤ 6 * t.length ∧ pdps (rowsV t) ≤ 1
  | [], _ => ⟨rfl, Nat.le_refl _, by decide⟩
  | r :: t, h => by
    obtain ⟨h1, h2, h3⟩ := rows_plain hK t fun x hx => h x (List.mem_cons_of_mem _ hx)
    obtain ⟨g1, g2, g3⟩ := row_plain hK r (h r List.mem_cons_self).2
    have l := (h r List.mem_cons_self).1
    have e1 : pok K (rowV r) = true := by unfold rowV pok; exact g1
    have e2 : pnd (rowV r) = r.length + 1 := by unfold rowV pnd; rw [g2]
    have e3 : pdp (rowV r) = 1 := by unfold rowV pdp; rw [g3]
    show poks K (rowV r :: rowsV t) = true ∧ pnds (rowV r :: rowsV t) ≤ _ ∧ pdps (rowV r :: rowsV t) ≤ 1
    unfold poks pnds pdps
    rw [e1, e2, e3, h1]
    refine ⟨rfl, by rw [List.length_cons]; omega, by omega⟩
theorem ints_plain (hK : 3 ≤ K) : ∀ t : List Nat, (∀ e ∈ t, e < 8) → poks K ((enI t).map PV.int) = true ∧ pnds ((enI t).map PV.int) = t.length ∧ pdps ((enI t).map PV.int) = 0
  | [], _ => ⟨rfl, rfl, rfl⟩
  | e :: t, h => by
    obtain ⟨h1, h2, h3⟩ := ints_plain hK t fun x hx => h x (List.mem_cons_of_mem _ hx)
    have p8 : 8 ≤ 2 ^ K := Nat.le_trans (show 8 ≤ 2 ^ 3 by decide) (Nat.pow_le_pow_right (by decide) hK)
    have h0 : pok K (.int (e : Int)) = true := pok_int (by omega) (by have := h e List.mem_cons_self; simp; omega)
    show poks K (.int (e : Int) :: (enI t).map PV.int) = true ∧ pnds (.int (e : Int) :: (enI t).map PV.int) = _ ∧ pdps (.int (e : Int) :: (enI t).map PV.int) = 0
    unfold poks pnds pdps
    rw [h0, h1, h2, h3]
    exact ⟨rfl, by simp [pnd]; omega, rfl⟩
theorem pl_plain (o : TO L rs es) (hK : 3 ≤ K) : pok K (pl L rs es) = true ∧ pnd (pl L rs es) ≤ 60 ∧ pdp (pl L rs es) ≤ 3 := by
  obtain ⟨r1, r8⟩ := n8 o
  have p8 : 8 ≤ 2 ^ K := Nat.le_trans (show 8 ≤ 2 ^ 3 by decide) (Nat.pow_le_pow_right (by decide) hK)
  obtain ⟨a1, a2, a3⟩ := rows_plain hK rs fun r hr => by
    obtain ⟨k, ek⟩ := List.mem_iff_getElem?.mp hr
    obtain ⟨b1, b2⟩ := o.row ek
    have := o.l5
    exact ⟨by omega, fun g hg => by have := b2 g hg; omega⟩
  obtain ⟨c1, c2, c3⟩ := ints_plain hK es fun e he => by
    have := o.ends.2 e (en_mem.mpr he)
    rw [rowsV_len] at this
    omega
  have l5 := o.l5
  have hL : pok K (.int (L : Int)) = true := pok_int (by omega) (by simp; omega)
  have el := ends_len o
  unfold pl plnV
  refine ⟨?_, ?_, ?_⟩
  · simp [pok, poks, a1, c1]
    unfold pok at hL
    simpa using hL
  · simp [pnd, pnds, c2]; omega
  · simp [pdp, pdps, c3]; omega
theorem clm_plain (o : TO L rs es) (hK : 9 ≤ K) {n : Nat} (hn : n ≤ 300) {c : Int} (hc : c.natAbs < 2 ^ K) : pok K (clm L rs es n c) = true ∧ pnd (clm L rs es n c) ≤ 80 ∧ pdp (clm L rs es n c) ≤ 4 := by
  obtain ⟨a1, a2, a3⟩ := pl_plain o (K := K) (by omega)
  have p9 : 512 ≤ 2 ^ K := Nat.le_trans (show 512 ≤ 2 ^ 9 by decide) (Nat.pow_le_pow_right (by decide) hK)
  have h1 : pok K (.int (n : Int)) = true := pok_int (by omega) (by simp; omega)
  have h2 : pok K (.int c) = true := pok_int (by omega) hc
  have h3 : pok K (.str [99, 111, 117, 110, 116]) = true := by unfold pok; decide
  refine ⟨?_, ?_, ?_⟩
  · unfold clm pok poks poks poks poks poks
    rw [a1, h1, h2, h3]; rfl
  · unfold clm pnd pnds pnds pnds pnds pnds
    simp only [pnd, List.length_cons, List.length_nil]
    omega
  · unfold clm pdp pdps pdps pdps pdps pdps
    simp only [pdp]
    omega
theorem pow5 {t : Nat} (h : t ≤ 300) : 5 ^ t < 2 ^ 900 :=
  Nat.lt_of_le_of_lt (Nat.pow_le_pow_right (by decide) h) (by decide +kernel)
end
end MM

end
section
set_option maxRecDepth 100000
set_option maxHeartbeats 4000000
namespace K55
open PySem L2 MC MM
theorem pow19 (h : PH) : opPow h (.int 10) (.int 19) = .ok (.int 10000000000000000000) h := by rfl
section
variable {L : Nat} {rs : List (List (Option Nat))} {es : List Nat}
/-- both texts -/
theorem two_repr (o : TO L rs es) {s : Nat} (hs : s ≤ 300) {h : PH} {n : Nat} (e : h[n]? = some (.lst [.tup [clm L rs es s (Bt rs es s 0), .tup []], .tup [clm L rs es s (Bt rs es s 0), .tup []]])) :
    bRepr h [.ref n] = .ok (.str (repL [.tup [clm L rs es s (Bt rs es s 0), .tup []], .tup [clm L rs es s (Bt rs es s 0), .tup []]])) h ∧ PyData.strOk (S (repL [.tup [clm L rs es s (Bt rs es s 0), .tup []], .tup [clm L rs es s (Bt rs es s 0), .tup []]])) = true := by
  have b := Nat.lt_of_le_of_lt (Bt_le o s 0) (pow5 hs)
  obtain ⟨c1, c2, c3⟩ := clm_plain o (K := 900) (by decide) hs (c := (Bt rs es s 0 : Nat)) (by simpa using b)
  have p : poks 900 [.tup [clm L rs es s (Bt rs es s 0), .tup []], .tup [clm L rs es s (Bt rs es s 0), .tup []]] = true := by
    simp [poks, pok, c1]
  refine ⟨repr_l (K := 900) (by decide) (by decide) e p ?_ ?_, ok_repL (K := 900) (by decide) (by decide) p⟩
  · simp [pdps, pdp]; omega
  · have : pnds [PV.tup [clm L rs es s (Bt rs es s 0), .tup []], .tup [clm L rs es s (Bt rs es s 0), .tup []]] ≤ 170 := by
      simp [pnds, pnd]; omega
    exact Nat.le_trans (Nat.mul_le_mul_left _ (Nat.add_le_add_right this 1)) (by decide)
/-- a list of two such answers -/
def two (L : Nat) (rs : List (List (Option Nat))) (es : List Nat) (s : Nat) : List PV := [.tup [clm L rs es s (Bt rs es s 0), .tup []], .tup [clm L rs es s (Bt rs es s 0), .tup []]]
theorem rep_1 (o : TO L rs es) {s : Nat} (hs : s ≤ 300) (h : PH) : bRepr (h ++ [.lst [.tup [clm L rs es s (Bt rs es s 0), .tup []], .tup [clm L rs es s (Bt rs es s 0), .tup []]]]) [.ref h.length] = .ok (.str (repL (two L rs es s))) (h ++ [.lst [.tup [clm L rs es s (Bt rs es s 0), .tup []], .tup [clm L rs es s (Bt rs es s 0), .tup []]]]) := (two_repr o hs last_at).1
theorem rep_2 (o : TO L rs es) {s : Nat} (hs : s ≤ 300) (h : PH) (a : PO) : bRepr (h ++ [a, .lst [.tup [clm L rs es s (Bt rs es s 0), .tup []], .tup [clm L rs es s (Bt rs es s 0), .tup []]]]) [.ref (h.length + 1)] = .ok (.str (repL (two L rs es s))) (h ++ [a, .lst [.tup [clm L rs es s (Bt rs es s 0), .tup []], .tup [clm L rs es s (Bt rs es s 0), .tup []]]]) := (two_repr o hs (by simp)).1
theorem rep_3 (o : TO L rs es) {s : Nat} (hs : s ≤ 300) : PyData.strOk (S (repL (two L rs es s))) = true := (two_repr o hs (h := [.lst (two L rs es s)]) (n := 0) rfl).2
end
theorem right_f : Fs m__law_right [] (fun v => v = .bl true) := fun a b c => by
  unfold m__law_right
  simp [b__law_right, show inR 5 = true from by decide]
  refine forB (fun t e h => ∃ x1 x2 x3 x4 x5 x6 x7 x8, e = [some (.ref 0), x1, x2, x3, x4, x5, x6, x7, x8] ∧ Dr 0 h) ⟨_, _, _, _, _, _, _, _, rfl, ⟨a, b, c, rfl⟩⟩ (fun _ _ _ _ => rfl)
    (fun t x env h hx ⟨x1, x2, x3, x4, x5, x6, x7, x8, ee, dh⟩ => ?_) fun env h ⟨x1, x2, x3, x4, x5, x6, x7, x8, ee, dh⟩ => ?_
  · subst ee
    simp
    refine (machine_f 8 5 (by decide) (by decide)).use rfl dh fun v h1 _ ⟨L, rows, is, ev, ok⟩ d1 b1 => ?_
    obtain ⟨rs, es, rfl, rfl, o⟩ := typed_of ok
    subst ev
    change Ws (_) _
    have q0 : ∀ h, opIx h (plnV L (rowsV rs) (enI es)) (.int 0) = .ok (.int L) h := fun h => pl0 h
    have q1 : ∀ h, opIx h (plnV L (rowsV rs) (enI es)) (.int 1) = .ok (.tup (rowsV rs)) h := fun h => pl1 h
    have q2 : ∀ h, opIx h (plnV L (rowsV rs) (enI es)) (.int 2) = .ok (.tup ((enI es).map PV.int)) h := fun h => pl2 h
    simp [q0, q1, q2, make_c' o]
    refine pour_u (by omega) (by omega) d1 fun q h2 hq d2 b2 => ?_
    simp
    refine pour_u (by omega) (by omega) d2 fun u h3 hu d3 b3 => ?_
    simp [LIM]
    have l0 := d3.lt
    refine (one_of_f [.int 25, .int 120, .int 299, .int 300, .int u] (by simp) (by simp) (by simp [noRefs, noRef]) (by simp [noRef])).use rfl (by simp [noRefs, noRef]) d3.app last_at (by omega) fun v h4 _ hv d4 e4 b4 => ?_
    obtain ⟨s, rfl, hs⟩ : ∃ s : Nat, v = .int s ∧ s ≤ 300 := by
      simp at hv
      rcases hv with rfl | rfl | rfl | rfl | rfl
      · exact ⟨25, rfl, by decide⟩
      · exact ⟨120, rfl, by decide⟩
      · exact ⟨299, rfl, by decide⟩
      · exact ⟨300, rfl, by decide⟩
      · exact ⟨u, rfl, by omega⟩
    simp [LIM]
    have k4 : (h4 ++ [PO.lst [.int 0, .int 1, .int q, .int s]])[h4.length]? = some (.lst [.int 0, .int 1, .int q, .int s]) := last_at
    rw [src_ref k4]
    simp
    have hz : h4.length ≠ 0 := by have := d4.lt; omega
    refine forB (fun t e h => ∃ x4 x5 x6 x7 x8, e = [some (.ref 0), some x, some (plnV L (rowsV rs) (enI es)), some (mk L rs es), x4, x5, x6, x7, x8] ∧ Dr 0 h ∧ h[h4.length]? = some (.lst [.int 0, .int 1, .int q, .int s])) ⟨_, _, _, _, _, rfl, d4.app, k4⟩ (fun _ _ _ ⟨_, _, _, _, _, _, _, k⟩ => watch_mk k) (fun t y env h hy ⟨x4, x5, x6, x7, x8, ee, dh, kh⟩ => ?_) fun env h ⟨x4, x5, x6, x7, x8, ee, dh, kh⟩ => ?_
    · subst ee
      obtain ⟨z, rfl, hz⟩ : ∃ z : Nat, y = .int z ∧ z ≤ 300 := by
        have := List.mem_of_getElem? hy
        simp at this
        rcases this with rfl | rfl | rfl | rfl
        · exact ⟨0, rfl, by decide⟩
        · exact ⟨1, rfl, by decide⟩
        · exact ⟨q, rfl, by omega⟩
        · exact ⟨s, rfl, hs⟩
      have lc : ∀ h, callG takeBack m__law_count [plnV L (rowsV rs) (enI es), .int z] h = .ok (.int (Bt rs es z 0)) h := fun h => law_count_c o z hz h
      have ce : ∀ h, callG takeBack m_certify_count [mk L rs es, .int z] h = _ := fun h => certify_c o z hz h
      have r3 := rep_3 o hz
      have hc : ∀ c h, callG takeBack (m_holds tabS_) [clm L rs es z c, .tup []] h = .ok (.bl (decide ((Bt rs es z 0 : Int) = c))) h := fun c h => holds_c tabS_ rfl o z hz c h
      have ec : ∀ c, PV.tup [.str [99, 111, 117, 110, 116], plnV L (rowsV rs) (enI es), .int z, .int c] = clm L rs es z c := fun c => rfl
      have it : ∀ h, opIs true h (.bl true) (.bl true) = .ok (.bl false) h := fun h => rfl
      have if' : ∀ h, opIs true h (.bl false) (.bl false) = .ok (.bl false) h := fun h => rfl
      have i0 : ∀ h c, opIx h (.tup [clm L rs es z c, .tup []]) (.int 0) = .ok (clm L rs es z c) h := fun h c => ix_tup (i := 0) rfl
      have i1 : ∀ h c, opIx h (.tup [clm L rs es z c, .tup []]) (.int 1) = .ok (.tup []) h := fun h c => ix_tup (i := 1) rfl
      simp [lc, LIM, ec, ce]
      rw [rep_1 o hz]
      simp [LIM]
      rw [rep_2 o hz]
      simp [v_neS r3 r3]
      simp [i0, i1, hc, it, LIM]
      have k7 : ∀ a b c : PO, (h ++ [a, b, c])[h.length + 2]? = some c := fun a b c => by simp
      have d7 : ∀ os : List PO, Dr 0 (h ++ os) := fun os => dh.app
      have n7 : ∀ os : List PO, (h ++ os)[h4.length]? = some (.lst [.int 0, .int 1, .int q, .int s]) := fun os => get_app kh
      rw [src_ref (k7 _ _ _)]
      simp
      refine forB (fun t e h' => ∃ y, e = [some (.ref 0), some x, some (plnV L (rowsV rs) (enI es)), some (mk L rs es), some (.int z), some (.int (Bt rs es z 0)), some (.tup [clm L rs es z (Bt rs es z 0), .tup []]), some (.tup [clm L rs es z (Bt rs es z 0), .tup []]), y] ∧ Dr 0 h' ∧ h'[h4.length]? = some (.lst [.int 0, .int 1, .int q, .int s]) ∧ h'[h.length + 2]? = some (.lst [.int ((Bt rs es z 0 : Int) + 1), .int ((Bt rs es z 0 : Int) - 1)])) ⟨_, rfl, d7 _, n7 _, k7 _ _ _⟩ (fun _ _ _ ⟨_, _, _, _, k⟩ => watch_mk k) (fun t y env h' hy ⟨x8, ee, dh, kh, ku⟩ => ?_) fun env h' ⟨x8, ee, dh, kh, ku⟩ => ?_
      · subst ee
        obtain ⟨w, rfl, hw⟩ : ∃ w : Int, y = .int w ∧ (Bt rs es z 0 : Int) ≠ w := by
          have := List.mem_of_getElem? hy
          simp at this
          rcases this with rfl | rfl
          · exact ⟨_, rfl, by omega⟩
          · exact ⟨_, rfl, by omega⟩
        simp [pow19]
        by_cases b19 : (Bt rs es z 0 : Int) < 10000000000000000000
        · simp [b19, LIM, ec, hc, hw, if']
          exact ⟨dh, kh, ku⟩
        · simp [b19]
          exact ⟨dh, kh, ku⟩
      · subst ee
        simp
        exact ⟨dh, kh⟩
    · subst ee
      simp
      exact dh
  · subst ee
    simp
    exact ⟨dh, rfl⟩
theorem law_w (ns : List Int) (hl : ns.length ≤ 63) : Ws (m_law [.scr (ns.map PV.int)] []) fun v _ => v = .bl true := by
  unfold m_law
  simp [b_law, len_scr]
  obtain ⟨n, en, hn⟩ := cases_five ns
  rw [en, inR_small (i := (n : Int)) (by omega) (by omega)]
  simp
  refine mapB (fun _ => .bl true) (fun _ => True) trivial (by rw [len_seqI]; exact lim_of (by omega)) (fun x hx h _ => ⟨_, rfl, ?_⟩) fun h0 _ => ?_
  · obtain ⟨k, hk, rfl⟩ := mem_seqI hx
    obtain ⟨a, b, c, es⟩ := jug_c ns k (by omega) h
    simp [wipeE, es]
    exact (right_f.call (h := h ++ [skd a b c]) (j := h.length) rfl ⟨a, b, c, last_at⟩).mono fun v h' ⟨_, p, _⟩ => ⟨p, trivial⟩
  · have e : (seqI 0 n).map (fun _ => PV.bl true) = List.replicate n (.bl true) := by rw [List.map_const', len_seqI]
    rw [e]
    simp [all_last (bls_true n)]
theorem law_true (ns : List Int) (hl : ns.length ≤ 63) : ∃ h, m_law [.scr (ns.map PV.int)] [] = .ok (.bl true) h := by
  obtain ⟨v, g, e, rfl⟩ := law_w ns hl
  exact ⟨g, e⟩
end K55

end
open PySem PySem.W PyProof.Rows
set_option maxRecDepth 100000 in
set_option maxHeartbeats 0 in
theorem PySem.Challenge.cw_liketongues_k55_whole_counts_certified_holds : PySem.Challenge.rw_liketongues_k55_whole_counts_certified.Holds := by
  w_on; o_law; k_head; (case hw => w_witness2)
  k_fill
  refine MC.walkM (l := PySem.Challenge.rw_liketongues_k55_whole_counts_certified) (n := 63) (k := 10) (x := "_law_cells") (m := K55.m_law) rfl (by decide) rfl ⟨rfl, by decide, by decide⟩ (fun w h Y => PySem.W.kIn_of Y) ?F K55.law_true
  case F =>
    intro w mg fa h KX G hmg
    refine' K55.all_mk KX G hmg ?aC0 ?pg0 ?hd0 ?po0 ?sa0 ?ha0 ?hn0 ?ht0 ?hm0 ?mk0 ?kc0 ?na0_letters ?na0_arrows ?na0_ends ?ii0_int ?ii0_bool ?ii0_tuple ?ii0_str ?zcd0 ?zty0 ?kk0_NoneType ?kk0_bool ?kk0_int ?kk0_str ?kk0_tuple ?kk0_list ?kk0_dict ?a0 ?l0 ?e0 ?k0 ?a1 ?l1 ?e1 ?k1 ?a2 ?l2 ?e2 ?k2 ?a3 ?l3 ?e3 ?k3 ?a4 ?l4 ?e4 ?k4 ?a5 ?l5 ?e5 ?k5 ?a6 ?i6 ?l6 ?e6 ?k6 ?a7 ?l7 ?e7 ?k7 ?a8 ?l8 ?e8 ?k8 ?a9 ?l9 ?e9 ?k9 ?a10 ?l10 ?e10 ?k10 ?a11 ?l11 ?e11 ?k11 ?a12 ?l12 ?e12 ?k12 ?a13 ?l13 ?e13 ?k13 ?a14 ?l14 ?e14 ?k14 ?a15 ?l15 ?e15 ?k15 ?a16 ?l16 ?e16 ?k16 ?a17 ?l17 ?e17 ?k17 ?a18 ?l18 ?e18 ?k18 ?a19 ?l19 ?e19 ?k19 ?a20 ?l20 ?e20 ?k20 ?a21 ?l21 ?e21 ?k21 ?a22 ?l22 ?e22 ?k22 ?a23 ?l23 ?e23 ?k23 ?a24 ?l24 ?e24 ?k24 ?a25 ?l25 ?e25 ?k25 ?g_MOST_LETTERS ?g_MOST_STANDS ?g_MOST_TEXT ?g_SHOWN ?q_SHOWN ?qS0 ?qS1 ?qS2 ?qS3 ?qS4 ?qS5 ?qS6 ?qS7 ?lit_SHOWN ?low_SHOWN ?z_abs ?z_all ?z_bool ?z_divmod ?z_enumerate ?z_int ?z_isinstance ?z_len ?z_max ?z_min ?z_range ?z_repr ?z_str ?z_sum ?z_tuple
    (case aC0 => k_is); (case pg0 => k_is); (case hd0 => k_is); (case po0 => k_is); (case sa0 => k_is); (case ha0 => k_is); (case hn0 => k_is); (case ht0 => k_is); (case hm0 => k_is); (case mk0 => k_is); (case kc0 => k_is); (case na0_letters => k_is); (case na0_arrows => k_is); (case na0_ends => k_is); (case ii0_int => k_is); (case ii0_bool => k_is); (case ii0_tuple => k_is); (case ii0_str => k_is); (case zcd0 => k_is); (case zty0 => k_is); (case kk0_NoneType => k_is); (case kk0_bool => k_is); (case kk0_int => k_is); (case kk0_str => k_is); (case kk0_tuple => k_is); (case kk0_list => k_is); (case kk0_dict => k_is); (case a0 => k_is); (case l0 => k_is); (case e0 => k_is); (case k0 => k_is); (case a1 => k_is); (case l1 => k_is); (case e1 => k_is); (case k1 => k_is); (case a2 => k_is); (case l2 => k_is); (case e2 => k_is); (case k2 => k_is); (case a3 => k_is); (case l3 => k_is); (case e3 => k_is); (case k3 => k_is); (case a4 => k_is); (case l4 => k_is); (case e4 => k_is); (case k4 => k_is); (case a5 => k_is); (case l5 => k_is); (case e5 => k_is); (case k5 => k_is); (case a6 => k_is); (case i6 => k_is); (case l6 => k_is); (case e6 => k_is); (case k6 => k_is); (case a7 => k_is); (case l7 => k_is); (case e7 => k_is); (case k7 => k_is); (case a8 => k_is); (case l8 => k_is); (case e8 => k_is); (case k8 => k_is); (case a9 => k_is); (case l9 => k_is); (case e9 => k_is); (case k9 => k_is); (case a10 => k_is); (case l10 => k_is); (case e10 => k_is); (case k10 => k_is); (case a11 => k_is); (case l11 => k_is); (case e11 => k_is); (case k11 => k_is); (case a12 => k_is); (case l12 => k_is); (case e12 => k_is); (case k12 => k_is); (case a13 => k_is); (case l13 => k_is); (case e13 => k_is); (case k13 => k_is); (case a14 => k_is); (case l14 => k_is); (case e14 => k_is); (case k14 => k_is); (case a15 => k_is); (case l15 => k_is); (case e15 => k_is); (case k15 => k_is); (case a16 => k_is); (case l16 => k_is); (case e16 => k_is); (case k16 => k_is); (case a17 => k_is); (case l17 => k_is); (case e17 => k_is); (case k17 => k_is); (case a18 => k_is); (case l18 => k_is); (case e18 => k_is); (case k18 => k_is); (case a19 => k_is); (case l19 => k_is); (case e19 => k_is); (case k19 => k_is); (case a20 => k_is); (case l20 => k_is); (case e20 => k_is); (case k20 => k_is); (case a21 => k_is); (case l21 => k_is); (case e21 => k_is); (case k21 => k_is); (case a22 => k_is); (case l22 => k_is); (case e22 => k_is); (case k22 => k_is); (case a23 => k_is); (case l23 => k_is); (case e23 => k_is); (case k23 => k_is); (case a24 => k_is); (case l24 => k_is); (case e24 => k_is); (case k24 => k_is); (case a25 => k_is); (case l25 => k_is); (case e25 => k_is); (case k25 => k_is); (case g_MOST_LETTERS => k_is); (case g_MOST_STANDS => k_is); (case g_MOST_TEXT => k_is); (case g_SHOWN => k_is); (case q_SHOWN => k_is); (case qS0 => k_is); (case qS1 => k_is); (case qS2 => k_is); (case qS3 => k_is); (case qS4 => k_is); (case qS5 => k_is); (case qS6 => k_is); (case qS7 => k_is); (case lit_SHOWN => exact ⟨⟨_, _, rfl, rfl⟩, ⟨_, _, rfl, rfl⟩, ⟨_, _, rfl, rfl⟩, ⟨_, _, rfl, rfl⟩, ⟨_, _, rfl, rfl⟩, ⟨_, _, rfl, rfl⟩, ⟨_, _, rfl, rfl⟩, ⟨_, _, rfl, rfl⟩, trivial⟩); (case low_SHOWN => first | rfl | decide); (case z_abs => k_is); (case z_all => k_is); (case z_bool => k_is); (case z_divmod => k_is); (case z_enumerate => k_is); (case z_int => k_is); (case z_isinstance => k_is); (case z_len => k_is); (case z_max => k_is); (case z_min => k_is); (case z_range => k_is); (case z_repr => k_is); (case z_str => k_is); (case z_sum => k_is); (case z_tuple => k_is)
