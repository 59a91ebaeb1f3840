import PyProof.Rows.All
import PySem.Challenge.RW_maplands_k54_whole_lots_that_hang_togeth
import HandS.Conv
import HandS.Head2
import Wide.All
import OpenK.AllK
import Wide.FinOn
import HandS.ForMost
import HandS.Wide
import HandS.Lambda
import HandS.IsInst
import HandS.Style
import HandS.RaiseMore
import HandS.Deep
import HandS.Gcd
import HandS.Flow
import HandS.Flt
import HandS.Iter
import HandS.SortInts
import HandS.Defaults
import HandS.Head0
import HandS.Head1
import HandS.HeadEnd
import HandS.HeadHook1
import HandS.HeadHook2
import HandS.NoneIn
import HandS.FStr
import KE.SortData
import KE.DataMinMax
import HandS.TupLe
import HandS.TupAny
import HandS.Text
import HandS.Rev
import HandS.Zip
import KE.GoesEnum
import KE.KTupSum
import HandS.RevTup
import HandS.RevRange
import HandS.Strs
import HandS.Dict
import HandS.TupLen
import KE.KDictSum
import HandS.More
import HandS.Codes
import HandS.Nested
import HandS.HeadHook4
import HandS.HeadWalk
import HandS.SortKw
import HandS.Slots
import KE.SortKeyed
import KE.DataMinKey
import KE.DataFind
set_option Elab.async false
set_option linter.all false
set_option maxRecDepth 100000
set_option maxHeartbeats 4000000
/-! a head whose text begins with an import -/
noncomputable section
namespace HeadI
open PySem PySem.W PySem.Calls PyProof.Rows HandSHeadRun
def goI (st : SharedT → Thread → Option (SharedT × Thread)) : Nat → SharedT → Thread → Option SharedT
  | 0, _, _ => none
  | m + 1, s, t => match t.atExitBegin with
    | some [] => some s
    | some (_ :: _) => none
    | none => match st s t with
      | some (s', t') => frS s' fun s' => goI st m s' t'
      | none => none
theorem goI_ok {tb : String → Option Builtin} {p : Program} {w : World} : ∀ {m : Nat} {s s' : SharedT} {t : Thread}, goI (stepT (denote tb) p w) m s t = some s' → importEnds tb p w m s.abs t = some s'.abs
  | 0, _, _, _, h => by cases h
  | m + 1, s, s', t, h => by
    unfold importEnds
    unfold goI at h
    cases ha : t.atExitBegin with
    | some l =>
      rw [ha] at h
      cases l with
      | nil => cases h; rfl
      | cons x xs => cases h
    | none =>
      rw [ha] at h
      have h2 : (match stepT (denote tb) p w s t with
          | some (s', t') => frS s' fun s' => goI (stepT (denote tb) p w) m s' t'
          | none => none) = some s' := h
      cases hs : stepT (denote tb) p w s t with
      | none => rw [hs] at h2; cases h2
      | some r =>
        obtain ⟨s2, t2⟩ := r
        rw [hs] at h2
        have h3 : (frS s2 fun s' => goI (stepT (denote tb) p w) m s' t2) = some s' := h2
        rw [frS_eq] at h3
        have q := goI_ok h3
        show (match step (denote tb) p w s.abs t with
            | .go s' t' => importEnds tb p w m s' t'
            | .halt _ _ => none) = some s'.abs
        rw [stepT_spec hs]
        exact q
def ofSh (s : Shared) : Option SharedT := match putAll s.heap.objs.toList .nil 0 with
  | some (t, n) => frNat n fun n => some ⟨t, n, s.heap.life, s.gens, s.drawn, s.toks, s.os⟩
  | none => none
theorem ofSh_abs {s : Shared} {t : SharedT} (h : ofSh s = some t) : t.abs = s := by
  unfold ofSh at h
  cases e : putAll s.heap.objs.toList .nil 0 with
  | none => rw [e] at h; cases h
  | some r =>
    obtain ⟨t1, n1⟩ := r
    rw [e] at h
    have h1 : (frNat n1 fun n => some (⟨t1, n, s.heap.life, s.gens, s.drawn, s.toks, s.os⟩ : SharedT)) = some t := h
    rw [frNat_eq] at h1
    cases h1
    show (⟨absHeap t1 n1 s.heap.life, s.gens, s.drawn, s.toks, s.os⟩ : Shared) = s
    rw [putAll_heap e]
/-- the state ahead of the top -/
def openF (st : SharedT → Thread → Option (SharedT × Thread)) (M : Nat) (p : Program) : Option SharedT := match ofSh (start (opening p)).1 with
  | none => none
  | some s => match goI st M s (start (opening p)).2 with
    | none => none
    | some s0 => match fenceModules? p s0.abs with
      | none => none
      | some s1 => ofSh s1
theorem openF_ok {M : Nat} {p : Program} {w : World} {s : SharedT} (h : openF (stepT (denote treeTable) (opening p) w) M p = some s) (N : Nat) : fencedOpening treeTable p w (M + N) = some s.abs := by
  unfold openF at h
  cases e : ofSh (start (opening p)).1 with
  | none => rw [e] at h; cases h
  | some s1 =>
    rw [e] at h
    cases e2 : goI (stepT (denote treeTable) (opening p) w) M s1 (start (opening p)).2 with
    | none =>
      have h2 : (match goI (stepT (denote treeTable) (opening p) w) M s1 (start (opening p)).2 with
        | none => none
        | some s0 => match fenceModules? p s0.abs with
          | none => none
          | some s1 => ofSh s1) = some s := h
      rw [e2] at h2; cases h2
    | some s0 =>
      have h2 : (match goI (stepT (denote treeTable) (opening p) w) M s1 (start (opening p)).2 with
        | none => none
        | some s0 => match fenceModules? p s0.abs with
          | none => none
          | some s1 => ofSh s1) = some s := h
      rw [e2] at h2
      cases e3 : fenceModules? p s0.abs with
      | none =>
        have h3 : (match fenceModules? p s0.abs with
          | none => none
          | some s1 => ofSh s1) = some s := h2
        rw [e3] at h3; cases h3
      | some s2 =>
        have h3 : (match fenceModules? p s0.abs with
          | none => none
          | some s1 => ofSh s1) = some s := h2
        rw [e3] at h3
        have q := goI_ok e2
        rw [ofSh_abs e] at q
        unfold fencedOpening
        rw [importEnds_mono N _ _ _ _ q]
        show fenceModules? p s0.abs = _
        rw [e3, ofSh_abs h3]
/-- the states ahead of and behind the top -/
def endI (st0 st : SharedT → Thread → Option (SharedT × Thread)) (M0 M : Nat) (p : Program) : Option (SharedT × SharedT) := match openF st0 M0 p with
  | none => none
  | some s0 => frNat s0.n fun n0 => match s0.abs.heap.isNs mainGlobals && s0.abs.gens.size == 0 with
    | false => none
    | true => match s0.abs.heap.nsMap mainGlobals "__annotations__" with
      | some v => (match goF st n0 (some v) M s0 (topStub p) with
        | some s => some (s0, s)
        | none => none)
      | none => match goF st n0 none M s0 (topStub p) with
        | some s => some (s0, s)
        | none => none
theorem endI_ok {M0 M : Nat} {p : Program} {w : World} {s0 s : SharedT} (h : endI (stepT (denote treeTable) (opening p) w) (stepT (denote treeTable) p w) M0 M p = some (s0, s)) :
    openF (stepT (denote treeTable) (opening p) w) M0 p = some s0 ∧ (s0.abs.heap.isNs mainGlobals && s0.abs.gens.size == 0) = true ∧ topRun treeTable p w s0.abs.heap.objs.size (s0.abs.heap.nsMap mainGlobals "__annotations__") M s0.abs (topStub p) = some s.abs := by
  unfold endI at h
  cases e : openF (stepT (denote treeTable) (opening p) w) M0 p with
  | none => rw [e] at h; cases h
  | some t0 =>
    rw [e] at h
    have h1 : (frNat t0.n fun n0 => match t0.abs.heap.isNs mainGlobals && t0.abs.gens.size == 0 with
      | false => none
      | true => match t0.abs.heap.nsMap mainGlobals "__annotations__" with
        | some v => (match goF (stepT (denote treeTable) p w) n0 (some v) M t0 (topStub p) with
          | some s => some (t0, s)
          | none => none)
        | none => match goF (stepT (denote treeTable) p w) n0 none M t0 (topStub p) with
          | some s => some (t0, s)
          | none => none) = some (s0, s) := h
    rw [frNat_eq] at h1
    have sz : t0.abs.heap.objs.size = t0.n := absHeap_size _ _ _
    cases e2 : t0.abs.heap.isNs mainGlobals && t0.abs.gens.size == 0 with
    | false => rw [e2] at h1; cases h1
    | true =>
      rw [e2] at h1
      have key : ∀ a : Option Value, (match goF (stepT (denote treeTable) p w) t0.n a M t0 (topStub p) with
          | some s => some (t0, s)
          | none => none) = some (s0, s) → t0 = s0 ∧ topRun treeTable p w t0.abs.heap.objs.size a M t0.abs (topStub p) = some s.abs := fun a ha => by
        cases e4 : goF (stepT (denote treeTable) p w) t0.n a M t0 (topStub p) with
        | none => rw [e4] at ha; cases ha
        | some s' =>
          rw [e4] at ha
          cases ha
          rw [sz]
          exact ⟨rfl, goF_ok e4⟩
      cases e3 : t0.abs.heap.nsMap mainGlobals "__annotations__" with
      | some v =>
        have h2 : (match t0.abs.heap.nsMap mainGlobals "__annotations__" with
        | some v => (match goF (stepT (denote treeTable) p w) t0.n (some v) M t0 (topStub p) with
          | some s => some (t0, s)
          | none => none)
        | none => match goF (stepT (denote treeTable) p w) t0.n none M t0 (topStub p) with
          | some s => some (t0, s)
          | none => none) = some (s0, s) := h1
        rw [e3] at h2
        obtain ⟨rfl, q⟩ := key _ h2
        exact ⟨rfl, e2, by rw [e3]; exact q⟩
      | none =>
        have h2 : (match t0.abs.heap.nsMap mainGlobals "__annotations__" with
        | some v => (match goF (stepT (denote treeTable) p w) t0.n (some v) M t0 (topStub p) with
          | some s => some (t0, s)
          | none => none)
        | none => match goF (stepT (denote treeTable) p w) t0.n none M t0 (topStub p) with
          | some s => some (t0, s)
          | none => none) = some (s0, s) := h1
        rw [e3] at h2
        obtain ⟨rfl, q⟩ := key _ h2
        exact ⟨rfl, e2, by rw [e3]; exact q⟩
theorem left_oneI {p q : Program} {loose : List Str} {Xt : Shared → Bool} {α : Type} {Yf : Shared → α} {Ya : World → α} {M0 M : Nat}
    (run : ∀ w : World, (endI (stepT (denote treeTable) (opening p) w) (stepT (denote treeTable) p w) M0 M p).map (fun s => (looksF p s.1.abs.heap s.2.abs, openSeen q loose (importedModules p.main.body) Xt true s.2.abs, Yf s.2.abs)) = some (true, openGood q loose, Ya w)) :
    LeftO p q loose Xt Yf Ya (M0 + M) true := fun w => by
  obtain ⟨⟨s0, s⟩, hs, hv⟩ := Option.map_eq_some_iff.mp (run w)
  obtain ⟨l1, l2, l3⟩ : _ ∧ _ ∧ _ := by simpa only [Prod.mk.injEq] using hv
  obtain ⟨a, b, r⟩ := endI_ok hs
  have r := topRun_mono M0 _ _ _ _ r
  rw [Nat.add_comm M M0] at r
  have l1' : (staticsOk (importedModules p.main.body) s0.abs.heap s.abs.heap && namesBound p s.abs.heap && gensDone s.abs && laidKept s0.abs.heap s.abs.heap) = true := l1
  have t : topFrom treeTable p w (M0 + M) s0.abs = some s.abs := by
    unfold topFrom
    rw [b]
    show (topRun treeTable p w s0.abs.heap.objs.size _ (M0 + M) s0.abs (topStub p)).bind _ = _
    rw [r]
    show (match staticsOk (importedModules p.main.body) s0.abs.heap s.abs.heap && namesBound p s.abs.heap && gensDone s.abs && laidKept s0.abs.heap s.abs.heap with | true => some s.abs | false => none) = _
    rw [l1']
  unfold openEnds
  rw [openF_ok a M]
  show (topFrom treeTable p w (M0 + M) s0.abs).map _ = _
  rw [t]
  exact congrArg some (Prod.ext l2 l3)
def RunEqI (r : OpenRow) (q : Program) (H : Hook) (ob : SharedT → H.α) (M0 M : Nat) (loose : List PySem.Str) (w : World) : Prop :=
  (endI (stepQ (denQ tabQ) (opening r.prog) w) (stepQ (denQ tabQ) r.prog w) M0 M r.prog).map (fun s => (looksF r.prog s.1.abs.heap s.2.abs, seenQ q loose (importedModules r.prog.main.body) (fun s => xlAt q [] s && recOk r.toRowW.records s) s.2.abs, ob s.2)) = some (true, openGood q loose, H.val w)
theorem head_anyI {r : OpenRow} {q : Program} {H : Hook} {ob : SharedT → H.α} {M0 M : Nat} {loose : List PySem.Str} {d : DefRec} {kwd : List (PySem.Str × PySem.Expr)} (ho : ∀ s : SharedT, ob s = H.obs s.abs)
    (run : ∀ w, RunEqI r q H ob M0 M loose w)
    (hdef : defOf q r.name = some (d, kwd)) (hp : r.prog.theDef r.name = some (d.params, d.body, d.scope)) (hk : kwWritten? d.params.kwonlyargs d.params.kw_defaults = some kwd)
    (hwr : (!r.writes || r.records.isEmpty) = true) (k1 : r.wellSaid = true) (ok : (chainsOk q && opensWell r.prog && (frees r.toRowW && r.within.isEmpty)) = true) (hb : r.prog.bare) (hw : r.toRowW.promised)
    (call : WalkO q loose (XL q []) H.says r.toRowW d kwd fun f vs => PySem.call f vs) : r.Holds := by
  have left : LeftO r.prog q loose (fun s => xlAt q [] s && recOk r.toRowW.records s) H.obs H.val (M0 + M) true :=
    left_oneI fun w => by
      have z := run w
      have eo : ob = fun s => H.obs s.abs := funext ho
      unfold RunEqI at z
      rw [eo] at z
      simp only [stepQ_eq, denQ_eq, tabQ_eq, seenQ_eq]
      exact z
  exact holds_open (r := r) (q := q) (loose := loose) (XP := XL q []) (YP := H.says) (d := d) (kwd := kwd) left H.of H.keeps (fun s z => xl_of s (Bool.and_eq_true_iff.mp z).1) XL.keeps hdef hp hk (fun s z => recFacts_of (Bool.and_eq_true_iff.mp z).2) hwr k1 ok hb hw call
end HeadI

namespace Mz
open PySem PySem.Spec PyProof.Rows L2

/-- a word that nobody unfolds by chance -/
structure Lk (p : Prop) : Prop where
  out : p
/-! ### what stays -/
def Ex (H H' : Hp) : Prop := ∀ a o, H a = some o → H' a = some o
theorem Ex.refl (H : Hp) : Ex H H := fun _ _ h => h
theorem Ex.trans {H H1 H2 : Hp} (a : Ex H H1) (b : Ex H1 H2) : Ex H H2 := fun x o h => b x o (a x o h)
theorem Ex.back {H H' : Hp} {p : Addr} (e : Ex H H') (h : H' p = none) : H p = none := by
  cases h1 : H p with
  | none => rfl
  | some o => rw [e p o h1] at h; cases h
theorem Ex.new {H : Hp} {p : Addr} {o : HO} (h : H p = none) : Ex H (upd H p o) := fun a u e => by
  rw [upd_ne (ne_of_none e h)]; exact e
theorem Ex.mut {H H' : Hp} {p : Addr} {o : HO} (e : Ex H H') (h : H p = none) : Ex H (upd H' p o) := fun a u ha => by
  rw [upd_ne (ne_of_none ha h)]; exact e a u ha
theorem Ex.up {H H' : Hp} {p : Addr} {o : HO} (e : Ex H H') : Ex (upd H p o) (upd H' p o) := fun a u ha => by
  by_cases h : a = p
  · subst h; rw [upd_same] at ha ⊢; exact ha
  · rw [upd_ne h] at ha ⊢; exact e a u ha
/-- a list that may be read: tracked, or known -/
abbrev Rl (H : Hp) (a : Addr) (xs : List V) : Prop := Rd H a (.lst xs)
theorem ex_rl {H H' : Hp} {a : Addr} {xs : List V} (e : Ex H H') (h : Rl H a xs) : Rl H' a xs := by
  rcases h with h | ⟨o, h⟩
  · exact .inl (e _ _ h)
  · exact .inr ⟨o, e _ _ h⟩
theorem ex_sql {K : PySem.W.Frag} {H H' : Hp} {a : Addr} {xs : List V} (e : Ex H H') (h : Rl H a xs) : SqL K H' a xs := .inl (ex_rl e h)
theorem ex_sqt {K : PySem.W.Frag} {H H' : Hp} {a : Addr} {xs : List V} (e : Ex H H') (h : SqT K H a xs) : SqT K H' a xs := by
  rcases h with (h | ⟨o, h⟩) | h
  · exact .inl (.inl (e _ _ h))
  · exact .inl (.inr ⟨o, e _ _ h⟩)
  · exact .inr h

/-! ### data that stays: how a value bears a datum -/
structure Rp (α : Type) where
  r : Hp → V → α → Prop
  mono : ∀ {F F' : Hp} {v : V} {a : α}, Ex F F' → r F v a → r F' v a
def All2 {α : Type} (R : Rp α) (F : Hp) (vs : List V) (as : List α) : Prop := Paired (fun v a => R.r F v a) vs as
theorem All2.mono {α : Type} {R : Rp α} {F F' : Hp} {vs : List V} {as : List α} (e : Ex F F') (h : All2 R F vs as) : All2 R F' vs as :=
  Paired.mapP h fun _ _ q => R.mono e q
theorem All2.len {α : Type} {R : Rp α} {F : Hp} {vs : List V} {as : List α} (h : All2 R F vs as) : vs.length = as.length := Paired.length h
section
variable {A B : Type} {P : A → B → Prop}
theorem p2_get : ∀ {vs : List A} {as : List B} {i : Nat} {a : B}, Paired P vs as → as[i]? = some a → ∃ v, vs[i]? = some v ∧ P v a
  | _, _, _, _, .nil, e => by simp at e
  | _, _, 0, _, .cons r _, e => by simp at e; subst e; exact ⟨_, rfl, r⟩
  | _, _, i + 1, a, .cons _ t, e => by
    obtain ⟨v, h1, h2⟩ := p2_get (i := i) (a := a) t (by simpa using e)
    exact ⟨v, by simpa using h1, h2⟩
theorem p2_getV : ∀ {vs : List A} {as : List B} {i : Nat} {v : A}, Paired P vs as → vs[i]? = some v → ∃ a, as[i]? = some a ∧ P v a
  | _, _, _, _, .nil, e => by simp at e
  | _, _, 0, _, .cons r _, e => by simp at e; subst e; exact ⟨_, rfl, r⟩
  | _, _, i + 1, a, .cons _ t, e => by
    obtain ⟨v, h1, h2⟩ := p2_getV (i := i) (v := a) t (by simpa using e)
    exact ⟨v, by simpa using h1, h2⟩
theorem p2_app : ∀ {vs ws : List A} {as bs : List B}, Paired P vs as → Paired P ws bs → Paired P (vs ++ ws) (as ++ bs)
  | _, _, _, _, .nil, s => s
  | _, _, _, _, .cons r t, s => .cons r (p2_app t s)
theorem p2_set {v : A} {a : B} (q : P v a) : ∀ {vs : List A} {as : List B} (i : Nat), Paired P vs as → Paired P (vs.set i v) (as.set i a)
  | _, _, _, .nil => .nil
  | _, _, 0, .cons _ t => .cons q t
  | _, _, i + 1, .cons r t => .cons r (p2_set q i t)
theorem p2_take : ∀ {vs : List A} {as : List B} (n : Nat), Paired P vs as → Paired P (vs.take n) (as.take n)
  | _, _, 0, _ => .nil
  | _, _, _ + 1, .nil => .nil
  | _, _, n + 1, .cons r t => .cons r (p2_take n t)
theorem p2_drop : ∀ {vs : List A} {as : List B} (n : Nat), Paired P vs as → Paired P (vs.drop n) (as.drop n)
  | _, _, 0, h => h
  | _, _, _ + 1, .nil => .nil
  | _, _, n + 1, .cons _ t => p2_drop n t
theorem p2_rev {vs : List A} {as : List B} (h : Paired P vs as) : Paired P vs.reverse as.reverse := by
  induction h with
  | nil => exact .nil
  | cons r t ih => rw [List.reverse_cons, List.reverse_cons]; exact Paired.snoc ih r
end
section
variable {α : Type} {R : Rp α} {F : Hp}
theorem All2.get {vs : List V} {as : List α} {i : Nat} {a : α} (h : All2 R F vs as) (e : as[i]? = some a) : ∃ v, vs[i]? = some v ∧ R.r F v a := p2_get h e
theorem All2.getV {vs : List V} {as : List α} {i : Nat} {v : V} (h : All2 R F vs as) (e : vs[i]? = some v) : ∃ a, as[i]? = some a ∧ R.r F v a := p2_getV h e
theorem All2.nil : All2 R F [] [] := Paired.nil
theorem All2.cons {vs : List V} {as : List α} {v : V} {a : α} (q : R.r F v a) (h : All2 R F vs as) : All2 R F (v :: vs) (a :: as) := Paired.cons q h
theorem All2.snoc {vs : List V} {as : List α} {v : V} {a : α} (h : All2 R F vs as) (q : R.r F v a) : All2 R F (vs ++ [v]) (as ++ [a]) := Paired.snoc h q
theorem All2.app {vs ws : List V} {as bs : List α} (h : All2 R F vs as) (g : All2 R F ws bs) : All2 R F (vs ++ ws) (as ++ bs) := p2_app h g
theorem All2.set {v : V} {a : α} (q : R.r F v a) {vs : List V} {as : List α} (i : Nat) (h : All2 R F vs as) : All2 R F (vs.set i v) (as.set i a) := p2_set q i h
theorem All2.take {vs : List V} {as : List α} (n : Nat) (h : All2 R F vs as) : All2 R F (vs.take n) (as.take n) := p2_take n h
theorem All2.drop {vs : List V} {as : List α} (n : Nat) (h : All2 R F vs as) : All2 R F (vs.drop n) (as.drop n) := p2_drop n h
theorem All2.rev {vs : List V} {as : List α} (h : All2 R F vs as) : All2 R F vs.reverse as.reverse := p2_rev h
end

def RI : Rp Int := ⟨fun _ v a => v = .int a, fun _ h => h⟩
def RB : Rp Bool := ⟨fun _ v a => v = .bl a, fun _ h => h⟩
def RS : Rp Str := ⟨fun _ v a => v = .str a, fun _ h => h⟩
def RU : Rp Unit := ⟨fun _ v _ => v = .non, fun _ h => h⟩
def RO {α : Type} (R : Rp α) : Rp (Option α) := ⟨fun F v o => match o with | none => v = .non | some a => R.r F v a ∧ v ≠ .non, fun {F F' v o} e h => by
  cases o with
  | none => exact h
  | some a => exact ⟨R.mono e h.1, h.2⟩⟩
def RL {α : Type} (K : PySem.W.Frag) (R : Rp α) : Rp (List α) := ⟨fun F v as => ∃ p vs, v = .ref p ∧ Rl F p vs ∧ All2 R F vs as, fun {F F' v as} e h => by
  obtain ⟨p, vs, h1, h2, h3⟩ := h
  exact ⟨p, vs, h1, ex_rl e h2, h3.mono e⟩⟩
/-- a tuple of any length, one kind of items -/
def RV {α : Type} (K : PySem.W.Frag) (R : Rp α) : Rp (List α) := ⟨fun F v as => ∃ p vs, v = .ref p ∧ SqT K F p vs ∧ All2 R F vs as, fun {F F' v as} e h => by
  obtain ⟨p, vs, h1, h2, h3⟩ := h
  exact ⟨p, vs, h1, ex_sqt e h2, h3.mono e⟩⟩
/-- several values in a row -/
structure Rs (α : Type) where
  r : Hp → List V → α → Prop
  mono : ∀ {F F' : Hp} {v : List V} {a : α}, Ex F F' → r F v a → r F' v a
  n : Nat
  len : ∀ {F : Hp} {v : List V} {a : α}, r F v a → v.length = n
def R1 {α : Type} (R : Rp α) : Rs α := ⟨fun F vs a => ∃ v, vs = [v] ∧ R.r F v a, fun {F F' vs a} e h => by
  obtain ⟨v, h1, h2⟩ := h
  exact ⟨v, h1, R.mono e h2⟩, 1, fun {F vs a} h => by obtain ⟨v, h1, h2⟩ := h; subst h1; rfl⟩
def RC {α β : Type} (R : Rp α) (T : Rs β) : Rs (α × β) := ⟨fun F vs a => ∃ v ws, vs = v :: ws ∧ R.r F v a.1 ∧ T.r F ws a.2, fun {F F' vs a} e h => by
  obtain ⟨v, ws, h1, h2, h3⟩ := h
  exact ⟨v, ws, h1, R.mono e h2, T.mono e h3⟩, T.n + 1, fun {F vs a} h => by
  obtain ⟨v, ws, h1, h2, h3⟩ := h
  subst h1
  rw [List.length_cons, T.len h3]⟩
/-- a tuple of several kinds -/
def RT {α : Type} (K : PySem.W.Frag) (T : Rs α) : Rp α := ⟨fun F v a => ∃ p vs, v = .ref p ∧ SqT K F p vs ∧ T.r F vs a, fun {F F' v as} e h => by
  obtain ⟨p, vs, h1, h2, h3⟩ := h
  exact ⟨p, vs, h1, ex_sqt e h2, T.mono e h3⟩⟩
abbrev RP2 {α β : Type} (K : PySem.W.Frag) (R : Rp α) (T : Rp β) : Rp (α × β) := RT K (RC R (R1 T))
abbrev RP3 {α β γ : Type} (K : PySem.W.Frag) (R : Rp α) (T : Rp β) (U : Rp γ) : Rp (α × β × γ) := RT K (RC R (RC T (R1 U)))

/-! ### the slots -/
/-- a thing that may be owned: no tuple, no code object, no code object's table -/
def Pl : HO → Prop
  | .tup _ => False
  | .tbl _ => False
  | .ext φ => ∀ c q, HO.ext φ ≠ LamX.CodeO c q
  | _ => True
theorem pl_code {c : Addr} {q : Str} : ¬ Pl (LamX.CodeO c q) := fun h => h c q rfl
structure Sd where
  fp : List Addr
  p : Hp → Hp → V → Prop
  st : ∀ {F F' H H' : Hp} {v : V}, Ex F F' → (∀ a ∈ fp, H' a = H a) → p F H v → p F' H' v
  nt : ∀ {F H : Hp} {v : V}, p F H v → ∀ a ∈ fp, ∃ o, H a = some o ∧ Pl o
def imm {α : Type} (R : Rp α) (a : α) : Sd := ⟨[], fun F _ v => R.r F v a, (fun e _ h => R.mono e h), fun _ _ h => nomatch h⟩
/-- what is owned: the object at l and all that hangs on it alone -/
structure Qd where
  fp : List Addr
  q : Hp → Hp → Prop
  st : ∀ {F F' H H' : Hp}, Ex F F' → (∀ a ∈ fp, H' a = H a) → q F H → q F' H'
  nt : ∀ {F H : Hp}, q F H → ∀ a ∈ fp, ∃ o, H a = some o ∧ Pl o
def own (l : Addr) (Q : Qd) : Sd := ⟨Q.fp, fun F H v => v = .ref l ∧ Q.q F H, (fun e f h => ⟨h.1, Q.st e f h.2⟩), fun h => Q.nt h.2⟩
theorem nt_at {l : Addr} {H : Hp} {o : HO} (h : H l = some o) (n : Pl o) : ∀ a ∈ [l], ∃ o, H a = some o ∧ Pl o := fun a ha => by
  rw [List.mem_singleton.mp ha]
  exact ⟨o, h, n⟩
theorem Sd.nT {P : Sd} {F H : Hp} {v : V} (q : P.p F H v) (a : Addr) (h : a ∈ P.fp) (xs : List V) : H a ≠ some (.tup xs) := fun z => by
  obtain ⟨o, h1, h2⟩ := P.nt q a h
  rw [z] at h1; cases h1; exact h2
theorem Sd.nB {P : Sd} {F H : Hp} {v : V} (q : P.p F H v) (a : Addr) (h : a ∈ P.fp) (xs : Array Value) : H a ≠ some (.tbl xs) := fun z => by
  obtain ⟨o, h1, h2⟩ := P.nt q a h
  rw [z] at h1; cases h1; exact h2
/-- an own list -/
def QL {α : Type} (l : Addr) (R : Rp α) (as : List α) : Qd := ⟨[l], fun F H => ∃ vs, H l = some (.lst vs) ∧ All2 R F vs as, (fun {F F' H H'} e f h => by
  obtain ⟨vs, h1, h2⟩ := h
  exact ⟨vs, (f l (by simp)).trans h1, h2.mono e⟩), fun ⟨vs, h1, _⟩ => nt_at h1 trivial⟩
/-- an own list of a few items of several kinds -/
def QS {α : Type} (l : Addr) (T : Rs α) (a : α) : Qd := ⟨[l], fun F H => ∃ vs, H l = some (.lst vs) ∧ T.r F vs a, (fun {F F' H H'} e f h => by
  obtain ⟨vs, h1, h2⟩ := h
  exact ⟨vs, (f l (by simp)).trans h1, T.mono e h2⟩), fun ⟨vs, h1, _⟩ => nt_at h1 trivial⟩
abbrev Gm := List (Option Sd)
/-- what is kept round a def's run: w, what others own; f0, what stood fast at the entry -/
structure Fx where
  w : Hp
  f0 : Hp
  tb : List (Addr × Str)
/-- the tables of the code objects stand outside all that is kept or owned; what they tell is kept -/
def Tb (T : List (Addr × Str)) (w : Hp) (G : Gm) (F H : Hp) : Prop := ∀ p ∈ T, w p.1 = none ∧ F p.1 = none ∧ (∀ (i : Nat) (P : Sd), G[i]? = some (some P) → p.1 ∉ P.fp) ∧
  ∃ ps : Array Value, H p.1 = some (.tbl ps) ∧ TriplesOk ps.toList ∧ ∀ (pos : Pos) (cv : Value), codeAmong pos ps.toList = some cv → ∃ c, cv = .ref c ∧ F c = some (LamX.CodeO c p.2)
theorem Tb.go {T : List (Addr × Str)} {w w' : Hp} {G G' : Gm} {F F' H H' : Hp} (t : Tb T w G F H) (hw : ∀ p ∈ T, w' p.1 = none) (hF : ∀ p ∈ T, F' p.1 = none) (hG : ∀ p ∈ T, ∀ (i : Nat) (P : Sd), G'[i]? = some (some P) → p.1 ∉ P.fp)
    (hH : ∀ p ∈ T, ∀ o, H p.1 = some o → H' p.1 = some o) (hc : ∀ c q, F c = some (LamX.CodeO c q) → F' c = some (LamX.CodeO c q)) : Tb T w' G' F' H' := fun p hp => by
  obtain ⟨_, _, _, ps, h1, h2, h3⟩ := t p hp
  refine ⟨hw p hp, hF p hp, hG p hp, ps, hH p hp _ h1, h2, fun pos cv h => ?_⟩
  obtain ⟨c, e, h4⟩ := h3 pos cv h
  exact ⟨c, e, hc _ _ h4⟩
theorem Tb.w0 {T : List (Addr × Str)} {w : Hp} {G : Gm} {F H : Hp} (t : Tb T w G F H) : ∀ p ∈ T, w p.1 = none := fun p hp => (t p hp).1
theorem Tb.F0 {T : List (Addr × Str)} {w : Hp} {G : Gm} {F H : Hp} (t : Tb T w G F H) : ∀ p ∈ T, F p.1 = none := fun p hp => (t p hp).2.1
theorem Tb.G0 {T : List (Addr × Str)} {w : Hp} {G : Gm} {F H : Hp} (t : Tb T w G F H) : ∀ p ∈ T, ∀ (i : Nat) (P : Sd), G[i]? = some (some P) → p.1 ∉ P.fp := fun p hp => (t p hp).2.2.1
theorem Tb.H0 {T : List (Addr × Str)} {w : Hp} {G : Gm} {F H : Hp} (t : Tb T w G F H) : ∀ p ∈ T, ∃ ps, H p.1 = some (.tbl ps) := fun p hp => by
  obtain ⟨_, _, _, ps, h1, _⟩ := t p hp
  exact ⟨ps, h1⟩
/-- all but the tables stays -/
def ExN (T : List (Addr × Str)) (H H' : Hp) : Prop := ∀ a o, (∀ p ∈ T, a ≠ p.1) → H a = some o → H' a = some o
theorem Ex.exn {T : List (Addr × Str)} {H H' : Hp} (h : Ex H H') : ExN T H H' := fun a o _ e => h a o e
structure Sat (W : Fx) (G : Gm) (σ : L2.St) (F H : Hp) : Prop where
  len : σ.length = G.length
  ex : Ex F H
  f0 : Ex W.f0 F
  wx : Ex W.w H
  wf : ∀ a, W.w a ≠ none → F a = none ∨ ∃ xs, W.w a = some (.tup xs)
  sl : ∀ (i : Nat) (P : Sd), G[i]? = some (some P) → ∃ v, σ[i]? = some (some v) ∧ P.p F H v
  dj : ∀ (i j : Nat) (P Q : Sd) (a : Addr), G[i]? = some (some P) → G[j]? = some (some Q) → a ∈ P.fp → a ∈ Q.fp → i = j
  fr : ∀ (i : Nat) (P : Sd) (a : Addr), G[i]? = some (some P) → a ∈ P.fp → F a = none ∧ W.w a = none ∧ H a ≠ none
  tt : Tb W.tb W.w G F H

theorem get_set {α : Type} {l : List α} {i j : Nat} {x y : α} (h : (l.set i x)[j]? = some y) : (j = i ∧ y = x) ∨ (j ≠ i ∧ l[j]? = some y) := by
  by_cases e : i = j
  · subst e
    rw [List.getElem?_set_self'] at h
    cases q : l[i]? with
    | none => rw [q] at h; simp at h
    | some z => rw [q] at h; simp at h; exact .inl ⟨rfl, h.symm⟩
  · rw [List.getElem?_set_ne e] at h
    exact .inr ⟨fun z => e z.symm, h⟩

theorem Sat.stepN {W : Fx} {G : Gm} {σ : L2.St} {F H F' H' : Hp} (S : Sat W G σ F H) (ef : Ex F F') (ex : Ex F' H') (eh : ExN W.tb H H') (n1 : ∀ a, W.w a ≠ none → F' a = none ∨ ∃ xs, W.w a = some (.tup xs))
    (n2 : ∀ (i : Nat) (P : Sd) (a : Addr), G[i]? = some (some P) → a ∈ P.fp → F' a = none) (t : Tb W.tb W.w G F' H') : Sat W G σ F' H' := by
  have at' : ∀ (i : Nat) (P : Sd), G[i]? = some (some P) → ∀ a ∈ P.fp, H' a = H a := fun i P h a ha => by
    cases q : H a with
    | none => exact absurd q (S.fr i P a h ha).2.2
    | some o => exact eh a o (fun p hp z => S.tt.G0 p hp i P h (z ▸ ha)) q
  refine ⟨S.len, ex, S.f0.trans ef, fun a o h => eh a o (fun p hp z => ?_) (S.wx a o h), n1, fun i P h => ?_, S.dj, fun i P a h1 h2 => ?_, t⟩
  · rw [z, S.tt.w0 p hp] at h; cases h
  · obtain ⟨v, h1, h2⟩ := S.sl i P h
    exact ⟨v, h1, P.st ef (at' i P h) h2⟩
  · obtain ⟨q1, q2, q3⟩ := S.fr i P a h1 h2
    exact ⟨n2 i P a h1 h2, q2, by rw [at' i P h1 a h2]; exact q3⟩
theorem Sat.stepG {W : Fx} {G : Gm} {σ : L2.St} {F H F' H' : Hp} (S : Sat W G σ F H) (ef : Ex F F') (ex : Ex F' H') (eh : Ex H H') (n1 : ∀ a, W.w a ≠ none → F' a = none ∨ ∃ xs, W.w a = some (.tup xs))
    (n2 : ∀ (i : Nat) (P : Sd) (a : Addr), G[i]? = some (some P) → a ∈ P.fp → F' a = none) (n3 : ∀ p ∈ W.tb, F' p.1 = none) : Sat W G σ F' H' :=
  S.stepN ef ex eh.exn n1 n2 (S.tt.go S.tt.w0 n3 S.tt.G0 (fun p _ o h => eh _ _ h) fun c q h => ef _ _ h)
theorem Sat.stepTN {W : Fx} {G : Gm} {σ : L2.St} {F H F' H' : Hp} (S : Sat W G σ F H) (ef : Ex F F') (ex : Ex F' H') (eh : ExN W.tb H H') (nw : ∀ a, (∀ p ∈ W.tb, a ≠ p.1) → H a ≠ none → F' a = F a ∨ ∃ xs, H a = some (.tup xs)) (t : Tb W.tb W.w G F' H') : Sat W G σ F' H' := by
  refine S.stepN ef ex eh (fun a h => ?_) (fun i P a h1 h2 => ?_) t
  · cases q : W.w a with
    | none => exact absurd q h
    | some o =>
      have qH := S.wx a o q
      rcases nw a (fun p hp z => h (by rw [z]; exact S.tt.w0 p hp)) (by rw [qH]; intro z; cases z) with e | ⟨xs, e⟩
      · rw [e, ← q]; exact S.wf a h
      · rw [qH] at e; exact .inr ⟨xs, e⟩
  · obtain ⟨q1, q2, q3⟩ := S.fr i P a h1 h2
    rcases nw a (fun p hp z => S.tt.G0 p hp i P h1 (z ▸ h2)) q3 with e | ⟨xs, e⟩
    · rw [e]; exact q1
    · obtain ⟨v, _, p⟩ := S.sl i P h1
      exact absurd e (Sd.nT p a h2 xs)
theorem Sat.stepT {W : Fx} {G : Gm} {σ : L2.St} {F H F' H' : Hp} (S : Sat W G σ F H) (ef : Ex F F') (ex : Ex F' H') (eh : Ex H H') (nw : ∀ a, H a ≠ none → F' a = F a ∨ ∃ xs, H a = some (.tup xs)) : Sat W G σ F' H' :=
  S.stepTN ef ex eh.exn (fun a _ h => nw a h) (S.tt.go S.tt.w0 (fun p hp => by
    obtain ⟨ps, h⟩ := S.tt.H0 p hp
    rcases nw p.1 (by rw [h]; intro z; cases z) with e | ⟨xs, e⟩
    · rw [e]; exact S.tt.F0 p hp
    · rw [h] at e; cases e) S.tt.G0 (fun p _ o h => eh _ _ h) fun c q h => ef _ _ h)
/-- new things stand: what is known stays -/
theorem Sat.step {W : Fx} {G : Gm} {σ : L2.St} {F H F' H' : Hp} (S : Sat W G σ F H) (ef : Ex F F') (ex : Ex F' H') (eh : Ex H H') (nw : ∀ a, H a ≠ none → F' a = F a) : Sat W G σ F' H' := S.stepT ef ex eh fun a h => .inl (nw a h)
/-- a tuple that stands is known -/
theorem Sat.tupF {W : Fx} {G : Gm} {σ : L2.St} {F H : Hp} {q : Addr} {xs : List V} (S : Sat W G σ F H) (h : H q = some (.tup xs)) : Ex F (upd F q (.tup xs)) ∧ Sat W G σ (upd F q (.tup xs)) H := by
  have e1 : Ex F (upd F q (.tup xs)) := fun a o e => by
    by_cases z : a = q
    · subst z; have := S.ex a o e; rw [h] at this; cases this; exact upd_same
    · rw [upd_ne z]; exact e
  refine ⟨e1, S.stepT e1 (fun a o e => ?_) (Ex.refl H) fun a _ => ?_⟩
  · by_cases z : a = q
    · subst z; rw [upd_same] at e; cases e; exact h
    · rw [upd_ne z] at e; exact S.ex a o e
  · by_cases z : a = q
    · subst z; exact .inr ⟨xs, h⟩
    · exact .inl (upd_ne z)
/-- a new thing that stays as it is -/
theorem Sat.new {W : Fx} {G : Gm} {σ : L2.St} {F H : Hp} (S : Sat W G σ F H) {p : Addr} {o : HO} (hp : H p = none) : Sat W G σ (upd F p o) (upd H p o) :=
  S.step (Ex.new (S.ex.back hp)) S.ex.up (Ex.new hp) fun a h => upd_ne fun z => h (by rw [z]; exact hp)
/-- a new thing of one's own, not yet in a slot -/
theorem Sat.newO {W : Fx} {G : Gm} {σ : L2.St} {F H : Hp} (S : Sat W G σ F H) {p : Addr} {o : HO} (hp : H p = none) : Sat W G σ F (upd H p o) :=
  S.step (Ex.refl F) (S.ex.mut (S.ex.back hp)) (Ex.new hp) fun _ _ => rfl
theorem Sat.set {W : Fx} {G : Gm} {σ : L2.St} {F H : Hp} (S : Sat W G σ F H) {i : Nat} {P : Sd} {v : V} (h : P.p F H v) (hf : ∀ a ∈ P.fp, F a = none ∧ W.w a = none ∧ H a ≠ none ∧ ∀ (j : Nat) (Q : Sd), G[j]? = some (some Q) → a ∉ Q.fp) :
    Sat W (G.set i (some P)) (σ.set i (some v)) F H := by
  refine ⟨by rw [List.length_set, List.length_set]; exact S.len, S.ex, S.f0, S.wx, S.wf, fun j Q h2 => ?_, fun j k Q T a h1 h2 m1 m2 => ?_, fun j Q a h1 h2 => ?_, S.tt.go S.tt.w0 S.tt.F0 (fun p hp j Q h1 h2 => ?_) (fun p _ o h => h) fun c q h => h⟩
  · rcases get_set h2 with ⟨rfl, e⟩ | ⟨ne, e⟩
    · cases Option.some.inj e
      refine ⟨v, ?_, h⟩
      have hl : j < G.length := by
        have := (List.getElem?_eq_some_iff.mp h2).1
        rw [List.length_set] at this; exact this
      rw [List.getElem?_set_self (by rw [S.len]; exact hl)]
    · obtain ⟨w, h3, h4⟩ := S.sl j Q e
      exact ⟨w, by rw [List.getElem?_set_ne (Ne.symm ne)]; exact h3, h4⟩
  · rcases get_set h1 with ⟨rfl, e1⟩ | ⟨n1, e1⟩
    · cases Option.some.inj e1
      rcases get_set h2 with ⟨rfl, e2⟩ | ⟨n2, e2⟩
      · rfl
      · exact absurd m2 ((hf a m1).2.2.2 k T e2)
    · rcases get_set h2 with ⟨rfl, e2⟩ | ⟨n2, e2⟩
      · cases Option.some.inj e2
        exact absurd m1 ((hf a m2).2.2.2 j Q e1)
      · exact S.dj j k Q T a e1 e2 m1 m2
  · rcases get_set h1 with ⟨rfl, e1⟩ | ⟨n1, e1⟩
    · cases Option.some.inj e1
      exact ⟨(hf a h2).1, (hf a h2).2.1, (hf a h2).2.2.1⟩
    · exact S.fr j Q a e1 h2
  · rcases get_set h1 with ⟨rfl, e1⟩ | ⟨n1, e1⟩
    · cases Option.some.inj e1
      obtain ⟨ps, z⟩ := S.tt.H0 p hp
      exact Sd.nB h p.1 h2 ps z
    · exact S.tt.G0 p hp j Q e1 h2
theorem Sat.setI {W : Fx} {G : Gm} {σ : L2.St} {F H : Hp} (S : Sat W G σ F H) {i : Nat} {α : Type} {R : Rp α} {a : α} {v : V} (h : R.r F v a) : Sat W (G.set i (some (imm R a))) (σ.set i (some v)) F H :=
  S.set (P := imm R a) h fun _ z => nomatch z
/-- a slot's word is weakened -/
theorem Sat.weak {W : Fx} {G G' : Gm} {σ : L2.St} {F H : Hp} (S : Sat W G σ F H) (hl : G'.length = G.length) (h : ∀ (i : Nat) (P : Sd), G'[i]? = some (some P) → ∃ Q : Sd, G[i]? = some (some Q) ∧ (∀ v, Q.p F H v → P.p F H v) ∧ ∀ a ∈ P.fp, a ∈ Q.fp) : Sat W G' σ F H := by
  refine ⟨S.len.trans hl.symm, S.ex, S.f0, S.wx, S.wf, fun i P e => ?_, fun i j P Q a e1 e2 m1 m2 => ?_, fun i P a e m => ?_, S.tt.go S.tt.w0 S.tt.F0 (fun p hp i P e m => ?_) (fun p _ o h => h) fun c q h => h⟩
  · obtain ⟨Q, h1, h2, _⟩ := h i P e
    obtain ⟨v, h3, h4⟩ := S.sl i Q h1
    exact ⟨v, h3, h2 v h4⟩
  · obtain ⟨P', h1, _, h2⟩ := h i P e1
    obtain ⟨Q', h3, _, h4⟩ := h j Q e2
    exact S.dj i j P' Q' a h1 h3 (h2 a m1) (h4 a m2)
  · obtain ⟨P', h1, _, h2⟩ := h i P e
    exact S.fr i P' a h1 (h2 a m)
  · obtain ⟨P', h1, _, h2⟩ := h i P e
    exact S.tt.G0 p hp i P' h1 (h2 _ m)
/-- what slot i owns is changed -/
theorem Sat.mut {W : Fx} {G : Gm} {σ : L2.St} {F H H' : Hp} {i : Nat} {l : Addr} {Q Q' : Qd} (S : Sat W G σ F H) (hi : G[i]? = some (some (own l Q))) (ex : ∀ a, a ∉ Q.fp → H' a = H a) (hq : Q'.q F H') (hs : ∀ a ∈ Q'.fp, a ∈ Q.fp ∧ H' a ≠ none) :
    Sat W (G.set i (some (own l Q'))) σ F H' := by
  have nf : ∀ a, a ∈ Q.fp → F a = none ∧ W.w a = none ∧ H a ≠ none := fun a h => S.fr i _ a hi h
  have np : ∀ p ∈ W.tb, p.1 ∉ Q.fp := fun p hp m => S.tt.G0 p hp i _ hi m
  refine ⟨by rw [List.length_set]; exact S.len, fun a o h => ?_, S.f0, fun a o h => ?_, S.wf, fun j P h2 => ?_, fun j k P T a h1 h2 m1 m2 => ?_, fun j P a h1 h2 => ?_, S.tt.go S.tt.w0 S.tt.F0 (fun p hp j P h1 h2 => ?_) (fun p hp o h => by rw [ex _ (np p hp)]; exact h) fun c q h => h⟩
  · rw [ex a fun z => by rw [(nf a z).1] at h; cases h]
    exact S.ex a o h
  · rw [ex a fun z => by rw [(nf a z).2.1] at h; cases h]
    exact S.wx a o h
  · rcases get_set h2 with ⟨rfl, e⟩ | ⟨ne, e⟩
    · cases Option.some.inj e
      obtain ⟨v, h3, h4⟩ := S.sl j _ hi
      exact ⟨v, h3, h4.1, hq⟩
    · obtain ⟨v, h3, h4⟩ := S.sl j P e
      exact ⟨v, h3, P.st (Ex.refl F) (fun a m => ex a fun z => ne (S.dj j i P _ a e hi m z)) h4⟩
  · rcases get_set h1 with ⟨rfl, e1⟩ | ⟨n1, e1⟩
    · cases Option.some.inj e1
      rcases get_set h2 with ⟨rfl, e2⟩ | ⟨n2, e2⟩
      · rfl
      · exact S.dj j k _ T a hi e2 (hs a m1).1 m2
    · rcases get_set h2 with ⟨rfl, e2⟩ | ⟨n2, e2⟩
      · cases Option.some.inj e2
        exact S.dj j k P _ a e1 hi m1 (hs a m2).1
      · exact S.dj j k P T a e1 e2 m1 m2
  · rcases get_set h1 with ⟨rfl, e1⟩ | ⟨n1, e1⟩
    · cases Option.some.inj e1
      exact ⟨(nf a (hs a h2).1).1, (nf a (hs a h2).1).2.1, (hs a h2).2⟩
    · obtain ⟨q1, q2, q3⟩ := S.fr j P a e1 h2
      refine ⟨q1, q2, ?_⟩
      rw [ex a fun z => n1 (S.dj j i P _ a e1 hi h2 z)]
      exact q3
  · rcases get_set h1 with ⟨rfl, e1⟩ | ⟨n1, e1⟩
    · cases Option.some.inj e1
      exact np p hp (hs _ h2).1
    · exact S.tt.G0 p hp j P e1 h2
theorem upd_out {H : Hp} {l : Addr} {o : HO} : ∀ a, a ∉ [l] → upd H l o a = H a := fun a h => upd_ne fun z => h (by simp [z])
/-- what slot i owns is kept as it is from now on -/
theorem Sat.freeze {W : Fx} {G : Gm} {σ : L2.St} {F H : Hp} {i : Nat} {l : Addr} {α : Type} {K : PySem.W.Frag} {R : Rp α} {as : List α} (S : Sat W G σ F H) (hi : G[i]? = some (some (own l (QL l R as)))) :
    ∃ F', Ex F F' ∧ Sat W (G.set i (some (imm (RL K R) as))) σ F' H := by
  obtain ⟨v, h1, rfl, vs, h3, h4⟩ := S.sl i _ hi
  have nf := S.fr i _ l hi (List.mem_singleton.mpr rfl)
  have e1 : Ex F (upd F l (.lst vs)) := Ex.new nf.1
  have nl : ∀ p ∈ W.tb, p.1 ≠ l := fun p hp z => S.tt.G0 p hp i _ hi (z ▸ List.mem_singleton.mpr rfl)
  refine ⟨upd F l (.lst vs), e1, by rw [List.length_set]; exact S.len, fun a o h => ?_, S.f0.trans e1, S.wx, fun a h => ?_, fun j P h2 => ?_, fun j k P T a h1 h2 m1 m2 => ?_, fun j P a h1 h2 => ?_, S.tt.go S.tt.w0 (fun p hp => by rw [upd_ne (nl p hp)]; exact S.tt.F0 p hp) (fun p hp j P h1 h2 => ?_) (fun p _ o h => h) fun c q h => e1 _ _ h⟩
  · by_cases z : a = l
    · subst z; rw [upd_same] at h; cases h; exact h3
    · rw [upd_ne z] at h; exact S.ex a o h
  · rw [upd_ne fun z => h (by rw [z]; exact nf.2.1)]
    exact S.wf a h
  · rcases get_set h2 with ⟨rfl, e⟩ | ⟨ne, e⟩
    · cases Option.some.inj e
      exact ⟨_, h1, l, vs, rfl, .inl upd_same, h4.mono e1⟩
    · obtain ⟨w, h5, h6⟩ := S.sl j P e
      exact ⟨w, h5, P.st e1 (fun _ _ => rfl) h6⟩
  · rcases get_set h1 with ⟨rfl, e⟩ | ⟨n1, e1'⟩
    · cases Option.some.inj e; exact nomatch m1
    · rcases get_set h2 with ⟨rfl, e⟩ | ⟨n2, e2⟩
      · cases Option.some.inj e; exact nomatch m2
      · exact S.dj j k P T a e1' e2 m1 m2
  · rcases get_set h1 with ⟨rfl, e⟩ | ⟨n1, e1'⟩
    · cases Option.some.inj e; exact nomatch h2
    · obtain ⟨q1, q2, q3⟩ := S.fr j P a e1' h2
      refine ⟨?_, q2, q3⟩
      rw [upd_ne fun z => n1 (S.dj j i P _ a e1' hi h2 (by rw [z]; exact List.mem_singleton.mpr rfl))]
      exact q1
  · rcases get_set h1 with ⟨rfl, e⟩ | ⟨n1, e1'⟩
    · cases Option.some.inj e; exact nomatch h2
    · exact S.tt.G0 p hp j P e1' h2
theorem Sat.slI {W : Fx} {G : Gm} {σ : L2.St} {F H : Hp} {i : Nat} {α : Type} {R : Rp α} {a : α} (S : Sat W G σ F H) (h : G[i]? = some (some (imm R a))) : ∃ v, σ[i]? = some (some v) ∧ R.r F v a := S.sl i _ h
/-- what holds of slots alone -/
def Tr (W : Fx) (G : Gm) (P : L2.St → Hp → Prop) : Prop := Lk (∀ σ F H, Sat W G σ F H → P σ H)
end Mz

namespace Mz
open PySem PySem.Spec PyProof.Rows L2

/-! ### the widest reading of a piece of syntax -/
/-- no list is longer than a list may be -/
def HB (X : Cx) (H : Hp) : Prop := ∀ a xs, (SqL X.K H a xs ∨ SqT X.K H a xs) → xs.length ≤ sizeLine
theorem hb_of {X : Cx} {pins : List (Addr × Obj)} {σ : L2.St} {H : Hp} {s : Shared} (I : Inv X pins σ H s) : HB X H := fun a xs h => by
  rcases h with h | h
  · obtain ⟨_, _, _, z⟩ := I.list h
    exact z
  · obtain ⟨_, _, _, z⟩ := I.tuple h
    exact z
def wE (X : Cx) (e : Expr) : TE := fun σ H Q => ∀ pins s, Inv X pins σ H s → wpAny (model X.prog X.w) X.A (eval e X.env) (EP X pins σ fun v H' => HB X H' → Q v H') X.xe s
def wT (X : Cx) (e : Expr) : TT := fun σ H Q => ∀ pins s, Inv X pins σ H s → wpAny (model X.prog X.w) X.A (isTrue e X.env (eval e X.env)) (TP X pins σ Q) X.xe s
def wW (X : Cx) (e : Expr) : TT := fun σ H Q => ∀ (whole : Sem Value) pins s, Inv X pins σ H s → wpAny (model X.prog X.w) X.A (isTrue e X.env whole) (TP X pins σ Q) X.xe s
def wA (X : Cx) (es : List Expr) : TA := fun σ H Q => ∀ (pos : Pos) pins s, Inv X pins σ H s → wpAny (model X.prog X.w) X.A (spliced (backTo pos (starEach es X.env))) (AP X pins σ Q) X.xe s
def wS (X : Cx) (st : List Stmt) : TS := fun D σ H => ∀ pins s, Inv X pins σ H s → wpAny (model X.prog X.w) X.A (execs st X.env) (SP X pins D) X.xe s
section
variable {X : Cx} {e : Expr} {es : List Expr} {st : List Stmt}
theorem wE_pe : PE X e (wE X e) := ⟨fun pins s σ H Q I h => thn (h pins s I) fun u s1 ⟨v, H', I', r, q⟩ => ⟨v, H', I', r, q (hb_of I')⟩⟩
theorem wE_hb {σ H Q} (h : wE X e σ H fun v H' => HB X H' → Q v H') : wE X e σ H Q := fun pins s I => thn (h pins s I) fun u s1 ⟨v, H', I', r, q⟩ => ⟨v, H', I', r, fun b => q b b⟩
theorem wT_pt : PT X e (wT X e) := ⟨fun pins s σ H Q I h => h pins s I⟩
theorem wW_pw : PW X e (wW X e) := ⟨fun wh pins s σ H Q I h => h wh pins s I⟩
theorem wA_pa : PA X es (wA X es) := ⟨fun pos pins s σ H Q I h => h pos pins s I⟩
theorem wS_ps : PSs X st (wS X st) := ⟨fun pins s σ H D I h => h pins s I⟩
theorem toE {t : TE} {σ H Q} (h : PE X e t) (q : t σ H Q) : wE X e σ H Q := fun pins s I => thn (h.run pins s σ H Q I q) fun u s1 ⟨v, H', I', r, q⟩ => ⟨v, H', I', r, fun _ => q⟩
theorem toT {t : TT} {σ H Q} (h : PT X e t) (q : t σ H Q) : wT X e σ H Q := fun pins s I => h.run pins s σ H Q I q
theorem toW {t : TT} {σ H Q} (h : PW X e t) (q : t σ H Q) : wW X e σ H Q := fun wh pins s I => h.run wh pins s σ H Q I q
theorem toA {t : TA} {σ H Q} (h : PA X es t) (q : t σ H Q) : wA X es σ H Q := fun pos pins s I => h.run pos pins s σ H Q I q
theorem toS {t : TS} {D σ H} (h : PSs X st t) (q : t D σ H) : wS X st D σ H := fun pins s I => h.run pins s σ H D I q
end

/-! ### what an expression is worth -/
def Ev (X : Cx) (W : Fx) (e : Expr) (G : Gm) {α : Type} (R : Rp α) (a : α) (G' : Gm) : Prop :=
  Lk (∀ σ F H (Q : VK), Sat W G σ F H → (∀ v F' H', Ex F F' → Sat W G' σ F' H' → R.r F' v a → Q v H') → wE X e σ H Q)
def EvT (X : Cx) (W : Fx) (e : Expr) (G : Gm) (b : Bool) (G' : Gm) : Prop :=
  Lk (∀ σ F H (Q : Bool → Hp → Prop), Sat W G σ F H → (∀ F' H', Ex F F' → Sat W G' σ F' H' → Q b H') → wT X e σ H Q)
def EvW (X : Cx) (W : Fx) (e : Expr) (G : Gm) (b : Bool) (G' : Gm) : Prop :=
  Lk (∀ σ F H (Q : Bool → Hp → Prop), Sat W G σ F H → (∀ F' H', Ex F F' → Sat W G' σ F' H' → Q b H') → wW X e σ H Q)
/-- a new thing that nothing else knows -/
def NewO (W : Fx) (G : Gm) (F H : Hp) (Q : Qd) : Prop := Q.q F H ∧ ∀ a ∈ Q.fp, F a = none ∧ W.w a = none ∧ H a ≠ none ∧ ∀ (j : Nat) (P : Sd), G[j]? = some (some P) → a ∉ P.fp
def EvO (X : Cx) (W : Fx) (e : Expr) (G : Gm) (O : Addr → Qd) (G' : Gm) : Prop :=
  Lk (∀ σ F H (Q : VK), Sat W G σ F H → (∀ l F' H', Ex F F' → Sat W G' σ F' H' → NewO W G' F' H' (O l) → Q (.ref l) H') → wE X e σ H Q)

section
variable {X : Cx} {W : Fx} {G G1 G2 G3 : Gm} {α β γ : Type} {R : Rp α} {T : Rp β} {U : Rp γ} {a b c : Expr} {x : α} {y : β} {z : γ} {pos : Pos}

theorem NewO.list {W : Fx} {G : Gm} {σ : L2.St} {F H : Hp} {p : Addr} {vs : List V} {as : List α} (S : Sat W G σ F H) (hp : H p = none) (h : All2 R F vs as) : Sat W G σ F (upd H p (.lst vs)) ∧ NewO W G F (upd H p (.lst vs)) (QL p R as) := by
  refine ⟨S.newO hp, ⟨vs, upd_same, h⟩, fun a ha => ?_⟩
  have e : a = p := List.mem_singleton.mp ha
  subst e
  refine ⟨S.ex.back hp, S.wx.back hp, (by rw [upd_same]; intro z; cases z), fun j P hj hm => (S.fr j P a hj hm).2.2 hp⟩
/-- a new list that is kept as it is -/
theorem EvO.fix {as : List α} (h : EvO X W a G (fun l => QL l R as) G1) : Ev X W a G (RL X.K R) as G1 := .mk fun σ F H Q S q =>
  h.out σ F H Q S fun l F' H' e1 S1 ⟨⟨vs, n1, n2⟩, n3⟩ => by
    have nl := n3 l (List.mem_singleton.mpr rfl)
    have e2 : Ex F' (upd F' l (.lst vs)) := Ex.new nl.1
    refine q (.ref l) (upd F' l (.lst vs)) H' (e1.trans e2) ?_ ⟨l, vs, rfl, .inl upd_same, n2.mono e2⟩
    refine S1.stepG e2 (fun b o hb => ?_) (Ex.refl _) (fun b hb => ?_) (fun i P b h1 h2 => ?_) fun pt hpt => ?_
    · by_cases z : b = l
      · subst z; rw [upd_same] at hb; cases hb; exact n1
      · rw [upd_ne z] at hb; exact S1.ex b o hb
    · rw [upd_ne fun z => hb (by rw [z]; exact nl.2.1)]; exact S1.wf b hb
    · rw [upd_ne fun z => nl.2.2.2 i P h1 (by rw [← z]; exact h2)]; exact (S1.fr i P b h1 h2).1
    · obtain ⟨ps, hz⟩ := S1.tt.H0 pt hpt
      rw [upd_ne fun z => by rw [z, n1] at hz; cases hz]; exact S1.tt.F0 pt hpt

/-! ### names, constants -/
theorem ev_var {i : Nat} {n : Str} (hN : X.N[i]? = some n) (hv : Vis X.env.scope n) (hG : G[i]? = some (some (imm R x))) (hd : (n == ("__debug__" : Str)) = false := by decide) (hcd : (n == ("__classdict__" : Str)) = false := by decide) :
    Ev X W (.Name n pos) G R x G := .mk fun σ F H Q S q => by
  obtain ⟨v, h1, h2⟩ := S.slI hG
  exact toE (pe_var hN hv hd hcd) ⟨v, h1, q v F H (Ex.refl F) S h2⟩
theorem ev_int {i j} : Ev X W (.Constant (.int i) j pos) G RI i G := .mk fun σ F H Q S q => toE pe_int (q _ F H (Ex.refl F) S rfl)
theorem ev_bl {i j} : Ev X W (.Constant (.bool i) j pos) G RB i G := .mk fun σ F H Q S q => toE pe_bl (q _ F H (Ex.refl F) S rfl)
theorem ev_str {i j} : Ev X W (.Constant (.str i) j pos) G RS i G := .mk fun σ F H Q S q => toE pe_str (q _ F H (Ex.refl F) S rfl)
theorem ev_non {j} : Ev X W (.Constant .none j pos) G RU () G := .mk fun σ F H Q S q => toE pe_non (q _ F H (Ex.refl F) S rfl)
/-- None where something may be -/
theorem Ev.none (h : Ev X W a G RU () G1) : Ev X W a G (RO R) none G1 := .mk fun σ F H Q S q => h.out σ F H Q S fun v F' H' e S' r => q v F' H' e S' r
theorem Ev.eq {x' : α} (h : Ev X W a G R x G1) (e : x = x') : Ev X W a G R x' G1 := e ▸ h
/-- another reading of the value -/
theorem Ev.as (h : Ev X W a G R x G1) (e : ∀ F v, R.r F v x → T.r F v y) : Ev X W a G T y G1 := .mk fun σ F H Q S q => h.out σ F H Q S fun v F' H' e1 S' r => q v F' H' e1 S' (e F' v r)

/-! ### two values in a row -/
theorem two {σ : L2.St} {F H : Hp} {K : V → V → Hp → Prop} (ha : Ev X W a G R x G1) (hb : Ev X W b G1 T y G2) (S : Sat W G σ F H)
    (k : ∀ v u F' H', Ex F F' → Sat W G2 σ F' H' → R.r F' v x → T.r F' u y → K v u H') : wE X a σ H fun v H1 => wE X b σ H1 fun u H2 => K v u H2 :=
  ha.out σ F H _ S fun v F1 H1 e1 S1 r1 => hb.out σ F1 H1 _ S1 fun u F2 H2 e2 S2 r2 => k v u F2 H2 (e1.trans e2) S2 (R.mono e2 r1) r2
/-- an operation that only hands back a value -/
def Op2 (X : Cx) (f : Value → Value → Sem Value) {α β γ : Type} (R : Rp α) (x : α) (T : Rp β) (y : β) (U : Rp γ) (z : γ) : Prop :=
  ∃ r : L2.R2, OpR X f r ∧ ∀ F H v u (Q : VK), Ex F H → R.r F v x → T.r F u y → (∀ w, U.r F w z → Q w H) → r v u H Q
theorem ev_op {op : Operator} (ho : Op2 X (binaryOp op) R x T y U z) (ha : Ev X W a G R x G1) (hb : Ev X W b G1 T y G2) : Ev X W (.BinOp a op b pos) G U z G2 := .mk fun σ F H Q S q => by
  obtain ⟨r, h1, h2⟩ := ho
  exact toE (pe_op h1 wE_pe wE_pe) (two ha hb S fun v u F' H' e S' r1 r2 => h2 F' H' v u _ S'.ex r1 r2 fun w rw => q w F' H' e S' rw)
theorem op2_I0 {f : Value → Value → Sem Value} {g : Int → Int → Int} {i j : Int} (h : OpR X f (rI0 fun i j => .int (g i j))) : Op2 X f RI i RI j RI (g i j) :=
  ⟨_, h, fun F H v u Q _ r1 r2 q => ⟨i, j, r1, r2, q _ rfl⟩⟩
theorem op2_I {C : Int → Int → Prop} {f : Value → Value → Sem Value} {g : Int → Int → Int} {i j : Int} (h : OpR X f (rI C fun i j => .int (g i j))) (hc : C i j) : Op2 X f RI i RI j RI (g i j) :=
  ⟨_, h, fun F H v u Q _ r1 r2 q => ⟨i, j, r1, r2, hc, q _ rfl⟩⟩
theorem ev_add {i j : Int} (ha : Ev X W a G RI i G1) (hb : Ev X W b G1 RI j G2) : Ev X W (.BinOp a .Add b pos) G RI (i + j) G2 := ev_op (op2_I0 op_add) ha hb
theorem ev_sub {i j : Int} (ha : Ev X W a G RI i G1) (hb : Ev X W b G1 RI j G2) : Ev X W (.BinOp a .Sub b pos) G RI (i - j) G2 := ev_op (op2_I0 op_sub) ha hb
/-- * : one factor small, or together below a million bits -/
def mulOk (i j : Int) : Bool := (decide (-(2 ^ 64) < i) && decide (i < 2 ^ 64)) || (decide (-(2 ^ 64) < j) && decide (j < 2 ^ 64)) || decide (i.natAbs.log2 + j.natAbs.log2 < 1000000)
def mulO (i j : Int) : Option Int := if mulOk i j = true then some (i * j) else none
theorem mulOk_int {i j : Int} (h : mulOk i j = true) : IntMulOk i j := by
  unfold mulOk at h
  rw [Bool.or_eq_true, Bool.or_eq_true, Bool.and_eq_true, Bool.and_eq_true] at h
  rcases h with (h | h) | h
  · exact CMul.ok (.inl ⟨of_decide_eq_true h.1, of_decide_eq_true h.2⟩)
  · exact CMul.ok (.inr ⟨of_decide_eq_true h.1, of_decide_eq_true h.2⟩)
  · exact CMulW.ok (show i.natAbs.log2 + j.natAbs.log2 < 1000000 from of_decide_eq_true h)
theorem op_mulZ : OpR X (binaryOp .Mult) (rI IntMulOk fun i j => .int (i * j)) := opI fun _ _ _ _ _ _ _ hc q => mul_int q hc
theorem iop_mulZ : OpR X (inplaceOp .Mult) (rI IntMulOk fun i j => .int (i * j)) := opI fun _ _ _ _ _ _ _ hc q => imul_int q hc
theorem op2_mulO {i j k : Int} (h : mulO i j = some k) : Op2 X (binaryOp .Mult) RI i RI j RI k := by
  unfold mulO at h
  split at h
  · rename_i c
    cases h
    exact op2_I op_mulZ (mulOk_int c)
  · cases h
/-- a written factor -/
theorem mulOk_l {i : Int} (j : Int) (h : (decide (-(2 ^ 64) < i) && decide (i < 2 ^ 64)) = true) : mulOk i j = true := by unfold mulOk; rw [h]; rfl
theorem mulOk_r {j : Int} (i : Int) (h : (decide (-(2 ^ 64) < j) && decide (j < 2 ^ 64)) = true) : mulOk i j = true := by unfold mulOk; rw [h]; simp
theorem ev_mulL {i j : Int} (h : (decide (-(2 ^ 64) < i) && decide (i < 2 ^ 64)) = true) (ha : Ev X W a G RI i G1) (hb : Ev X W b G1 RI j G2) : Ev X W (.BinOp a .Mult b pos) G RI (i * j) G2 := ev_op (op2_I op_mulZ (mulOk_int (mulOk_l j h))) ha hb
theorem ev_mulR {i j : Int} (h : (decide (-(2 ^ 64) < j) && decide (j < 2 ^ 64)) = true) (ha : Ev X W a G RI i G1) (hb : Ev X W b G1 RI j G2) : Ev X W (.BinOp a .Mult b pos) G RI (i * j) G2 := ev_op (op2_I op_mulZ (mulOk_int (mulOk_r i h))) ha hb
theorem ev_mulO {i j k : Int} (h : mulO i j = some k) (ha : Ev X W a G RI i G1) (hb : Ev X W b G1 RI j G2) : Ev X W (.BinOp a .Mult b pos) G RI k G2 := ev_op (op2_mulO h) ha hb
/-- // by a written divisor, by any -/
theorem ev_divC {i j : Int} (h : 0 < j ∧ j < 1073741824) (ha : Ev X W a G RI i G1) (hb : Ev X W b G1 RI j G2) : Ev X W (.BinOp a .FloorDiv b pos) G RI (i / j) G2 := ev_op (op2_I op_fdiv h) ha hb
theorem ev_modC {i j : Int} (h : 0 < j) (ha : Ev X W a G RI i G1) (hb : Ev X W b G1 RI j G2) : Ev X W (.BinOp a .Mod b pos) G RI (i % j) G2 := ev_op (op2_I op_mod h) ha hb
def divO (i j : Int) : Option Int := if j ≠ 0 ∧ j.natAbs.log2 < 9000 then some (i.fdiv j) else none
def modO (i j : Int) : Option Int := if j ≠ 0 then some (i.fmod j) else none
theorem op_fdivZ : OpR X (binaryOp .FloorDiv) (rI (fun _ j => j ≠ 0 ∧ j.natAbs.log2 < 9000) fun i j => .int (i.fdiv j)) := opI fun i j _ _ _ _ _ hc q => floordiv_int hc.1 q (.inl (PyProof.noPylong_of_log2 hc.2))
theorem ev_divO {i j k : Int} (h : divO i j = some k) (ha : Ev X W a G RI i G1) (hb : Ev X W b G1 RI j G2) : Ev X W (.BinOp a .FloorDiv b pos) G RI k G2 := by
  unfold divO at h
  split at h
  · rename_i c
    cases h
    exact ev_op (op2_I op_fdivZ c) ha hb
  · cases h
theorem ev_modO {i j k : Int} (h : modO i j = some k) (ha : Ev X W a G RI i G1) (hb : Ev X W b G1 RI j G2) : Ev X W (.BinOp a .Mod b pos) G RI k G2 := by
  unfold modO at h
  split at h
  · rename_i c
    cases h
    exact ev_op (op2_I op_modN c) ha hb
  · cases h
/-- ** by a written exponent of a written base -/
theorem ev_powC {i j : Int} (h : 0 ≤ j ∧ j ≤ 1000000 ∧ i.natAbs < 2 ^ 64) (ha : Ev X W a G RI i G1) (hb : Ev X W b G1 RI j G2) : Ev X W (.BinOp a .Pow b pos) G RI (i ^ j.toNat) G2 := ev_op (op2_I op_pow h) ha hb
def powO (i j : Int) : Option Int := if 0 ≤ j ∧ j ≤ 1000000 ∧ i.natAbs < 2 ^ 64 then some (i ^ j.toNat) else none
theorem ev_powO {i j k : Int} (h : powO i j = some k) (ha : Ev X W a G RI i G1) (hb : Ev X W b G1 RI j G2) : Ev X W (.BinOp a .Pow b pos) G RI k G2 := by
  unfold powO at h
  split at h
  · rename_i c
    cases h
    exact ev_op (op2_I op_pow c) ha hb
  · cases h
theorem ev_neg {i : Int} (ha : Ev X W a G RI i G1) : Ev X W (.UnaryOp .USub a pos) G RI (-i) G1 := .mk fun σ F H Q S q =>
  toE (pe_un un_neg wE_pe) (ha.out σ F H _ S fun v F' H' e S' r => ⟨i, r, q _ F' H' e S' rfl⟩)

/-! ### comparisons -/
def Cmp (X : Cx) (op : CmpOp) {α β : Type} (R : Rp α) (x : α) (T : Rp β) (y : β) (c : Bool) : Prop := Op2 X (compareOp op) R x T y RB c
theorem ev_cmp {op : CmpOp} {c : Bool} (ho : Cmp X op R x T y c) (ha : Ev X W a G R x G1) (hb : Ev X W b G1 T y G2) (hm : behindInMarks op b = false) : Ev X W (.Compare a [op] [b] pos) G RB c G2 := .mk fun σ F H Q S q => by
  obtain ⟨r, h1, h2⟩ := ho
  exact toE (pe_cmpR h1 wE_pe wE_pe hm) (two ha hb S fun v u F' H' e S' r1 r2 => h2 F' H' v u _ S'.ex r1 r2 fun w rw => q w F' H' e S' rw)
theorem et_cmp {op : CmpOp} {c : Bool} (ho : Cmp X op R x T y c) (ha : Ev X W a G R x G1) (hb : Ev X W b G1 T y G2) (hm : behindInMarks op b = false) : EvT X W (.Compare a [op] [b] pos) G c G2 := .mk fun σ F H Q S q => by
  obtain ⟨r, h1, h2⟩ := ho
  exact toT (pt_cmpR h1 wE_pe wE_pe hm) (two ha hb S fun v u F' H' e S' r1 r2 => h2 F' H' v u _ S'.ex r1 r2 fun w rw => ⟨c, rw, q F' H' e S'⟩)
theorem cmp_I {op : CmpOp} {g : Int → Int → Bool} {i j : Int} (h : OpR X (compareOp op) (rI0 fun i j => .bl (g i j))) : Cmp X op RI i RI j (g i j) := ⟨_, h, fun F H v u Q _ r1 r2 q => ⟨i, j, r1, r2, q _ rfl⟩⟩
theorem cmp_lt {i j : Int} : Cmp X .Lt RI i RI j (decide (i < j)) := cmp_I op_lt
theorem cmp_le {i j : Int} : Cmp X .LtE RI i RI j (decide (i ≤ j)) := cmp_I op_le
theorem cmp_gt {i j : Int} : Cmp X .Gt RI i RI j (decide (i > j)) := cmp_I op_gt
theorem cmp_ge {i j : Int} : Cmp X .GtE RI i RI j (decide (i ≥ j)) := cmp_I op_ge
theorem cmp_eq {i j : Int} : Cmp X .Eq RI i RI j (decide (i = j)) := ⟨_, op_eq, fun F H v u Q _ r1 r2 q => by
  have e1 : v = .int i := r1
  have e2 : u = .int j := r2
  subst e1; subst e2
  refine ⟨rfl, q _ ?_⟩
  show V.bl _ = V.bl _
  by_cases h : i = j
  · subst h; simp
  · rw [decide_eq_false h, decide_eq_false fun z => h (V.int.inj z)]⟩
theorem cmp_ne {i j : Int} : Cmp X .NotEq RI i RI j (!decide (i = j)) := ⟨_, op_ne, fun F H v u Q _ r1 r2 q => by
  have e1 : v = .int i := r1
  have e2 : u = .int j := r2
  subst e1; subst e2
  refine ⟨rfl, q _ ?_⟩
  show V.bl _ = V.bl _
  by_cases h : i = j
  · subst h; simp
  · rw [decide_eq_false h, decide_eq_false fun z => h (V.int.inj z)]⟩
theorem cmp_eqS {i j : Str} : Cmp X .Eq RS i RS j (decide (i = j)) := ⟨_, op_eq, fun F H v u Q _ r1 r2 q => by
  have e1 : v = .str i := r1
  have e2 : u = .str j := r2
  subst e1; subst e2
  refine ⟨rfl, q _ ?_⟩
  show V.bl _ = V.bl _
  by_cases h : i = j
  · subst h; simp
  · rw [decide_eq_false h, decide_eq_false fun z => h (V.str.inj z)]⟩
theorem cmp_neS {i j : Str} : Cmp X .NotEq RS i RS j (!decide (i = j)) := ⟨_, op_ne, fun F H v u Q _ r1 r2 q => by
  have e1 : v = .str i := r1
  have e2 : u = .str j := r2
  subst e1; subst e2
  refine ⟨rfl, q _ ?_⟩
  show V.bl _ = V.bl _
  by_cases h : i = j
  · subst h; simp
  · rw [decide_eq_false h, decide_eq_false fun z => h (V.str.inj z)]⟩
theorem cmp_eqB {i j : Bool} : Cmp X .Eq RB i RB j (decide (i = j)) := ⟨_, op_eq, fun F H v u Q _ r1 r2 q => by
  have e1 : v = .bl i := r1
  have e2 : u = .bl j := r2
  subst e1; subst e2
  refine ⟨rfl, q _ ?_⟩
  show V.bl _ = V.bl _
  by_cases h : i = j
  · subst h; simp
  · rw [decide_eq_false h, decide_eq_false fun z => h (V.bl.inj z)]⟩
theorem cmp_neB {i j : Bool} : Cmp X .NotEq RB i RB j (!decide (i = j)) := ⟨_, op_ne, fun F H v u Q _ r1 r2 q => by
  have e1 : v = .bl i := r1
  have e2 : u = .bl j := r2
  subst e1; subst e2
  refine ⟨rfl, q _ ?_⟩
  show V.bl _ = V.bl _
  by_cases h : i = j
  · subst h; simp
  · rw [decide_eq_false h, decide_eq_false fun z => h (V.bl.inj z)]⟩
/-- x is None where something may be -/
theorem et_isN {o : Option α} {j} {p'} (ha : Ev X W a G (RO R) o G1) : EvT X W (.Compare a [.Is] [.Constant .none j p'] pos) G o.isNone G1 := .mk fun σ F H Q S q => by
  refine toT (pt_cmp (pc_isN wE_pe)) (ha.out σ F H _ S fun v F' H' e S' r => ⟨o.isNone, ?_, q F' H' e S'⟩)
  cases o with
  | none => have e : v = .non := r; subst e; rfl
  | some z => rw [decide_eq_false r.2]; rfl
theorem et_isNN {o : Option α} {j} {p'} (ha : Ev X W a G (RO R) o G1) : EvT X W (.Compare a [.IsNot] [.Constant .none j p'] pos) G o.isSome G1 := .mk fun σ F H Q S q => by
  refine toT (pt_cmp (pc_notN wE_pe)) (ha.out σ F H _ S fun v F' H' e S' r => ⟨o.isSome, ?_, q F' H' e S'⟩)
  cases o with
  | none => have e : v = .non := r; subst e; rfl
  | some z => rw [decide_eq_false r.2]; rfl
theorem ev_isN {o : Option α} {j} {p'} (ha : Ev X W a G (RO R) o G1) : Ev X W (.Compare a [.Is] [.Constant .none j p'] pos) G RB o.isNone G1 := .mk fun σ F H Q S q => by
  refine toE (pe_cmp (pc_isN wE_pe)) (ha.out σ F H _ S fun v F' H' e S' r => q _ F' H' e S' ?_)
  cases o with
  | none => have e : v = .non := r; subst e; rfl
  | some z => rw [decide_eq_false r.2]; rfl
theorem ev_isNN {o : Option α} {j} {p'} (ha : Ev X W a G (RO R) o G1) : Ev X W (.Compare a [.IsNot] [.Constant .none j p'] pos) G RB o.isSome G1 := .mk fun σ F H Q S q => by
  refine toE (pe_cmp (pc_notN wE_pe)) (ha.out σ F H _ S fun v F' H' e S' r => q _ F' H' e S' ?_)
  cases o with
  | none => have e : v = .non := r; subst e; rfl
  | some z => rw [decide_eq_false r.2]; rfl
/-- a < b < c -/
theorem chain_go {op op' : CmpOp} {c1 k : Bool} {σ : L2.St} {F H : Hp} {Q : V → Hp → Prop} (ho : Cmp X op R x T y c1) (ha : Ev X W a G R x G1) (hb : Ev X W b G1 T y G2) {r' : L2.R2} (h1' : OpR X (compareOp op') r')
    (hc : c1 = true → ∃ z, Ev X W c G2 U z G2 ∧ ∀ F H v u (Q : VK), Ex F H → T.r F v y → U.r F u z → (∀ w, RB.r F w k → Q w H) → r' v u H Q) (hf : c1 = false → k = false) (S : Sat W G σ F H)
    (q : ∀ F' H', Ex F F' → Sat W G2 σ F' H' → Q (.bl k) H') : ∃ r, OpR X (compareOp op) r ∧ tChain r r' (wE X a) (wE X b) (wE X c) σ H Q := by
  obtain ⟨r, h1, h2⟩ := ho
  refine ⟨r, h1, ?_⟩
  refine ha.out σ F H _ S fun v F1 H1 e1 S1 r1 => hb.out σ F1 H1 _ S1 fun u F2 H2 e2 S2 r2 => h2 F2 H2 v u _ S2.ex (R.mono e2 r1) r2 fun w rw => ⟨c1, rw, ?_⟩
  cases c1 with
  | false =>
    have e : k = false := hf rfl
    subst e
    exact q F2 H2 (e1.trans e2) S2
  | true =>
    obtain ⟨z, hz, h2'⟩ := hc rfl
    show wE X c σ H2 _
    exact hz.out σ F2 H2 _ S2 fun w' F3 H3 e3 S3 r3 => h2' F3 H3 u w' _ S3.ex (T.mono e3 r2) r3 fun w2 rw2 => by
        have e : w2 = .bl k := rw2
        subst e
        exact q F3 H3 ((e1.trans e2).trans e3) S3
/-- an int comparison's rule, whatever the ints -/
def CmpI (X : Cx) (op : CmpOp) (g : Int → Int → Bool) : Prop := OpR X (compareOp op) (rI0 fun i j => .bl (g i j))
theorem ev_chainI {op op' : CmpOp} {g g' : Int → Int → Bool} {i j : Int} {k : Bool} (h1 : CmpI X op g) (h1' : CmpI X op' g') (ha : Ev X W a G RI i G1) (hb : Ev X W b G1 RI j G2)
    (hc : g i j = true → ∃ l, Ev X W c G2 RI l G2 ∧ k = g' j l) (hf : g i j = false → k = false) (hm : lastMarks [op, op'] [b, c] = false := by with_unfolding_all rfl) : Ev X W (.Compare a [op, op'] [b, c] pos) G RB k G2 := .mk fun σ F H Q S q => by
  obtain ⟨r, e1, e2⟩ := chain_go (op := op) (op' := op') (k := k) (c := c) (U := RI) (cmp_I h1) ha hb h1' (fun e => by
    obtain ⟨l, p1, p2⟩ := hc e
    exact ⟨l, p1, fun F H v u Q _ r1 r2 q => ⟨j, l, r1, r2, q _ (by rw [p2]; rfl)⟩⟩) hf S fun F' H' e S' => q (.bl k) F' H' e S' rfl
  exact toE (pe_chain e1 h1' wE_pe wE_pe wE_pe hm) e2
theorem et_chainI {op op' : CmpOp} {g g' : Int → Int → Bool} {i j : Int} {k : Bool} (h1 : CmpI X op g) (h1' : CmpI X op' g') (ha : Ev X W a G RI i G1) (hb : Ev X W b G1 RI j G2)
    (hc : g i j = true → ∃ l, Ev X W c G2 RI l G2 ∧ k = g' j l) (hf : g i j = false → k = false) (hm : lastMarks [op, op'] [b, c] = false := by with_unfolding_all rfl) : EvT X W (.Compare a [op, op'] [b, c] pos) G k G2 := .mk fun σ F H Q S q => by
  obtain ⟨r, e1, e2⟩ := chain_go (op := op) (op' := op') (k := k) (c := c) (U := RI) (cmp_I h1) ha hb h1' (fun e => by
    obtain ⟨l, p1, p2⟩ := hc e
    exact ⟨l, p1, fun F H v u Q _ r1 r2 q => ⟨j, l, r1, r2, q _ (by rw [p2]; rfl)⟩⟩) hf S (Q := fun v H' => ∃ d, v = .bl d ∧ Q d H') fun F' H' e S' => ⟨k, rfl, q F' H' e S'⟩
  exact toT (pt_chain e1 h1' wE_pe wE_pe wE_pe hm) e2
theorem ci_lt : CmpI X .Lt fun i j => decide (i < j) := op_lt
theorem ci_le : CmpI X .LtE fun i j => decide (i ≤ j) := op_le
theorem ci_gt : CmpI X .Gt fun i j => decide (i > j) := op_gt
theorem ci_ge : CmpI X .GtE fun i j => decide (i ≥ j) := op_ge
theorem ci_eq : CmpI X .Eq fun i j => decide (i = j) := opB0 fun _ _ _ _ _ _ _ h => eq_int (by rw [Bool.beq_eq_decide_eq]; exact h)
theorem ci_ne : CmpI X .NotEq fun i j => !decide (i = j) := opB0 fun _ _ _ _ _ _ _ h => ne_int (by rw [bne, Bool.beq_eq_decide_eq]; exact h)

/-! ### tests -/
theorem et_val {k : Bool} (h : Ev X W a G RB k G1) (he : ∀ whole, isTrue a X.env whole = (do let v ← whole; standAt a.pos; holding [v] (truthy v)) := by intro _; rfl) : EvT X W a G k G1 := .mk fun σ F H Q S q =>
  toT (pt_val wE_pe he) (h.out σ F H _ S fun v F' H' e S' r => ⟨k, r, q F' H' e S'⟩)
theorem et_not {k : Bool} (h : EvT X W a G k G1) : EvT X W (.UnaryOp .Not a pos) G (!k) G1 := .mk fun σ F H Q S q =>
  toT (pt_not wT_pt) (h.out σ F H (fun c H1 => Q (!c) H1) S fun F' H' e S' => q F' H' e S')
theorem ev_not {k : Bool} (h : Ev X W a G RB k G1) : Ev X W (.UnaryOp .Not a pos) G RB (!k) G1 := .mk fun σ F H Q S q =>
  toE (pe_not wE_pe) (h.out σ F H _ S fun v F' H' e S' r => ⟨k, r, q _ F' H' e S' rfl⟩)
theorem et_w {k : Bool} (h : EvW X W a G k G1) : EvT X W a G k G1 := .mk fun σ F H Q S q => toT wW_pw.pt (h.out σ F H Q S q)
variable {rest : List Expr} {k l m : Bool}
theorem ew_and1 (h : EvT X W a G k G1) : EvW X W (.BoolOp .And [a] pos) G k G1 := .mk fun σ F H Q S q => toW (pw_and1 wT_pt) (h.out σ F H Q S q)
theorem ew_or1 (h : EvT X W a G k G1) : EvW X W (.BoolOp .Or [a] pos) G k G1 := .mk fun σ F H Q S q => toW (pw_or1 wT_pt) (h.out σ F H Q S q)
/-- m is the whole's worth: that of the rest if the first holds -/
theorem ew_and (h : EvT X W a G k G1) (h2 : k = true → EvW X W (.BoolOp .And (b :: rest) pos) G1 m G1) (h3 : k = false → m = false) : EvW X W (.BoolOp .And (a :: b :: rest) pos) G m G1 := .mk fun σ F H Q S q =>
  toW (pw_and wT_pt wW_pw) (h.out σ F H _ S fun F1 H1 e1 S1 => by
    cases k with
    | true => exact (h2 rfl).out σ F1 H1 _ S1 fun F2 H2 e2 S2 => q F2 H2 (e1.trans e2) S2
    | false =>
      have e := h3 rfl
      subst e
      exact q F1 H1 e1 S1)
theorem ew_or (h : EvT X W a G k G1) (h2 : k = false → EvW X W (.BoolOp .Or (b :: rest) pos) G1 m G1) (h3 : k = true → m = true) : EvW X W (.BoolOp .Or (a :: b :: rest) pos) G m G1 := .mk fun σ F H Q S q =>
  toW (pw_or wT_pt wW_pw) (h.out σ F H _ S fun F1 H1 e1 S1 => by
    cases k with
    | false => exact (h2 rfl).out σ F1 H1 _ S1 fun F2 H2 e2 S2 => q F2 H2 (e1.trans e2) S2
    | true =>
      have e := h3 rfl
      subst e
      exact q F1 H1 e1 S1)
theorem ew_andP (h : EvT X W a G k G1) (h2 : EvW X W (.BoolOp .And (b :: rest) pos) G1 l G1) : EvW X W (.BoolOp .And (a :: b :: rest) pos) G (k && l) G1 := ew_and h (fun e => by rw [e]; exact h2) fun e => by rw [e]; rfl
theorem ew_orP (h : EvT X W a G k G1) (h2 : EvW X W (.BoolOp .Or (b :: rest) pos) G1 l G1) : EvW X W (.BoolOp .Or (a :: b :: rest) pos) G (k || l) G1 := ew_or h (fun e => by rw [e]; exact h2) fun e => by rw [e]; rfl
theorem ev_and1 (h : Ev X W a G RB k G1) : Ev X W (.BoolOp .And [a] pos) G RB k G1 := .mk fun σ F H Q S q => toE (pe_one wE_pe) (h.out σ F H Q S q)
theorem ev_or1 (h : Ev X W a G RB k G1) : Ev X W (.BoolOp .Or [a] pos) G RB k G1 := .mk fun σ F H Q S q => toE (pe_one wE_pe) (h.out σ F H Q S q)
theorem ev_and (h : Ev X W a G RB k G1) (h2 : k = true → Ev X W (.BoolOp .And (b :: rest) pos) G1 RB m G1) (h3 : k = false → m = false) : Ev X W (.BoolOp .And (a :: b :: rest) pos) G RB m G1 := .mk fun σ F H Q S q =>
  toE (pe_and wE_pe wE_pe) (h.out σ F H _ S fun v F1 H1 e1 S1 r1 => ⟨k, r1, by
    cases k with
    | true => exact (h2 rfl).out σ F1 H1 _ S1 fun v F2 H2 e2 S2 r2 => q v F2 H2 (e1.trans e2) S2 r2
    | false =>
      have e := h3 rfl
      subst e
      exact q _ F1 H1 e1 S1 rfl⟩)
theorem ev_or (h : Ev X W a G RB k G1) (h2 : k = false → Ev X W (.BoolOp .Or (b :: rest) pos) G1 RB m G1) (h3 : k = true → m = true) : Ev X W (.BoolOp .Or (a :: b :: rest) pos) G RB m G1 := .mk fun σ F H Q S q =>
  toE (pe_or wE_pe wE_pe) (h.out σ F H _ S fun v F1 H1 e1 S1 r1 => ⟨k, r1, by
    cases k with
    | false => exact (h2 rfl).out σ F1 H1 _ S1 fun v F2 H2 e2 S2 r2 => q v F2 H2 (e1.trans e2) S2 r2
    | true =>
      have e := h3 rfl
      subst e
      exact q _ F1 H1 e1 S1 rfl⟩)
theorem ev_andP (h : Ev X W a G RB k G1) (h2 : Ev X W (.BoolOp .And (b :: rest) pos) G1 RB l G1) : Ev X W (.BoolOp .And (a :: b :: rest) pos) G RB (k && l) G1 := ev_and h (fun e => by rw [e]; exact h2) fun e => by rw [e]; rfl
theorem ev_orP (h : Ev X W a G RB k G1) (h2 : Ev X W (.BoolOp .Or (b :: rest) pos) G1 RB l G1) : Ev X W (.BoolOp .Or (a :: b :: rest) pos) G RB (k || l) G1 := ev_or h (fun e => by rw [e]; exact h2) fun e => by rw [e]; rfl
/-- b if a else c -/
theorem ev_if (h : EvT X W a G k G1) (h1 : k = true → Ev X W b G1 R x G2) (h2 : k = false → Ev X W c G1 R x G2) : Ev X W (.IfExp a b c pos) G R x G2 := .mk fun σ F H Q S q =>
  toE (pe_ifExp wT_pt wE_pe wE_pe) (h.out σ F H _ S fun F1 H1 e1 S1 => by
    cases k with
    | true => exact (h1 rfl).out σ F1 H1 _ S1 fun v F2 H2 e2 S2 r2 => q v F2 H2 (e1.trans e2) S2 r2
    | false => exact (h2 rfl).out σ F1 H1 _ S1 fun v F2 H2 e2 S2 r2 => q v F2 H2 (e1.trans e2) S2 r2)
theorem ev_ifP {x' : α} (h : EvT X W a G k G1) (h1 : Ev X W b G1 R x G2) (h2 : Ev X W c G1 R x' G2) : Ev X W (.IfExp a b c pos) G R (if k = true then x else x') G2 :=
  ev_if h (fun e => by rw [if_pos e]; exact h1) fun e => by rw [if_neg (by rw [e]; exact Bool.false_ne_true)]; exact h2
theorem et_eq {k l : Bool} (h : EvT X W a G k G1) (e : k = l) : EvT X W a G l G1 := e ▸ h
end
end Mz

namespace Mz
open PySem PySem.Spec PyProof.Rows L2

/-! ### the mirror's words -/
def lt {α β : Type} (a : α) (k : α → β) : β := k a
inductive Ctl (S β : Type) where
  | next (s : S) | brk (s : S) | ret (q : β)
def lp {α S : Type} (f : α → S → Option S) : List α → S → Option S
  | [], s => some s
  | a :: as, s => (f a s).bind fun s' => lp f as s'
def lpC {α S β : Type} (f : α → S → Option (Ctl S β)) : List α → S → Option (Ctl S β)
  | [], s => some (.next s)
  | a :: as, s => (f a s).bind fun c => match c with
    | .next s' => lpC f as s'
    | .brk s' => some (.next s')
    | .ret q => some (.ret q)
def rng (lo hi : Int) : List Int := (List.range (hi - lo).toNat).map fun (i : Nat) => lo + (i : Int)
def ix {α : Type} (xs : List α) (i : Int) : Option α := atI xs i
def appO {α : Type} (xs : List α) (a : α) : Option (List α) := if xs.length < 16000000 then some (xs ++ [a]) else none
def setO {α : Type} (xs : List α) (i : Int) (a : α) : Option (List α) := match ixN xs.length i with
  | some j => some (xs.set j a)
  | none => none
theorem size16 {n : Nat} (h : n < 16000000) : n < sizeLine := Nat.lt_of_lt_of_le h (by decide)

/-! ### rows of values -/
def Avs (F H : Hp) (vs : List V) (Ps : List Sd) : Prop := Paired (fun v (P : Sd) => P.fp = [] ∧ P.p F H v) vs Ps
/-- the address of what is lent -/
def bare (l : Addr) : Sd := ⟨[], fun _ _ v => v = .ref l, (fun _ _ h => h), fun _ _ h => nomatch h⟩
def EvA (X : Cx) (W : Fx) (es : List Expr) (G : Gm) (Ps : List Sd) (G' : Gm) : Prop :=
  Lk (∀ σ F H (Q : List V → Hp → Prop), Sat W G σ F H → (∀ vs F' H', Ex F F' → Sat W G' σ F' H' → Avs F' H' vs Ps → Q vs H') → wA X es σ H Q)
def EvR (X : Cx) (W : Fx) (es : List Expr) (G : Gm) {α : Type} (T : Rs α) (t : α) (G' : Gm) : Prop :=
  Lk (∀ σ F H (Q : List V → Hp → Prop), Sat W G σ F H → (∀ vs F' H', Ex F F' → Sat W G' σ F' H' → T.r F' vs t → Q vs H') → wA X es σ H Q)
def EvL (X : Cx) (W : Fx) (es : List Expr) (G : Gm) {α : Type} (R : Rp α) (as : List α) (G' : Gm) : Prop :=
  Lk (∀ σ F H (Q : List V → Hp → Prop), Sat W G σ F H → (∀ vs F' H', Ex F F' → Sat W G' σ F' H' → All2 R F' vs as → Q vs H') → wA X es σ H Q)

section
variable {X : Cx} {W : Fx} {G G1 G2 G3 : Gm} {α β γ : Type} {R : Rp α} {T : Rp β} {U : Rp γ} {a b c : Expr} {es : List Expr} {x : α} {y : β} {z : γ} {pos : Pos}
theorem ea_nil : EvA X W [] G [] G := .mk fun σ F H Q S q => toA pa_nil (q [] F H (Ex.refl F) S .nil)
theorem ea_cons {Ps : List Sd} (h : Ev X W a G R x G1) (t : EvA X W es G1 Ps G2) (hs : starEach (a :: es) X.env = (false, eval a X.env) :: starEach es X.env := by rfl) : EvA X W (a :: es) G (imm R x :: Ps) G2 := .mk fun σ F H Q S q =>
  toA (pa_cons wE_pe wA_pa hs) (h.out σ F H _ S fun v F1 H1 e1 S1 r1 => t.out σ F1 H1 _ S1 fun vs F2 H2 e2 S2 r2 => q (v :: vs) F2 H2 (e1.trans e2) S2 (.cons ⟨rfl, R.mono e2 r1⟩ r2))
/-- a name whose thing is lent -/
theorem ea_lend {Ps : List Sd} {i : Nat} {n : Str} {l : Addr} {Q : Qd} (hN : X.N[i]? = some n) (hv : Vis X.env.scope n) (hG : G[i]? = some (some (own l Q))) (t : EvA X W es G Ps G2) (hd : (n == ("__debug__" : Str)) = false := by decide) (hcd : (n == ("__classdict__" : Str)) = false := by decide)
    (hs : starEach (.Name n pos :: es) X.env = (false, eval (.Name n pos) X.env) :: starEach es X.env := by rfl) : EvA X W (.Name n pos :: es) G (bare l :: Ps) G2 := .mk fun σ F H Q S q => by
  obtain ⟨v, h1, h2, _⟩ := S.sl i _ hG
  exact toA (pa_cons (pe_var hN hv hd hcd) wA_pa hs) ⟨v, h1, t.out σ F H _ S fun vs F2 H2 e2 S2 r2 => q (v :: vs) F2 H2 e2 S2 (.cons ⟨rfl, h2⟩ r2)⟩
theorem er_one (h : Ev X W a G R x G1) (hs : starEach [a] X.env = (false, eval a X.env) :: starEach [] X.env := by rfl) : EvR X W [a] G (R1 R) x G1 := .mk fun σ F H Q S q =>
  toA (pa_cons wE_pe pa_nil hs) (h.out σ F H _ S fun v F1 H1 e1 S1 r1 => q [v] F1 H1 e1 S1 ⟨v, rfl, r1⟩)
theorem er_cons {τ : Type} {K : Rs τ} {t : τ} (h : Ev X W a G R x G1) (k : EvR X W es G1 K t G2) (hs : starEach (a :: es) X.env = (false, eval a X.env) :: starEach es X.env := by rfl) : EvR X W (a :: es) G (RC R K) (x, t) G2 := .mk fun σ F H Q S q =>
  toA (pa_cons wE_pe wA_pa hs) (h.out σ F H _ S fun v F1 H1 e1 S1 r1 => k.out σ F1 H1 _ S1 fun vs F2 H2 e2 S2 r2 => q (v :: vs) F2 H2 (e1.trans e2) S2 ⟨v, vs, rfl, R.mono e2 r1, r2⟩)
theorem el_nil : EvL X W [] G R [] G := .mk fun σ F H Q S q => toA pa_nil (q [] F H (Ex.refl F) S .nil)
theorem el_cons {xs : List α} (h : Ev X W a G R x G1) (t : EvL X W es G1 R xs G2) (hs : starEach (a :: es) X.env = (false, eval a X.env) :: starEach es X.env := by rfl) : EvL X W (a :: es) G R (x :: xs) G2 := .mk fun σ F H Q S q =>
  toA (pa_cons wE_pe wA_pa hs) (h.out σ F H _ S fun v F1 H1 e1 S1 r1 => t.out σ F1 H1 _ S1 fun vs F2 H2 e2 S2 r2 => q (v :: vs) F2 H2 (e1.trans e2) S2 (.cons (R.mono e2 r1) r2))

/-! ### displays -/
theorem ev_tup {τ : Type} {K : Rs τ} {t : τ} {k} (h : EvR X W es G K t G1) (hn : K.n ≤ sizeLine := by rw [sizeLine_eq]; first | exact Nat.le_of_ble_eq_true rfl | simp) : Ev X W (.Tuple es k pos) G (RT X.K K) t G1 := .mk fun σ F H Q S q =>
  toE (pe_tup wA_pa) (h.out σ F H _ S fun vs F1 H1 e1 S1 r1 => ⟨by rw [K.len r1]; exact hn, fun p hp => by
    have e2 : Ex F1 (upd F1 p (.tup vs)) := Ex.new (S1.ex.back hp)
    exact q _ _ _ (e1.trans e2) (S1.new hp) ⟨p, vs, rfl, .inl (.inl upd_same), K.mono e2 r1⟩⟩)
theorem ev_tupV {xs : List α} {k} (h : EvL X W es G R xs G1) (hn : xs.length ≤ sizeLine := by rw [sizeLine_eq]; first | exact Nat.le_of_ble_eq_true rfl | simp) : Ev X W (.Tuple es k pos) G (RV X.K R) xs G1 := .mk fun σ F H Q S q =>
  toE (pe_tup wA_pa) (h.out σ F H _ S fun vs F1 H1 e1 S1 r1 => ⟨by rw [r1.len]; exact hn, fun p hp => by
    have e2 : Ex F1 (upd F1 p (.tup vs)) := Ex.new (S1.ex.back hp)
    exact q _ _ _ (e1.trans e2) (S1.new hp) ⟨p, vs, rfl, .inl (.inl upd_same), r1.mono e2⟩⟩)
theorem eo_lst {xs : List α} (h : EvL X W es G R xs G1) (hn : xs.length ≤ sizeLine := by rw [sizeLine_eq]; first | exact Nat.le_of_ble_eq_true rfl | simp) : EvO X W (.List es pos) G (fun l => QL l R xs) G1 := .mk fun σ F H Q S q =>
  toE (pe_lst wA_pa) (h.out σ F H _ S fun vs F1 H1 e1 S1 r1 => ⟨by rw [r1.len]; exact hn, fun p hp => by
    obtain ⟨s1, s2⟩ := NewO.list S1 hp r1
    exact q p F1 _ e1 s1 s2⟩)
theorem eo_lstS {τ : Type} {K : Rs τ} {t : τ} (h : EvR X W es G K t G1) (hn : K.n ≤ sizeLine := by rw [sizeLine_eq]; first | exact Nat.le_of_ble_eq_true rfl | simp) : EvO X W (.List es pos) G (fun l => QS l K t) G1 := .mk fun σ F H Q S q =>
  toE (pe_lst wA_pa) (h.out σ F H _ S fun vs F1 H1 e1 S1 r1 => ⟨by rw [K.len r1]; exact hn, fun p hp => by
    refine q p F1 _ e1 (S1.newO hp) ⟨⟨vs, upd_same, r1⟩, fun a ha => ?_⟩
    have e : a = p := List.mem_singleton.mp ha
    subst e
    exact ⟨S1.ex.back hp, S1.wx.back hp, (by rw [upd_same]; intro z; cases z), fun j P hj hm => (S1.fr j P a hj hm).2.2 hp⟩⟩)

/-! ### items -/
theorem ev_ixL {xs : List α} {i : Int} (h : ix xs i = some x) (ha : Ev X W a G (RL X.K R) xs G1) (hb : Ev X W b G1 RI i G2) (hs : PlainIx b := by exact fun _ _ => rfl) : Ev X W (.Subscript a b pos) G R x G2 := .mk fun σ F H Q S q =>
  toE (pe_ix ix_list wE_pe wE_pe hs) (two ha hb S fun v u F' H' e S' r1 r2 => by
    obtain ⟨p, vs, e1, h1, h2⟩ := r1
    obtain ⟨j, h3, h4, h5, h6, h7⟩ := atI_get h
    obtain ⟨w, h8, h9⟩ := h2.get h4
    refine ⟨p, vs, i, w, e1, r2, ex_sql S'.ex h1, ?_, q w F' H' e S' h9⟩
    show atI vs i = some w
    unfold atI
    rw [h2.len]
    unfold ix atI at h
    cases hn : ixN xs.length i with
    | none => rw [hn] at h; cases h
    | some k =>
      rw [hn] at h
      have hk : xs[k]? = some x := h
      obtain ⟨w', h8', h9'⟩ := h2.get hk
      have : k = j := by
        have := (ixN_seq hn).1
        rw [this] at h3
        exact Option.some.inj h3
      subst this
      exact h8)
theorem ev_ixV {xs : List α} {i : Int} (h : ix xs i = some x) (ha : Ev X W a G (RV X.K R) xs G1) (hb : Ev X W b G1 RI i G2) (hs : PlainIx b := by exact fun _ _ => rfl) : Ev X W (.Subscript a b pos) G R x G2 := .mk fun σ F H Q S q =>
  toE (pe_ix ix_tup wE_pe wE_pe hs) (two ha hb S fun v u F' H' e S' r1 r2 => by
    obtain ⟨p, vs, e1, h1, h2⟩ := r1
    obtain ⟨j, h3, h4, h5, h6, h7⟩ := atI_get h
    obtain ⟨w, h8, h9⟩ := h2.get h4
    refine ⟨p, vs, i, w, e1, r2, ex_sqt S'.ex h1, ?_, q w F' H' e S' h9⟩
    show atI vs i = some w
    unfold atI
    rw [h2.len]
    unfold ix atI at h
    cases hn : ixN xs.length i with
    | none => rw [hn] at h; cases h
    | some k =>
      rw [hn] at h
      have hk : xs[k]? = some x := h
      have : k = j := by
        have := (ixN_seq hn).1
        rw [this] at h3
        exact Option.some.inj h3
      subst this
      exact h8)
/-- the j-th of several kinds -/
def Pj {τ α : Type} (K : Rs τ) (t : τ) (j : Nat) (R : Rp α) (x : α) : Prop := ∀ F vs, K.r F vs t → ∃ v, vs[j]? = some v ∧ R.r F v x
theorem pj_one : Pj (R1 R) x 0 R x := fun F vs h => by
  obtain ⟨v, rfl, h2⟩ := h
  exact ⟨v, rfl, h2⟩
theorem pj_hd {τ : Type} {K : Rs τ} {t : α × τ} : Pj (RC R K) t 0 R t.1 := fun F vs h => by
  obtain ⟨v, ws, rfl, h2, h3⟩ := h
  exact ⟨v, rfl, h2⟩
theorem pj_tl {τ : Type} {K : Rs τ} {t : β × τ} {j : Nat} (h : Pj K t.2 j R x) : Pj (RC T K) t (j + 1) R x := fun F vs h' => by
  obtain ⟨v, ws, rfl, h2, h3⟩ := h'
  obtain ⟨w, h4, h5⟩ := h F ws h3
  exact ⟨w, h4, h5⟩
theorem ev_ixT {τ : Type} {K : Rs τ} {t : τ} {j : Nat} {i : Int} (h : Pj K t j R x) (hi : ixN K.n i = some j) (ha : Ev X W a G (RT X.K K) t G1) (hb : Ev X W b G1 RI i G2) (hs : PlainIx b := by exact fun _ _ => rfl) : Ev X W (.Subscript a b pos) G R x G2 := .mk fun σ F H Q S q =>
  toE (pe_ix ix_tup wE_pe wE_pe hs) (two ha hb S fun v u F' H' e S' r1 r2 => by
    obtain ⟨p, vs, e1, h1, h2⟩ := r1
    obtain ⟨w, h4, h5⟩ := h F' vs h2
    refine ⟨p, vs, i, w, e1, r2, ex_sqt S'.ex h1, ?_, q w F' H' e S' h5⟩
    unfold atI
    rw [K.len h2, hi]
    exact h4)
/-- an own list of several kinds is read -/
theorem ev_ixO {τ : Type} {K : Rs τ} {t : τ} {j : Nat} {i : Int} {k : Nat} {n : Str} {l : Addr} {p0 : Pos} (hN : X.N[k]? = some n) (hv : Vis X.env.scope n) (hG : G[k]? = some (some (own l (QS l K t)))) (h : Pj K t j R x) (hi : ixN K.n i = some j)
    (hb : PE X b (tC (.int i))) (hs : PlainIx b := by exact fun _ _ => rfl) (hd : (n == ("__debug__" : Str)) = false := by decide) (hcd : (n == ("__classdict__" : Str)) = false := by decide) :
    Ev X W (.Subscript (.Name n p0) b pos) G R x G := .mk fun σ F H Q S q => by
  obtain ⟨v, h1, e1, vs, h2, h3⟩ := S.sl k _ hG
  obtain ⟨w, h4, h5⟩ := h F vs h3
  refine toE (pe_ix ix_list (pe_var hN hv hd hcd) hb hs) ⟨v, h1, l, vs, i, w, e1, rfl, .inl (.inl h2), ?_, q w F H (Ex.refl F) S h5⟩
  unfold atI
  rw [K.len h3, hi]
  exact h4
end
end Mz

namespace Mz
open PySem PySem.Spec PyProof.Rows L2

/-! ### builtins on values -/
section
variable {X : Cx} {W : Fx} {G G1 G2 G3 : Gm} {α β γ : Type} {R : Rp α} {T : Rp β} {U : Rp γ} {a b c : Expr} {es : List Expr} {x : α} {y : β} {z : γ} {pos : Pos} {n : Str} {p : Pos}
/-- f(a), f a builtin or a type -/
theorem ev_cb1 {id : String} {r : List V → Hp → VK → Prop} (hc : CallR X (.builtin id) r) (hm : X.mg n = none) (hv : bootBuiltins n = some (.builtin id)) (ha : Ev X W a G R x G1) (hr : ∀ F H v Q, Ex F H → R.r F v x → (∀ w, T.r F w y → Q w H) → r [v] H Q) (hg : Gl X n := by rfl)
    (hn : n ≠ "__name__" := by decide) (hdb : (n == ("__debug__" : Str)) = false := by decide) (hs : starEach [a] X.env = (false, eval a X.env) :: starEach [] X.env := by rfl) :
    Ev X W (.Call (.Name n p) [a] [] pos) G T y G1 := .mk fun σ F H Q S q =>
  toE (pe_callB hc hg hm hv (pa_cons wE_pe pa_nil hs) hn hdb hs rfl) (ha.out σ F H _ S fun v F' H' e S' r1 => hr F' H' v _ S'.ex r1 fun w rw => q w F' H' e S' rw)
theorem ev_ct1 {id : String} {r : List V → Hp → VK → Prop} (hc : CallR X (.type id) r) (hm : X.mg n = none) (hv : bootBuiltins n = some (.type id)) (ha : Ev X W a G R x G1) (hr : ∀ F H v Q, Ex F H → R.r F v x → (∀ w, T.r F w y → Q w H) → r [v] H Q) (hg : Gl X n := by rfl)
    (hn : n ≠ "__name__" := by decide) (hdb : (n == ("__debug__" : Str)) = false := by decide) (hs : starEach [a] X.env = (false, eval a X.env) :: starEach [] X.env := by rfl) :
    Ev X W (.Call (.Name n p) [a] [] pos) G T y G1 := .mk fun σ F H Q S q =>
  toE (pe_callTy hc hg hm hv (pa_cons wE_pe pa_nil hs) hn hdb hs rfl) (ha.out σ F H _ S fun v F' H' e S' r1 => hr F' H' v _ S'.ex r1 fun w rw => q w F' H' e S' rw)
theorem ev_cb2 {id : String} {r : List V → Hp → VK → Prop} (hc : CallR X (.builtin id) r) (hm : X.mg n = none) (hv : bootBuiltins n = some (.builtin id)) (ha : Ev X W a G R x G1) (hb : Ev X W b G1 U z G2) (hr : ∀ F H v u Q, Ex F H → R.r F v x → U.r F u z → (∀ w, T.r F w y → Q w H) → r [v, u] H Q) (hg : Gl X n := by rfl)
    (hn : n ≠ "__name__" := by decide) (hdb : (n == ("__debug__" : Str)) = false := by decide) (hs : starEach [a, b] X.env = (false, eval a X.env) :: starEach [b] X.env := by rfl) (hs2 : starEach [b] X.env = (false, eval b X.env) :: starEach [] X.env := by rfl) :
    Ev X W (.Call (.Name n p) [a, b] [] pos) G T y G2 := .mk fun σ F H Q S q =>
  toE (pe_callB hc hg hm hv (pa_cons wE_pe (pa_cons wE_pe pa_nil hs2) hs) hn hdb hs (by rw [hs2]; rfl)) (two ha hb S fun v u F' H' e S' r1 r2 => hr F' H' v u _ S'.ex r1 r2 fun w rw => q w F' H' e S' rw)
theorem ev_lenL {xs : List α} (hm : X.mg "len" = none) (ha : Ev X W a G (RL X.K R) xs G1) (hg : Gl X "len" := by rfl) (hs : starEach [a] X.env = (false, eval a X.env) :: starEach [] X.env := by rfl) : Ev X W (.Call (.Name "len" p) [a] [] pos) G RI (xs.length : Int) G1 :=
  ev_cb1 call_len_seq hm PySem.boot_len ha (fun F H v Q e r q => by
    obtain ⟨l, vs, e1, h1, h2⟩ := r
    exact ⟨l, vs, by rw [e1], .inl (ex_sql e h1), by rw [h2.len]; exact q _ rfl⟩) hg (by decide) (by decide) hs
theorem ev_lenV {xs : List α} (hm : X.mg "len" = none) (ha : Ev X W a G (RV X.K R) xs G1) (hg : Gl X "len" := by rfl) (hs : starEach [a] X.env = (false, eval a X.env) :: starEach [] X.env := by rfl) : Ev X W (.Call (.Name "len" p) [a] [] pos) G RI (xs.length : Int) G1 :=
  ev_cb1 call_len_seq hm PySem.boot_len ha (fun F H v Q e r q => by
    obtain ⟨l, vs, e1, h1, h2⟩ := r
    exact ⟨l, vs, by rw [e1], .inr (ex_sqt e h1), by rw [h2.len]; exact q _ rfl⟩) hg (by decide) (by decide) hs
theorem ev_lenT {τ : Type} {K : Rs τ} {t : τ} (hm : X.mg "len" = none) (ha : Ev X W a G (RT X.K K) t G1) (hg : Gl X "len" := by rfl) (hs : starEach [a] X.env = (false, eval a X.env) :: starEach [] X.env := by rfl) : Ev X W (.Call (.Name "len" p) [a] [] pos) G RI (K.n : Int) G1 :=
  ev_cb1 call_len_seq hm PySem.boot_len ha (fun F H v Q e r q => by
    obtain ⟨l, vs, e1, h1, h2⟩ := r
    exact ⟨l, vs, by rw [e1], .inr (ex_sqt e h1), by rw [K.len h2]; exact q _ rfl⟩) hg (by decide) (by decide) hs
def absZ (i : Int) : Int := if i < 0 then -i else i
def maxZ (i j : Int) : Int := if j > i then j else i
def minZ (i j : Int) : Int := if j < i then j else i
theorem ev_abs {i : Int} (hm : X.mg "abs" = none) (ha : Ev X W a G RI i G1) (hg : Gl X "abs" := by rfl) (hs : starEach [a] X.env = (false, eval a X.env) :: starEach [] X.env := by rfl) : Ev X W (.Call (.Name "abs" p) [a] [] pos) G RI (absZ i) G1 :=
  ev_cb1 call_abs hm (by decide +kernel) ha (fun F H v Q e r q => ⟨i, by rw [show v = V.int i from r], q _ rfl⟩) hg (by decide) (by decide) hs
theorem ev_max2 {i j : Int} (hm : X.mg "max" = none) (ha : Ev X W a G RI i G1) (hb : Ev X W b G1 RI j G2) (hc : X.calm = true := by rfl) (hg : Gl X "max" := by rfl) (hs : starEach [a, b] X.env = (false, eval a X.env) :: starEach [b] X.env := by rfl) (hs2 : starEach [b] X.env = (false, eval b X.env) :: starEach [] X.env := by rfl) : Ev X W (.Call (.Name "max" p) [a, b] [] pos) G RI (maxZ i j) G2 :=
  ev_cb2 (call_max2 hc) hm (by decide +kernel) ha hb (fun F H v u Q e r r2 q => ⟨i, j, by rw [show v = V.int i from r, show u = V.int j from r2], q _ rfl⟩) hg (by decide) (by decide) hs hs2
theorem ev_min2 {i j : Int} (hm : X.mg "min" = none) (ha : Ev X W a G RI i G1) (hb : Ev X W b G1 RI j G2) (hc : X.calm = true := by rfl) (hg : Gl X "min" := by rfl) (hs : starEach [a, b] X.env = (false, eval a X.env) :: starEach [b] X.env := by rfl) (hs2 : starEach [b] X.env = (false, eval b X.env) :: starEach [] X.env := by rfl) : Ev X W (.Call (.Name "min" p) [a, b] [] pos) G RI (minZ i j) G2 :=
  ev_cb2 (call_min2 hc) hm (by decide +kernel) ha hb (fun F H v u Q e r r2 q => ⟨i, j, by rw [show v = V.int i from r, show u = V.int j from r2], q _ rfl⟩) hg (by decide) (by decide) hs hs2
theorem ev_toint {i : Int} (hm : X.mg "int" = none) (ha : Ev X W a G RI i G1) (hg : Gl X "int" := by rfl) (hs : starEach [a] X.env = (false, eval a X.env) :: starEach [] X.env := by rfl) : Ev X W (.Call (.Name "int" p) [a] [] pos) G RI i G1 :=
  ev_ct1 call_int1 hm (by decide +kernel) ha (fun F H v Q e r q => .inl ⟨i, by rw [show v = V.int i from r], q _ rfl⟩) hg (by decide) (by decide) hs
def b2z (k : Bool) : Int := if k = true then 1 else 0
theorem ev_tointB {k : Bool} (hm : X.mg "int" = none) (ha : Ev X W a G RB k G1) (hg : Gl X "int" := by rfl) (hs : starEach [a] X.env = (false, eval a X.env) :: starEach [] X.env := by rfl) : Ev X W (.Call (.Name "int" p) [a] [] pos) G RI (b2z k) G1 :=
  ev_ct1 call_int1 hm (by decide +kernel) ha (fun F H v Q e r q => .inr ⟨k, by rw [show v = V.bl k from r], q _ rfl⟩) hg (by decide) (by decide) hs
end

/-! ### what a def hands back -/
def Rt {β : Type} (W : Fx) (Or : β → Sd → Prop) (Outs : β → List Sd) (q : β) (v : V) (H : Hp) : Prop := ∃ P F vs', Or q P ∧ Sat W (some P :: (Outs q).map some) (some v :: vs') F H
def Imm {β : Type} (R : Rp β) : β → Sd → Prop := fun q P => P = imm R q
def Pick (G : Gm) (Os : List Sd) : Prop := ∀ W σ F H, Sat W G σ F H → ∃ vs', Sat W (Os.map some) vs' F H
theorem pick_nil {G : Gm} : Pick G [] := fun W σ F H S => ⟨[], rfl, S.ex, S.f0, S.wx, S.wf, (fun i P h => by cases i <;> exact nomatch h), (fun i j P Q a h => by cases i <;> exact nomatch h), (fun i P a h => by cases i <;> exact nomatch h), S.tt.go S.tt.w0 S.tt.F0 (fun p hp i P h => by cases i <;> exact nomatch h) (fun p _ o h => h) fun c q h => h⟩
theorem pick_1 {G : Gm} {i : Nat} {P : Sd} (h : G[i]? = some (some P)) : Pick G [P] := fun W σ F H S => by
  obtain ⟨v, h1, h2⟩ := S.sl i P h
  refine ⟨[some v], rfl, S.ex, S.f0, S.wx, S.wf, fun j Q hj => ?_, fun j k Q T a hj hk m1 m2 => ?_, fun j Q a hj m => ?_, S.tt.go S.tt.w0 S.tt.F0 (fun p hp j Q hj m => ?_) (fun p _ o h => h) fun c q h => h⟩
  · cases j with
    | zero => cases Option.some.inj (Option.some.inj hj); exact ⟨v, rfl, h2⟩
    | succ j => cases j <;> exact nomatch hj
  · cases j with
    | zero =>
      cases k with
      | zero => rfl
      | succ k => cases k <;> exact nomatch hk
    | succ j => cases j <;> exact nomatch hj
  · cases j with
    | zero => cases Option.some.inj (Option.some.inj hj); exact S.fr i _ a h m
    | succ j => cases j <;> exact nomatch hj
  · cases j with
    | zero => cases Option.some.inj (Option.some.inj hj); exact S.tt.G0 p hp i _ h m
    | succ j => cases j <;> exact nomatch hj
/-- an immediate datum ahead -/
theorem Sat.consI {W : Fx} {Os : Gm} {vs : L2.St} {F H : Hp} {β : Type} {R : Rp β} {q : β} {v : V} (S : Sat W Os vs F H) (r : R.r F v q) : Sat W (some (imm R q) :: Os) (some v :: vs) F H := by
  refine ⟨by rw [List.length_cons, List.length_cons, S.len], S.ex, S.f0, S.wx, S.wf, fun j Q hj => ?_, fun j k Q T a hj hk m1 m2 => ?_, fun j Q a hj m => ?_, S.tt.go S.tt.w0 S.tt.F0 (fun p hp j Q hj m => ?_) (fun p _ o h => h) fun c q h => h⟩
  · cases j with
    | zero => cases Option.some.inj (Option.some.inj hj); exact ⟨v, rfl, r⟩
    | succ j => exact S.sl j Q hj
  · cases j with
    | zero => cases Option.some.inj (Option.some.inj hj); exact nomatch m1
    | succ j =>
      cases k with
      | zero => cases Option.some.inj (Option.some.inj hk); exact nomatch m2
      | succ k => exact congrArg Nat.succ (S.dj j k Q T a hj hk m1 m2)
  · cases j with
    | zero => cases Option.some.inj (Option.some.inj hj); exact nomatch m
    | succ j => exact S.fr j Q a hj m
  · cases j with
    | zero => cases Option.some.inj (Option.some.inj hj); exact nomatch m
    | succ j => exact S.tt.G0 p hp j Q hj m

/-! ### calls of the text's own defs -/
open Classical in
/-- what the callers own: all that is there, but what is known and the tables -/
noncomputable def Fx.rest (W : Fx) (F H : Hp) : Fx := ⟨fun a => if F a = none ∧ ∀ p ∈ W.tb, a ≠ p.1 then H a else none, F, W.tb⟩
theorem rest_in {W : Fx} {F H : Hp} {a : Addr} (h : F a = none) (n : ∀ p ∈ W.tb, a ≠ p.1) : (W.rest F H).w a = H a := if_pos ⟨h, n⟩
theorem rest_out {W : Fx} {F H : Hp} {a : Addr} (h : ¬ (F a = none ∧ ∀ p ∈ W.tb, a ≠ p.1)) : (W.rest F H).w a = none := if_neg h
theorem Sat.args {W : Fx} {G : Gm} {σ : L2.St} {F H : Hp} {vs : List V} {Ps : List Sd} (S : Sat W G σ F H) (h : Avs F H vs Ps) :
    Sat (W.rest F H) (Ps.map some) (vs.map some) F H := by
  have old : ∀ (i : Nat) (P : Sd), (Ps.map some)[i]? = some (some P) → ∃ v, vs[i]? = some v ∧ P.fp = [] ∧ P.p F H v := fun i P e => by
    rw [List.getElem?_map] at e
    cases q : Ps[i]? with
    | none => rw [q] at e; cases e
    | some P' =>
      rw [q] at e
      cases Option.some.inj (Option.some.inj e)
      exact p2_get h q
  refine ⟨by rw [List.length_map, List.length_map, Paired.length h], S.ex, Ex.refl F, fun a o e => ?_, fun a e => ?_, fun i P e => ?_, fun i j P Q a e1 e2 m1 m2 => ?_, fun i P a e m => ?_, S.tt.go (fun p hp => rest_out fun z => z.2 p hp rfl) S.tt.F0 (fun p hp i P e m => ?_) (fun p _ o h => h) fun c q h => h⟩
  · by_cases z : F a = none ∧ ∀ p ∈ W.tb, a ≠ p.1
    · rw [rest_in z.1 z.2] at e; exact e
    · rw [rest_out z] at e; cases e
  · by_cases z : F a = none ∧ ∀ p ∈ W.tb, a ≠ p.1
    · exact .inl z.1
    · rw [rest_out z] at e; exact absurd rfl e
  · obtain ⟨v, h1, h2, h3⟩ := old i P e
    exact ⟨v, by rw [List.getElem?_map, h1]; rfl, h3⟩
  · obtain ⟨v, h1, h2, h3⟩ := old i P e1
    rw [h2] at m1; exact nomatch m1
  · obtain ⟨v, h1, h2, h3⟩ := old i P e
    rw [h2] at m; exact nomatch m
  · obtain ⟨v, h1, h2, h3⟩ := old i P e
    rw [h2] at m; exact nomatch m
/-- behind a call: nothing that stood has changed, but the tables -/
theorem back0 {W : Fx} {F H : Hp} {G' : Gm} {σ' : L2.St} {F' H' : Hp} (e : Ex F H) (S : Sat (W.rest F H) G' σ' F' H') : ExN W.tb H H' ∧ ∀ a, (∀ p ∈ W.tb, a ≠ p.1) → H a ≠ none → F' a = F a ∨ ∃ xs, H a = some (.tup xs) := by
  refine ⟨fun a o n h => ?_, fun a n h => ?_⟩
  · by_cases z : F a = none
    · exact S.wx a o (by rw [rest_in z n]; exact h)
    · cases q : F a with
      | none => exact absurd q z
      | some u =>
        have e1 := e a u q
        rw [h] at e1; cases e1
        exact S.ex a o (S.f0 a o q)
  · by_cases z : F a = none
    · rcases S.wf a (by rw [rest_in z n]; exact h) with e | ⟨xs, e⟩
      · rw [z]; exact .inl e
      · rw [rest_in z n] at e; exact .inr ⟨xs, e⟩
    · cases q : F a with
      | none => exact absurd q z
      | some u => exact .inl (S.f0 a u q)
/-- the caller's state behind a call -/
theorem Sat.ret0 {W : Fx} {G : Gm} {σ : L2.St} {F H : Hp} {G' : Gm} {σ' : L2.St} {F' H' : Hp} (S : Sat W G σ F H) (S' : Sat (W.rest F H) G' σ' F' H') : Sat W G σ F' H' := by
  obtain ⟨b1, b2⟩ := back0 S.ex S'
  exact S.stepTN S'.f0 S'.ex b1 b2 (S'.tt.go S.tt.w0 S'.tt.F0 S.tt.G0 (fun p _ o h => h) fun c q h => h)
/-- what the callee owned is new -/
theorem ret_new {W : Fx} {G : Gm} {σ : L2.St} {F H : Hp} {G' : Gm} {σ' : L2.St} {F' H' : Hp} (S : Sat W G σ F H) (S' : Sat (W.rest F H) G' σ' F' H') {i : Nat} {P : Sd} (hi : G'[i]? = some (some P)) {a : Addr} (ha : a ∈ P.fp) :
    F' a = none ∧ W.w a = none ∧ H' a ≠ none ∧ ∀ (j : Nat) (Q : Sd), G[j]? = some (some Q) → a ∉ Q.fp := by
  obtain ⟨c1, c2, c3⟩ := S'.fr i P a hi ha
  have nt : ∀ p ∈ W.tb, a ≠ p.1 := fun p hp z => S'.tt.G0 p hp i P hi (z ▸ ha)
  have nH : H a = none := by
    by_cases z : F a = none
    · rw [rest_in z nt] at c2; exact c2
    · cases q : F a with
      | none => exact absurd q z
      | some u =>
        have := S'.f0 a u q
        rw [c1] at this; cases this
  exact ⟨c1, S.wx.back nH, c3, fun j P hj hm' => (S.fr j P a hj hm').2.2 nH⟩
section
variable {X : Cx} {W : Fx} {G G1 G2 : Gm} {a e : Expr} {es : List Expr} {pos p : Pos} {n : Str} {k : Nat} {f : Addr} {fd : FuncData} {ps : List Str} {sp : Sp} {Ps : List Sd} {β : Type} {R : Rp β} {r : β} {Or : β → Sd → Prop}
/-- f(..) of kept data, kept data back -/
theorem ev_call (Fn : FnOk X.prog X.w X.K X.mg X.base CX0 k f fd ps sp) (hr : Room k X.A) (hm : X.mg n = some (.ref f)) (hk : PySem.W.keepIn X.K (.ref f) = true) (hb : Binds X.K fd ps []) (ha : EvA X W (e :: es) G Ps G1)
    (hsp : ∀ vs H (Qk : VK) W' F', W'.tb = W.tb → Sat W' (Ps.map some) (vs.map some) F' H → (∀ v H', Rt W' (Imm R) (fun _ => []) r v H' → Qk v H') → sp vs H Qk E0) (hg : Gl X n := by rfl)
    (hdb : (n == ("__debug__" : Str)) = false := by decide) (he : starEach (e :: es) X.env = (false, eval e X.env) :: starEach es X.env := by rfl) (hpl : (backTo pos (starEach es X.env)).any (·.1) = false := by rfl) :
    Ev X W (.Call (.Name n p) (e :: es) [] pos) G R r G1 := .mk fun σ F H Q S q =>
  toE (pe_call Fn hr hg hm hk hb .nil pass0 wA_pa hdb he hpl) (ha.out σ F H _ S fun vs F1 H1 e1 S1 r1 => by
    rw [List.append_nil]
    refine hsp vs H1 Q (W.rest F1 H1) F1 rfl (S1.args r1) fun v H' hv => ?_
    obtain ⟨P, F', vs', rfl, S'⟩ := hv
    obtain ⟨w, h1, h2⟩ := S'.sl 0 _ rfl
    cases Option.some.inj (Option.some.inj h1)
    exact q v F' H' (e1.trans S'.f0) (S1.ret0 S') h2)
theorem ev_call0 (Fn : FnOk X.prog X.w X.K X.mg X.base CX0 k f fd ps sp) (hr : Room k X.A) (hm : X.mg n = some (.ref f)) (hk : PySem.W.keepIn X.K (.ref f) = true) (hb : Binds X.K fd ps [])
    (hsp : ∀ H (Qk : VK) W' F', W'.tb = W.tb → Sat W' [] [] F' H → (∀ v H', Rt W' (Imm R) (fun _ => []) r v H' → Qk v H') → sp [] H Qk E0) (hg : Gl X n := by rfl)
    (hdb : (n == ("__debug__" : Str)) = false := by decide) : Ev X W (.Call (.Name n p) [] [] pos) G R r G := .mk fun σ F H Q S q =>
  toE (pe_call0 Fn hr hg hm hk hb .nil pass0 hdb) (by
    show sp ([] ++ []) H Q E0
    refine hsp H Q (W.rest F H) F rfl (S.args (vs := []) (Ps := []) .nil) fun v H' hv => ?_
    obtain ⟨P, F', vs', rfl, S'⟩ := hv
    obtain ⟨w, h1, h2⟩ := S'.sl 0 _ rfl
    cases Option.some.inj (Option.some.inj h1)
    exact q v F' H' S'.f0 (S.ret0 S') h2)
/-- f(..) of kept data, a new list back -/
def OwnL {α : Type} (R : Rp α) : List α → Sd → Prop := fun q P => ∃ l, P = own l (QL l R q)
theorem eo_call {α : Type} {R : Rp α} {r : List α} (Fn : FnOk X.prog X.w X.K X.mg X.base CX0 k f fd ps sp) (hr : Room k X.A) (hm : X.mg n = some (.ref f)) (hk : PySem.W.keepIn X.K (.ref f) = true) (hb : Binds X.K fd ps []) (ha : EvA X W (e :: es) G Ps G1)
    (hsp : ∀ vs H (Qk : VK) W' F', W'.tb = W.tb → Sat W' (Ps.map some) (vs.map some) F' H → (∀ v H', Rt W' (OwnL R) (fun _ => []) r v H' → Qk v H') → sp vs H Qk E0) (hg : Gl X n := by rfl)
    (hdb : (n == ("__debug__" : Str)) = false := by decide) (he : starEach (e :: es) X.env = (false, eval e X.env) :: starEach es X.env := by rfl) (hpl : (backTo pos (starEach es X.env)).any (·.1) = false := by rfl) :
    EvO X W (.Call (.Name n p) (e :: es) [] pos) G (fun l => QL l R r) G1 := .mk fun σ F H Q S q =>
  toE (pe_call Fn hr hg hm hk hb .nil pass0 wA_pa hdb he hpl) (ha.out σ F H _ S fun vs F1 H1 e1 S1 r1 => by
    rw [List.append_nil]
    refine hsp vs H1 Q (W.rest F1 H1) F1 rfl (S1.args r1) fun v H' hv => ?_
    obtain ⟨P, F', vs', ⟨l, rfl⟩, S'⟩ := hv
    obtain ⟨w, h1, h2, h3⟩ := S'.sl 0 _ rfl
    cases Option.some.inj (Option.some.inj h1)
    subst h2
    exact q l F' H' (e1.trans S'.f0) (S1.ret0 S') ⟨h3, fun a ha => ret_new S1 S' (i := 0) rfl ha⟩)
end
end Mz

namespace Mz
open PySem PySem.Spec PyProof.Rows L2

/-! ### a call that changes what one argument owns -/
open Classical in
/-- what the callers own beside what is lent -/
noncomputable def Fx.restQ (W : Fx) (F H : Hp) (fp : List Addr) : Fx := ⟨fun a => if F a = none ∧ a ∉ fp ∧ ∀ p ∈ W.tb, a ≠ p.1 then H a else none, F, W.tb⟩
theorem restQ_in {W : Fx} {F H : Hp} {fp : List Addr} {a : Addr} (h : F a = none) (k : a ∉ fp) (n : ∀ p ∈ W.tb, a ≠ p.1) : (W.restQ F H fp).w a = H a := if_pos ⟨h, k, n⟩
theorem restQ_out {W : Fx} {F H : Hp} {fp : List Addr} {a : Addr} (h : ¬ (F a = none ∧ a ∉ fp ∧ ∀ p ∈ W.tb, a ≠ p.1)) : (W.restQ F H fp).w a = none := if_neg h
theorem Sat.args1 {W : Fx} {G : Gm} {σ : L2.St} {F H : Hp} {vs : List V} {Ps : List Sd} {i j : Nat} {l : Addr} {Q : Qd} (S : Sat W G σ F H) (h : Avs F H vs Ps) (hi : G[i]? = some (some (own l Q))) (hj : Ps[j]? = some (bare l)) :
    Sat (W.restQ F H Q.fp) ((Ps.set j (own l Q)).map some) (vs.map some) F H := by
  have old : ∀ (m : Nat) (P : Sd), ((Ps.set j (own l Q)).map some)[m]? = some (some P) → (m = j ∧ P = own l Q) ∨ (m ≠ j ∧ ∃ v, vs[m]? = some v ∧ P.fp = [] ∧ P.p F H v) := fun m P e => by
    rw [List.getElem?_map] at e
    cases q : (Ps.set j (own l Q))[m]? with
    | none => rw [q] at e; cases e
    | some P' =>
      rw [q] at e
      cases Option.some.inj (Option.some.inj e)
      rcases get_set q with ⟨e1, e2⟩ | ⟨n, e2⟩
      · exact .inl ⟨e1, e2⟩
      · exact .inr ⟨n, p2_get h e2⟩
  refine ⟨by rw [List.length_map, List.length_map, List.length_set, Paired.length h], S.ex, Ex.refl F, fun a o e => ?_, fun a e => ?_, fun m P e => ?_, fun m k P T a e1 e2 m1 m2 => ?_, fun m P a e hm => ?_, S.tt.go (fun p hp => restQ_out fun z => z.2.2 p hp rfl) S.tt.F0 (fun p hp m P e hm => ?_) (fun p _ o h => h) fun c q h => h⟩
  · by_cases z : F a = none ∧ a ∉ Q.fp ∧ ∀ p ∈ W.tb, a ≠ p.1
    · rw [restQ_in z.1 z.2.1 z.2.2] at e; exact e
    · rw [restQ_out z] at e; cases e
  · by_cases z : F a = none ∧ a ∉ Q.fp ∧ ∀ p ∈ W.tb, a ≠ p.1
    · exact .inl z.1
    · rw [restQ_out z] at e; exact absurd rfl e
  · rcases old m P e with ⟨rfl, rfl⟩ | ⟨n, v, h1, h2, h3⟩
    · obtain ⟨v, h1, h2, h3⟩ := p2_get h hj
      obtain ⟨w, h4, h5⟩ := S.sl i _ hi
      have e' : v = .ref l := h3
      subst e'
      exact ⟨.ref l, by rw [List.getElem?_map, h1]; rfl, rfl, h5.2⟩
    · exact ⟨v, by rw [List.getElem?_map, h1]; rfl, h3⟩
  · rcases old m P e1 with ⟨rfl, rfl⟩ | ⟨n, v, h1, h2, h3⟩
    · rcases old k T e2 with ⟨rfl, rfl⟩ | ⟨n2, v2, h12, h22, h32⟩
      · rfl
      · rw [h22] at m2; exact nomatch m2
    · rw [h2] at m1; exact nomatch m1
  · rcases old m P e with ⟨rfl, rfl⟩ | ⟨n, v, h1, h2, h3⟩
    · obtain ⟨q1, q2, q3⟩ := S.fr i _ a hi hm
      have hm' : a ∈ Q.fp := hm
      exact ⟨q1, restQ_out fun z => z.2.1 hm', q3⟩
    · rw [h2] at hm; exact nomatch hm
  · rcases old m P e with ⟨rfl, rfl⟩ | ⟨n, v, h1, h2, h3⟩
    · exact S.tt.G0 p hp i _ hi hm
    · rw [h2] at hm; exact nomatch hm
theorem back1 {W : Fx} {G : Gm} {σ : L2.St} {F H : Hp} {i : Nat} {l : Addr} {Q Q' : Qd} {P : Sd} {v : V} {vs' : L2.St} {F' H' : Hp} (S : Sat W G σ F H) (hi : G[i]? = some (some (own l Q)))
    (S' : Sat (W.restQ F H Q.fp) (some P :: [some (own l Q')]) (some v :: vs') F' H') :
    Sat W (G.set i (some (own l Q'))) σ F' H' ∧ P.p F' H' v := by
  have kp : ∀ a, a ∉ Q.fp → (∀ p ∈ W.tb, a ≠ p.1) → H a ≠ none → H' a = H a ∧ (F' a = F a ∨ ∃ xs, H a = some (.tup xs)) := fun a n nt h => by
    by_cases z : F a = none
    · have w := restQ_in (W := W) (H := H) z n nt
      constructor
      · cases q : H a with
        | none => exact absurd q h
        | some o => exact S'.wx a o (w.trans q)
      · rcases S'.wf a (by rw [w]; exact h) with e | ⟨xs, e⟩
        · rw [z]; exact .inl e
        · rw [w] at e; exact .inr ⟨xs, e⟩
    · cases q : F a with
      | none => exact absurd q z
      | some u =>
        have f1 := S'.f0 a u q
        rw [S.ex a u q, f1]
        exact ⟨S'.ex a u f1, .inl rfl⟩
  have ww : ∀ a, W.w a ≠ none → H a ≠ none ∧ a ∉ Q.fp ∧ ∀ p ∈ W.tb, a ≠ p.1 := fun a h => by
    refine ⟨fun z => ?_, fun z => h (S.fr i _ a hi z).2.1, fun p hp z => h (by rw [z]; exact S.tt.w0 p hp)⟩
    cases q : W.w a with
    | none => exact h q
    | some o => rw [S.wx a o q] at z; cases z
  have q' := S'.sl 1 _ rfl
  have fr' := fun a => S'.fr 1 (own l Q') a rfl
  have gt : ∀ (j : Nat) (B : Sd) (a : Addr), G[j]? = some (some B) → a ∈ B.fp → ∀ p ∈ W.tb, a ≠ p.1 := fun j B a e m p hp z => S.tt.G0 p hp j B e (z ▸ m)
  have gt' : ∀ (a : Addr), a ∈ Q'.fp → ∀ p ∈ W.tb, a ≠ p.1 := fun a m p hp z => S'.tt.G0 p hp 1 (own l Q') rfl (z ▸ m)
  refine ⟨⟨by rw [List.length_set]; exact S.len, S'.ex, S.f0.trans S'.f0, fun a o h => ?_, fun a h => ?_, fun j P h2 => ?_, fun j k P T a h1 h2 m1 m2 => ?_, fun j P a h1 h2 => ?_, S'.tt.go S.tt.w0 S'.tt.F0 (fun p hp j P h1 h2 => ?_) (fun p _ o h => h) fun c q h => h⟩, ?_⟩
  · obtain ⟨w1, w2, w3⟩ := ww a (by rw [h]; intro z; cases z)
    rw [(kp a w2 w3 w1).1]; exact S.wx a o h
  · obtain ⟨w1, w2, w3⟩ := ww a h
    rcases (kp a w2 w3 w1).2 with e | ⟨xs, e⟩
    · rw [e]; exact S.wf a h
    · cases q : W.w a with
      | none => exact absurd q h
      | some o => rw [S.wx a o q] at e; exact .inr ⟨xs, e⟩
  · rcases get_set h2 with ⟨rfl, e⟩ | ⟨ne, e⟩
    · cases Option.some.inj e
      obtain ⟨w, h3, h4⟩ := S.sl j _ hi
      obtain ⟨w', h5, h6⟩ := q'
      exact ⟨w, h3, h4.1, h6.2⟩
    · obtain ⟨w, h3, h4⟩ := S.sl j P e
      exact ⟨w, h3, P.st S'.f0 (fun a m => (kp a (fun z => ne (S.dj j i P _ a e hi m z)) (gt j P a e m) (S.fr j P a e m).2.2).1) h4⟩
  · have oth : ∀ (b : Nat) (B : Sd), b ≠ i → G[b]? = some (some B) → a ∈ B.fp → a ∈ Q'.fp → False := fun b B n e m1 m2 => by
      have n1 := (fr' a m2).2.1
      have n2 : a ∉ Q.fp := fun z => n (S.dj b i B _ a e hi m1 z)
      have n3 := S.fr b B a e m1
      rw [restQ_in n3.1 n2 (gt b B a e m1)] at n1
      exact n3.2.2 n1
    rcases get_set h1 with ⟨rfl, e1⟩ | ⟨n1, e1⟩
    · cases Option.some.inj e1
      rcases get_set h2 with ⟨rfl, e2⟩ | ⟨n2, e2⟩
      · rfl
      · exact (oth k T n2 e2 m2 m1).elim
    · rcases get_set h2 with ⟨rfl, e2⟩ | ⟨n2, e2⟩
      · cases Option.some.inj e2
        exact (oth j P n1 e1 m1 m2).elim
      · exact S.dj j k P T a e1 e2 m1 m2
  · rcases get_set h1 with ⟨rfl, e1⟩ | ⟨n1, e1⟩
    · cases Option.some.inj e1
      obtain ⟨c1, c2, c3⟩ := fr' a h2
      refine ⟨c1, ?_, c3⟩
      cases q : W.w a with
      | none => rfl
      | some o =>
        obtain ⟨w1, w2, w3⟩ := ww a (by rw [q]; intro z; cases z)
        rcases S.wf a (by rw [q]; intro z; cases z) with e | ⟨xs, e⟩
        · rw [restQ_in e w2 w3] at c2
          exact absurd c2 w1
        · have e2 := S.wx a _ e
          rw [← (kp a w2 w3 w1).1] at e2
          obtain ⟨w, _, p⟩ := q'
          exact absurd e2 (Sd.nT (P := own l Q') p a h2 xs)
    · obtain ⟨q1, q2, q3⟩ := S.fr j P a e1 h2
      have n2 : a ∉ Q.fp := fun z => n1 (S.dj j i P _ a e1 hi h2 z)
      obtain ⟨k1, k2⟩ := kp a n2 (gt j P a e1 h2) q3
      refine ⟨?_, q2, by rw [k1]; exact q3⟩
      rcases k2 with k2 | ⟨xs, k2⟩
      · rw [k2]; exact q1
      · obtain ⟨v, _, p⟩ := S.sl j P e1
        exact absurd k2 (Sd.nT p a h2 xs)
  · rcases get_set h1 with ⟨rfl, e1⟩ | ⟨n1, e1⟩
    · cases Option.some.inj e1
      exact gt' _ h2 p hp rfl
    · exact S.tt.G0 p hp j P e1 h2
  · obtain ⟨w, h1, h2⟩ := S'.sl 0 _ rfl
    cases Option.some.inj (Option.some.inj h1)
    exact h2
section
variable {X : Cx} {W : Fx} {G G1 G2 : Gm} {a e : Expr} {es : List Expr} {pos p : Pos} {n : Str} {k : Nat} {f : Addr} {fd : FuncData} {ps : List Str} {sp : Sp} {Ps : List Sd} {β τ : Type} {R : Rp β} {r : τ} {Or : τ → Sd → Prop} {x : β}
/-- one argument is lent and changed -/
theorem ev_callM {i j : Nat} {l : Addr} {Q Q' : Qd} {Or : τ → Sd → Prop} {Outs : τ → List Sd} (Fn : FnOk X.prog X.w X.K X.mg X.base CX0 k f fd ps sp) (hr : Room k X.A) (hm : X.mg n = some (.ref f)) (hk : PySem.W.keepIn X.K (.ref f) = true) (hb : Binds X.K fd ps []) (ha : EvA X W (e :: es) G Ps G1)
    (hi : G1[i]? = some (some (own l Q))) (hj : Ps[j]? = some (bare l))
    (hsp : ∀ vs H (Qk : VK) W' F', W'.tb = W.tb → Sat W' ((Ps.set j (own l Q)).map some) (vs.map some) F' H → (∀ v H', Rt W' Or Outs r v H' → Qk v H') → sp vs H Qk E0) (hO : ∀ P, Or r P → P = imm R x) (hOut : Outs r = [own l Q']) (hg : Gl X n := by rfl)
    (hdb : (n == ("__debug__" : Str)) = false := by decide) (he : starEach (e :: es) X.env = (false, eval e X.env) :: starEach es X.env := by rfl) (hpl : (backTo pos (starEach es X.env)).any (·.1) = false := by rfl) :
    Ev X W (.Call (.Name n p) (e :: es) [] pos) G R x (G1.set i (some (own l Q'))) := .mk fun σ F H Qk S q =>
  toE (pe_call Fn hr hg hm hk hb .nil pass0 wA_pa hdb he hpl) (ha.out σ F H _ S fun vs F1 H1 e1 S1 r1 => by
    rw [List.append_nil]
    refine hsp vs H1 Qk (W.restQ F1 H1 Q.fp) F1 rfl (S1.args1 r1 hi hj) fun v H' hv => ?_
    obtain ⟨P, F', vs', hP, S'⟩ := hv
    cases hO P hP
    rw [hOut] at S'
    obtain ⟨b1, b2⟩ := back1 S1 hi S'
    exact q v F' H' (e1.trans S'.f0) b1 b2)
end

/-! ### statements -/
def Tr' (W : Fx) (G : Gm) (P : L2.St → Hp → Prop) : Prop := Tr W G P
def At (W : Fx) (G : Gm) : L2.St → Hp → Prop := fun σ H => ∃ F, Sat W G σ F H
inductive Wk : Gm → Gm → Prop where
  | nil : Wk [] []
  | no {x : Option Sd} {A B : Gm} : Wk A B → Wk (none :: A) (x :: B)
  | eq {x : Option Sd} {A B : Gm} : Wk A B → Wk (x :: A) (x :: B)
theorem Wk.get : ∀ {A B : Gm}, Wk A B → A.length = B.length ∧ ∀ (i : Nat) (P : Sd), A[i]? = some (some P) → B[i]? = some (some P)
  | _, _, .nil => ⟨rfl, fun i P h => by simp at h⟩
  | _, _, .no t => ⟨by simp [(Wk.get t).1], fun i P h => by
    cases i with
    | zero => simp at h
    | succ i => simpa using (Wk.get t).2 i P (by simpa using h)⟩
  | _, _, .eq t => ⟨by simp [(Wk.get t).1], fun i P h => by
    cases i with
    | zero => simpa using h
    | succ i => simpa using (Wk.get t).2 i P (by simpa using h)⟩
theorem Sat.wk {W : Fx} {A B : Gm} {σ : L2.St} {F H : Hp} (S : Sat W B σ F H) (h : Wk A B) : Sat W A σ F H :=
  S.weak h.get.1 fun i P e => ⟨P, h.get.2 i P e, fun _ q => q, fun _ m => m⟩
theorem tr_at {W : Fx} {A B : Gm} (h : Wk A B) : Tr W B (At W A) := .mk fun σ F H S => ⟨F, S.wk h⟩
theorem at_tr {W : Fx} {A : Gm} {P : L2.St → Hp → Prop} (h : Tr W A P) : ∀ σ H, At W A σ H → P σ H := fun σ H ⟨F, S⟩ => h.out σ F H S
section
variable {X : Cx} {W : Fx} {G G1 G2 : Gm} {D : Ends} {rest t u : List Stmt} {e c : Expr} {α β τ : Type} {R : Rp α} {x : α} {r : τ} {pos p' : Pos} {n : Str} {i : Nat}
theorem s_nil (k : Tr W G D.nx) : Tr W G (wS X [] D) := .mk fun σ F H S => toS pss_nil (k.out σ F H S)
/-- x = e -/
theorem s_let {k : α → Option τ} (he : Ev X W e G R x G1) (hm : lt x k = some r) (hN : X.N.Nodup) (hi : X.N[i]? = some n) (hx : Loc X.env.scope n) (hs : swapsWith e (some (.Name n p')) pos.line X.env = pure false := by rfl)
    (hf : X.fn n = true ∨ X.env.scope.names.lookup n = some .local := by first | exact .inl rfl | exact .inr rfl) (q : ∀ y, k y = some r → Tr W (G1.set i (some (imm R y))) (wS X rest D)) :
    Tr W G (wS X (.Assign [.Name n p'] e pos :: rest) D) := .mk fun σ F H S =>
  toS (pss_cons (ps_set hN hi hx wE_pe hs hf) wS_ps) (he.out σ F H _ S fun v F' H' e1 S' r1 => (q x hm).out (σ.set i (some v)) F' H' (S'.setI r1))
theorem s_bind {m : Option α} {k : α → Option τ} (he : ∀ y, m = some y → Ev X W e G R y G1) (hm : m.bind k = some r) (hN : X.N.Nodup) (hi : X.N[i]? = some n) (hx : Loc X.env.scope n) (hs : swapsWith e (some (.Name n p')) pos.line X.env = pure false := by rfl)
    (hf : X.fn n = true ∨ X.env.scope.names.lookup n = some .local := by first | exact .inl rfl | exact .inr rfl) (q : ∀ y, k y = some r → Tr W (G1.set i (some (imm R y))) (wS X rest D)) :
    Tr W G (wS X (.Assign [.Name n p'] e pos :: rest) D) := by
  obtain ⟨y, h1, h2⟩ := Option.bind_eq_some_iff.mp hm
  exact s_let (he y h1) (k := k) h2 hN hi hx hs hf q
/-- .. where the value's word and the slots behind hang on what the mirror says (a state that is changed) -/
theorem s_set (he : Ev X W e G R x G1) (hN : X.N.Nodup) (hi : X.N[i]? = some n) (hx : Loc X.env.scope n) (q : Tr W (G1.set i (some (imm R x))) (wS X rest D)) (hs : swapsWith e (some (.Name n p')) pos.line X.env = pure false := by rfl)
    (hf : X.fn n = true ∨ X.env.scope.names.lookup n = some .local := by first | exact .inl rfl | exact .inr rfl) :
    Tr W G (wS X (.Assign [.Name n p'] e pos :: rest) D) := .mk fun σ F H S =>
  toS (pss_cons (ps_set hN hi hx wE_pe hs hf) wS_ps) (he.out σ F H _ S fun v F' H' e1 S' r1 => q.out (σ.set i (some v)) F' H' (S'.setI r1))
/-- x = a new thing -/
theorem s_new {O : Addr → Qd} (he : EvO X W e G O G1) (hN : X.N.Nodup) (hi : X.N[i]? = some n) (hx : Loc X.env.scope n) (q : ∀ l, Tr W (G1.set i (some (own l (O l)))) (wS X rest D)) (hs : swapsWith e (some (.Name n p')) pos.line X.env = pure false := by rfl)
    (hf : X.fn n = true ∨ X.env.scope.names.lookup n = some .local := by first | exact .inl rfl | exact .inr rfl) :
    Tr W G (wS X (.Assign [.Name n p'] e pos :: rest) D) := .mk fun σ F H S =>
  toS (pss_cons (ps_set hN hi hx wE_pe hs hf) wS_ps) (he.out σ F H _ S fun l F' H' e1 S' n1 => (q l).out (σ.set i (some (.ref l))) F' H' (S'.set (P := own l (O l)) ⟨rfl, n1.1⟩ n1.2))
/-- what is owned stands fast from here on -/
theorem s_fix {l : Addr} {as : List α} {P : L2.St → Hp → Prop} (i : Nat) (K : PySem.W.Frag) (hi : G[i]? = some (some (own l (QL l R as)))) (q : Tr W (G.set i (some (imm (RL K R) as))) P) : Tr W G P := .mk fun σ F H S => by
  obtain ⟨F', e, S'⟩ := S.freeze (K := K) hi
  exact q.out σ F' H S'
/-- an expression for what it does -/
theorem s_expr {D : Ends} (he : Ev X W e G R x G1) (q : Tr W G1 (wS X rest D)) (hs : swapsWith e none pos.line X.env = pure false := by rfl) : Tr W G (wS X (.Expr e pos :: rest) D) := .mk fun σ F H S =>
  toS (pss_cons (ps_expr wE_pe hs) wS_ps) (he.out σ F H _ S fun v F' H' e1 S' r1 => q.out σ F' H' S')
/-- if -/
theorem s_if {b : Bool} {m1 m2 : Option τ} (hc : EvT X W c G b G1) (hm : (if b = true then m1 else m2) = some r) (h1 : b = true → m1 = some r → Tr W G1 (wS X t { D with nx := wS X rest D }))
    (h2 : b = false → m2 = some r → Tr W G1 (wS X u { D with nx := wS X rest D })) : Tr W G (wS X (.If c t u pos :: rest) D) := .mk fun σ F H S =>
  toS (pss_cons (ps_if wT_pt wS_ps wS_ps) wS_ps) (hc.out σ F H _ S fun F' H' e1 S' => by
    cases b with
    | true => exact (h1 rfl (by rw [if_pos rfl] at hm; exact hm)).out σ F' H' S'
    | false => exact (h2 rfl (by rw [if_neg Bool.false_ne_true] at hm; exact hm)).out σ F' H' S')
/-- an if whose ways meet again -/
theorem s_join {β : Type} {b : Bool} {m1 m2 : Option β} {k : β → Option τ} (A : β → Gm) (hc : EvT X W c G b G1) (hm : (if b = true then m1 else m2).bind k = some r) (h1 : ∀ s, b = true → m1 = some s → Tr W G1 (wS X t { D with nx := At W (A s) }))
    (h2 : ∀ s, b = false → m2 = some s → Tr W G1 (wS X u { D with nx := At W (A s) })) (q : ∀ s, k s = some r → Tr W (A s) (wS X rest D)) : Tr W G (wS X (.If c t u pos :: rest) D) := by
  obtain ⟨s, e1, e2⟩ := Option.bind_eq_some_iff.mp hm
  refine .mk fun σ F H S => toS (pss_cons (ps_if wT_pt wS_ps wS_ps) wS_ps) (hc.out σ F H _ S fun F' H' _ S' => ?_)
  have go : ∀ {st : List Stmt}, Tr W G1 (wS X st { D with nx := At W (A s) }) → wS X st { D with nx := wS X rest D } σ H' := fun {st} hh => by
    have h3 := hh.out σ F' H' S'
    refine fun pins s1 I => thn (h3 pins s1 I) fun f s2 hf => ?_
    cases f with
    | next =>
      obtain ⟨σ', H2, I2, ⟨F2, S2⟩⟩ := hf
      exact ⟨σ', H2, I2, (q s e2).out σ' F2 H2 S2⟩
    | brk => exact hf
    | cont => exact hf
    | ret v => exact hf
  cases b with
  | true => exact go (h1 s rfl (by rw [if_pos rfl] at e1; exact e1))
  | false => exact go (h2 s rfl (by rw [if_neg Bool.false_ne_true] at e1; exact e1))
/-- return e -/
theorem s_ret {ρ : Type} {Or : ρ → Sd → Prop} {Outs : ρ → List Sd} {q : ρ} (hr : ∀ v H, Rt W Or Outs q v H → D.rt v H) (he : Ev X W e G R x G1) (hp : Pick G1 (Outs q)) (hO : Or q (imm R x)) : Tr W G (wS X (.Return (some e) pos :: rest) D) := .mk fun σ F H S =>
  toS (pss_cons (ps_ret wE_pe) wS_ps) (he.out σ F H _ S fun v F' H' e1 S' r1 => by
    obtain ⟨vs', S2⟩ := hp W σ F' H' S'
    exact hr v H' ⟨imm R x, F', vs', hO, S2.consI r1⟩)
theorem s_retN {ρ : Type} {Or : ρ → Sd → Prop} {Outs : ρ → List Sd} {q : ρ} (hr : ∀ v H, Rt W Or Outs q v H → D.rt v H) (hp : Pick G (Outs q)) (hO : Or q (imm RU ())) : Tr W G (wS X (.Return none pos :: rest) D) := .mk fun σ F H S =>
  toS (pss_cons ps_retN wS_ps) (by
    obtain ⟨vs', S2⟩ := hp W σ F H S
    exact hr _ H ⟨imm RU (), F, vs', hO, S2.consI rfl⟩)
theorem s_pass (q : Tr W G (wS X rest D)) : Tr W G (wS X (.Pass pos :: rest) D) := .mk fun σ F H S => toS (pss_cons ps_pass wS_ps) (q.out σ F H S)
theorem s_break (q : Tr W G D.bk) : Tr W G (wS X (.Break pos :: rest) D) := .mk fun σ F H S => toS (pss_cons ps_break wS_ps) (q.out σ F H S)
theorem s_cont (q : Tr W G D.ct) : Tr W G (wS X (.Continue pos :: rest) D) := .mk fun σ F H S => toS (pss_cons ps_continue wS_ps) (q.out σ F H S)
end
end Mz

namespace Mz
open PySem PySem.Spec PyProof.Rows L2

/-! ### targets -/
def wG (X : Cx) (tg : Expr) : TG := fun v σ H Q => ∀ pins s u, Inv X pins σ H s → RelV v u → wpAny (model X.prog X.w) X.A (assign tg X.env u) (fun _ s' => ∃ σ' H', Inv X pins σ' H' s' ∧ Q σ' H') X.xe s
def wGs (X : Cx) (ts : List Expr) : TGs := fun vs σ H Q => ∀ pins s us, Inv X pins σ H s → Vals vs us → wpAny (model X.prog X.w) X.A (assignInOrder ((assignEach ts X.env).map (·.2)) us) (fun _ s' => ∃ σ' H', Inv X pins σ' H' s' ∧ Q σ' H') X.xe s
section
variable {X : Cx} {tg : Expr} {ts : List Expr}
theorem wG_pg : PG X tg (wG X tg) := ⟨fun pins s σ H v u Q I r h => h pins s u I r⟩
theorem wGs_pgs : PGs X ts (wGs X ts) := ⟨fun pins s σ H vs us Q I r h => h pins s us I r⟩
theorem toG {t : TG} {v σ H Q} (h : PG X tg t) (q : t v σ H Q) : wG X tg v σ H Q := fun pins s u I r => h.run pins s σ H v u Q I r q
theorem toGs {t : TGs} {vs σ H Q} (h : PGs X ts t) (q : t vs σ H Q) : wGs X ts vs σ H Q := fun pins s us I r => h.run pins s σ H vs us Q I r q
end
/-- the slots but those at ss are as they were -/
def So (ss : List Nat) (σ σ' : L2.St) : Prop := σ'.length = σ.length ∧ ∀ j, j ∉ ss → σ'[j]? = σ[j]?
theorem So.refl (ss : List Nat) (σ : L2.St) : So ss σ σ := ⟨rfl, fun _ _ => rfl⟩
theorem So.trans {a b : List Nat} {σ σ1 σ2 : L2.St} (h : So a σ σ1) (k : So b σ1 σ2) : So (a ++ b) σ σ2 := ⟨k.1.trans h.1, fun j hj => (k.2 j fun z => hj (List.mem_append_right _ z)).trans (h.2 j fun z => hj (List.mem_append_left _ z))⟩
def Tg (X : Cx) (W : Fx) (tg : Expr) (ss : List Nat) (G : Gm) {α : Type} (R : Rp α) (a : α) (G' : Gm) : Prop :=
  Lk (∀ σ F H v (Q : L2.St → Hp → Prop), Sat W G σ F H → R.r F v a → (∀ σ', So ss σ σ' → Sat W G' σ' F H → Q σ' H) → wG X tg v σ H Q)
def TgR (X : Cx) (W : Fx) (ts : List Expr) (ss : List Nat) (G : Gm) {α : Type} (T : Rs α) (a : α) (G' : Gm) : Prop :=
  Lk (∀ σ F H vs (Q : L2.St → Hp → Prop), Sat W G σ F H → T.r F vs a → (∀ σ', So ss σ σ' → Sat W G' σ' F H → Q σ' H) → wGs X ts vs σ H Q)
section
variable {X : Cx} {W : Fx} {G G1 G2 : Gm} {α β : Type} {R : Rp α} {x : α} {tg : Expr} {ts : List Expr} {pos : Pos} {n : Str} {i : Nat} {ss s2 : List Nat}
theorem tg_name (hN : X.N.Nodup) (hi : X.N[i]? = some n) (hx : Loc X.env.scope n) (hf : X.fn n = true ∨ X.env.scope.names.lookup n = some .local := by first | exact .inl rfl | exact .inr rfl) : Tg X W (.Name n pos) [i] G R x (G.set i (some (imm R x))) :=
  .mk fun σ F H v Q S r q => toG (pg_name hN hi hx hf) (q (σ.set i (some v)) ⟨by rw [List.length_set], fun j hj => List.getElem?_set_ne fun z => hj (by simp [z])⟩ (S.setI r))
theorem tgr_one (h : Tg X W tg ss G R x G1) (hs : (assignEach [tg] X.env).map (·.2) = assign tg X.env :: (assignEach [] X.env).map (·.2) := by rfl) : TgR X W [tg] ss G (R1 R) x G1 := .mk fun σ F H vs Q S r q => by
  obtain ⟨v, rfl, r1⟩ := r
  exact toGs (pgs_cons wG_pg pgs_nil hs) ⟨v, [], rfl, h.out σ F H v _ S r1 fun σ' so S' => ⟨rfl, q σ' so S'⟩⟩
theorem tgr_cons {τ : Type} {K : Rs τ} {t : α × τ} (h : Tg X W tg ss G R t.1 G1) (k : TgR X W ts s2 G1 K t.2 G2) (hs : (assignEach (tg :: ts) X.env).map (·.2) = assign tg X.env :: (assignEach ts X.env).map (·.2) := by rfl) : TgR X W (tg :: ts) (ss ++ s2) G (RC R K) t G2 := .mk fun σ F H vs Q S r q => by
  obtain ⟨v, ws, rfl, r1, r2⟩ := r
  exact toGs (pgs_cons wG_pg wGs_pgs hs) ⟨v, ws, rfl, h.out σ F H v _ S r1 fun σ' so S' => k.out σ' F H ws Q S' r2 fun σ2 so2 => q σ2 (so.trans so2)⟩
theorem tg_tup {τ : Type} {K : Rs τ} {t : τ} {k} (h : TgR X W ts ss G K t G1) (hn : (assignEach ts X.env).length = K.n := by rfl) (hc : X.calm = true := by rfl) (hst : (assignEach ts X.env).findIdx? (·.1) = none := by rfl) : Tg X W (.Tuple ts k pos) ss G (RT X.K K) t G1 := .mk fun σ F H v Q S r q => by
  obtain ⟨p, vs, rfl, h1, h2⟩ := r
  exact toG (pg_tup hc wGs_pgs hn hst) ⟨p, vs, rfl, ex_sqt S.ex h1, K.len h2, h.out σ F H vs Q S h2 q⟩
end

/-! ### what a loop walks -/
structure Walk (X : Cx) (J : It) (F1 : Hp) {α : Type} (R : Rp α) (as : List α) : Prop where
  stop : ∀ i F H, Ex F1 F → Ex F H → as.length ≤ i → J.stop i H
  few : ∀ F H, Ex F1 F → Ex F H → HB X H → as.length ≤ sizeLine
  go : ∀ i a F H, Ex F1 F → Ex F H → as[i]? = some a → J.go i H
  yld : ∀ i a F H v H', Ex F1 F → Ex F H → as[i]? = some a → J.yld i H v H' → ∃ F', Ex F F' ∧ Ex F' H' ∧ Ex H H' ∧ (∀ b, H b ≠ none → F' b = F b ∨ ∃ xs, H b = some (.tup xs)) ∧ R.r F' v a
def Src (X : Cx) (W : Fx) (tg iter : Expr) (G : Gm) {α : Type} (R : Rp α) (as : List α) (G1 : Gm) : Prop :=
  ∃ wi, PI X tg iter wi ∧ ∀ σ F H (P : It → Hp → Prop), Sat W G σ F H → (∀ J F1 H1, Ex F F1 → Sat W G1 σ F1 H1 → Walk X J F1 R as → P J H1) → wi σ H P
section
variable {X : Cx} {W : Fx} {G G1 G2 : Gm} {α β : Type} {R : Rp α} {T : Rp β} {as : List α} {bs : List β} {tg e e2 : Expr} {pos p : Pos}
theorem src_list (h : Ev X W e G (RL X.K R) as G1) : Src X W tg e G R as G1 := ⟨_, pi_list wE_pe, fun σ F H P S q => h.out σ F H _ S fun v F1 H1 e1 S1 r1 => by
  obtain ⟨p, vs, rfl, h1, h2⟩ := r1
  have at' : ∀ {F H : Hp}, Ex F1 F → Ex F H → SqL X.K H p vs := fun a b => ex_sql (a.trans b) h1
  refine ⟨p, rfl, ⟨vs, ex_sql S1.ex h1⟩, q _ F1 H1 e1 S1 ⟨fun i F H a b hi => ⟨vs, at' a b, by rw [h2.len]; exact hi⟩, fun F H a b hb => by rw [← h2.len]; exact hb p vs (.inl (at' a b)), fun i x F H a b hx => ?_, fun i x F H v H' a b hx hy => ?_⟩⟩
  · obtain ⟨w, h3, _⟩ := h2.get hx
    exact ⟨vs, w, at' a b, h3⟩
  · obtain ⟨w, h3, h4⟩ := h2.get hx
    obtain ⟨e3, h5⟩ := hy
    subst e3
    have e4 := h5 vs (at' a b)
    rw [h3] at e4; cases e4
    exact ⟨F, Ex.refl F, b, Ex.refl _, fun _ _ => .inl rfl, R.mono a h4⟩⟩
theorem src_tupV (h : Ev X W e G (RV X.K R) as G1) : Src X W tg e G R as G1 := ⟨_, pi_tup wE_pe, fun σ F H P S q => h.out σ F H _ S fun v F1 H1 e1 S1 r1 => by
  obtain ⟨p, vs, rfl, h1, h2⟩ := r1
  have at' : ∀ {F H : Hp}, Ex F1 F → Ex F H → SqT X.K H p vs := fun a b => ex_sqt (a.trans b) h1
  refine ⟨p, rfl, ⟨vs, ex_sqt S1.ex h1⟩, q _ F1 H1 e1 S1 ⟨fun i F H a b hi => ⟨vs, at' a b, by rw [h2.len]; exact hi⟩, fun F H a b hb => by rw [← h2.len]; exact hb p vs (.inr (at' a b)), fun i x F H a b hx => ?_, fun i x F H v H' a b hx hy => ?_⟩⟩
  · obtain ⟨w, h3, _⟩ := h2.get hx
    exact ⟨vs, w, at' a b, h3⟩
  · obtain ⟨w, h3, h4⟩ := h2.get hx
    obtain ⟨e3, h5⟩ := hy
    subst e3
    have e4 := h5 vs (at' a b)
    rw [h3] at e4; cases e4
    exact ⟨F, Ex.refl F, b, Ex.refl _, fun _ _ => .inl rfl, R.mono a h4⟩⟩
theorem rng_len (lo hi : Int) : (rng lo hi).length = (hi - lo).toNat := by unfold rng; rw [List.length_map, List.length_range]
theorem rng_get {lo hi x : Int} {i : Nat} (h : (rng lo hi)[i]? = some x) : i < (hi - lo).toNat ∧ x = lo + (i : Int) := by
  have hl := (List.getElem?_eq_some_iff.mp h).1
  rw [rng_len] at hl
  refine ⟨hl, ?_⟩
  unfold rng at h
  rw [List.getElem?_map, List.getElem?_range hl] at h
  exact (Option.some.inj h).symm
/-- a range's ends: between -2^62 and 2^62, not too many turns -/
def rngOk (i j : Int) : Bool := decide (-(2 ^ 62) ≤ i) && decide (i < 2 ^ 62) && decide (-(2 ^ 62) ≤ j) && decide (j < 2 ^ 62) && decide (j - i ≤ 16777216)
theorem rngOk_of {i j : Int} (h : rngOk i j = true) : (-(2 ^ 62) ≤ i ∧ i < 2 ^ 62 ∧ -(2 ^ 62) ≤ j ∧ j < 2 ^ 62) ∧ j - i ≤ 16777216 := by
  unfold rngOk at h
  rw [Bool.and_eq_true, Bool.and_eq_true, Bool.and_eq_true, Bool.and_eq_true] at h
  exact ⟨⟨of_decide_eq_true h.1.1.1.1, of_decide_eq_true h.1.1.1.2, of_decide_eq_true h.1.1.2, of_decide_eq_true h.1.2⟩, of_decide_eq_true h.2⟩
theorem rngOk_mk {i j : Int} (h1 : -1000000000 ≤ i) (h2 : i ≤ 1000000000) (h3 : -1000000000 ≤ j) (h4 : j ≤ 1000000000) (h5 : j - i ≤ 16777216) : rngOk i j = true := by
  unfold rngOk
  rw [decide_eq_true (by omega), decide_eq_true (by omega), decide_eq_true (by omega), decide_eq_true (by omega), decide_eq_true (by omega)]
  rfl
theorem walk_rng {F1 : Hp} (lo hi : Int) (h : hi - lo ≤ 16777216) : Walk X (Itr lo (hi - lo).toNat) F1 RI (rng lo hi) :=
  ⟨fun i F H _ _ h => by rw [rng_len] at h; exact h, fun F H _ _ _ => by rw [rng_len, sizeLine_eq]; omega, fun i x F H _ _ h => (rng_get h).1, fun i x F H v H' _ b h hy => ⟨F, Ex.refl F, by rw [hy.1]; exact b, by rw [hy.1]; exact Ex.refl _, fun _ _ => .inl rfl, by
    show v = V.int x
    rw [(rng_get h).2]; exact hy.2⟩⟩
theorem src_rng1 {j : Int} (hm : X.mg "range" = none) (ho : rngOk 0 j = true) (h : Ev X W e G RI j G1) (hg : Gl X "range" := by rfl) (hs : starEach [e] X.env = [(false, eval e X.env)] := by rfl) : Src X W tg (.Call (.Name "range" p) [e] [] pos) G RI (rng 0 j) G1 :=
  ⟨_, pi_range1 hg hm (pa_cons wE_pe pa_nil hs) hs, fun σ F H P S q => h.out σ F H _ S fun v F1 H1 e1 S1 r1 => by
    have hj := rngOk_of ho
    refine ⟨j, by rw [show v = V.int j from r1], hj.1.2.2.1, hj.1.2.2.2, ?_⟩
    have w := walk_rng (X := X) (F1 := F1) 0 j hj.2
    rw [show j - 0 = j by omega] at w
    exact q _ F1 H1 e1 S1 w⟩
theorem src_rng2 {i j : Int} (hm : X.mg "range" = none) (ho : rngOk i j = true) (h : Ev X W e G RI i G1) (h2 : Ev X W e2 G1 RI j G2) (hg : Gl X "range" := by rfl) (hs : starEach [e, e2] X.env = [(false, eval e X.env), (false, eval e2 X.env)] := by rfl) (hs2 : starEach [e2] X.env = [(false, eval e2 X.env)] := by rfl) :
    Src X W tg (.Call (.Name "range" p) [e, e2] [] pos) G RI (rng i j) G2 :=
  ⟨_, pi_range2 hg hm (pa_cons wE_pe (pa_cons wE_pe pa_nil hs2) (by rw [hs, hs2])) hs hs2, fun σ F H P S q => two (K := fun v u H2 => _) h h2 S fun v u F1 H1 e1 S1 r1 r2 => by
    have hj := rngOk_of ho
    exact ⟨i, j, by rw [show v = V.int i from r1, show u = V.int j from r2], hj.1, q _ F1 H1 e1 S1 (walk_rng i j hj.2)⟩⟩
/-- enumerate -/
def enm {α : Type} (as : List α) : List (Int × α) := as.mapIdx fun i a => ((i : Int), a)
theorem enm_get {as : List α} {i : Nat} {x : Int × α} (h : (enm as)[i]? = some x) : x.1 = (i : Int) ∧ as[i]? = some x.2 := by
  unfold enm at h
  rw [List.getElem?_mapIdx] at h
  cases q : as[i]? with
  | none => rw [q] at h; cases h
  | some a => rw [q] at h; cases h; exact ⟨rfl, rfl⟩
theorem src_enum {elts : List Expr} {kk} {tpos : Pos} (hm : X.mg "enumerate" = none) (h : Ev X W e G (RL X.K R) as G1) (hg : Gl X "enumerate" := by rfl) (hs : starEach [e] X.env = [(false, eval e X.env)] := by rfl) :
    Src X W (.Tuple elts kk tpos) (.Call (.Name "enumerate" p) [e] [] pos) G (RP2 X.K RI R) (enm as) G1 := ⟨_, pi_enum hg hm (pa_cons wE_pe pa_nil hs) hs, fun σ F H P S q => h.out σ F H _ S fun v F1 H1 e1 S1 r1 => by
  obtain ⟨p, vs, rfl, h1, h2⟩ := r1
  have at' : ∀ {F H : Hp}, Ex F1 F → Ex F H → SqL X.K H p vs := fun a b => ex_sql (a.trans b) h1
  refine ⟨p, vs, rfl, ex_sql S1.ex h1, q _ F1 H1 e1 S1 ⟨fun i F H a b hi => ⟨vs, at' a b, by rw [h2.len]; unfold enm at hi; rw [List.length_mapIdx] at hi; exact hi⟩, fun F H a b hb => by unfold enm; rw [List.length_mapIdx, ← h2.len]; exact hb p vs (.inl (at' a b)), fun i x F H a b hx => ?_, fun i x F H v H' a b hx hy => ?_⟩⟩
  · obtain ⟨w, h3, _⟩ := h2.get (enm_get hx).2
    exact ⟨vs, w, at' a b, h3⟩
  · obtain ⟨w, h3, h4⟩ := h2.get (enm_get hx).2
    obtain ⟨T, y, rfl, nT, rfl, h5⟩ := hy
    have e4 := h5 vs (at' a b)
    rw [h3] at e4; cases e4
    have nF : F T = none := b.back nT
    refine ⟨upd F T (.tup [.int (i : Nat), w]), Ex.new nF, b.up, Ex.new nT, fun c hc => .inl (upd_ne fun z => hc (by rw [z]; exact nT)), T, _, rfl, .inl (.inl upd_same), .int i, [w], rfl, ?_, w, rfl, R.mono (a.trans (Ex.new nF)) h4⟩
    show V.int i = V.int x.1
    rw [(enm_get hx).1]⟩
theorem src_zip {elts : List Expr} {kk} {tpos : Pos} (hm : X.mg "zip" = none) (h : Ev X W e G (RL X.K R) as G1) (h2 : Ev X W e2 G1 (RL X.K T) bs G2) (hg : Gl X "zip" := by rfl) (hs : starEach [e, e2] X.env = (false, eval e X.env) :: starEach [e2] X.env := by rfl) (hs2 : starEach [e2] X.env = (false, eval e2 X.env) :: starEach [] X.env := by rfl) :
    Src X W (.Tuple elts kk tpos) (.Call (.Name "zip" p) [e, e2] [] pos) G (RP2 X.K R T) (as.zip bs) G2 := ⟨_, pi_zip hg hm (pa_cons wE_pe (pa_cons wE_pe pa_nil hs2) hs) hs (by rw [hs2]; rfl), fun σ F H P S q => two (K := fun v u H2 => _) h h2 S fun v u F1 H1 e1 S1 r1 r2 => by
  obtain ⟨p, vs, rfl, h1, h3⟩ := r1
  obtain ⟨p2, ws, rfl, h4, h5⟩ := r2
  have at1 : ∀ {F H : Hp}, Ex F1 F → Ex F H → SqL X.K H p vs := fun a b => ex_sql (a.trans b) h1
  have at2 : ∀ {F H : Hp}, Ex F1 F → Ex F H → SqL X.K H p2 ws := fun a b => ex_sql (a.trans b) h4
  have zg : ∀ {i : Nat} {x : α × β}, (as.zip bs)[i]? = some x → as[i]? = some x.1 ∧ bs[i]? = some x.2 := fun {i x} h => by
    rw [List.getElem?_zip_eq_some] at h; exact h
  refine ⟨p, p2, vs, ws, rfl, ex_sql S1.ex h1, ex_sql S1.ex h4, q _ F1 H1 e1 S1 ⟨fun i F H a b hi => ⟨vs, ws, at1 a b, at2 a b, by rw [h3.len, h5.len]; rw [List.length_zip] at hi; omega⟩, fun F H a b hb => by have := hb p vs (.inl (at1 a b)); rw [h3.len] at this; rw [List.length_zip]; omega, fun i x F H a b hx => ?_, fun i x F H v H' a b hx hy => ?_⟩⟩
  · obtain ⟨w, g1, _⟩ := h3.get (zg hx).1
    obtain ⟨w2, g2, _⟩ := h5.get (zg hx).2
    exact ⟨vs, ws, w, w2, at1 a b, at2 a b, g1, g2⟩
  · obtain ⟨w, g1, g3⟩ := h3.get (zg hx).1
    obtain ⟨w2, g2, g4⟩ := h5.get (zg hx).2
    obtain ⟨T', y, y2, rfl, nT, rfl, k1, k2⟩ := hy
    have e4 := k1 vs (at1 a b)
    have e5 := k2 ws (at2 a b)
    rw [g1] at e4; cases e4
    rw [g2] at e5; cases e5
    have nF : F T' = none := b.back nT
    exact ⟨upd F T' (.tup [w, w2]), Ex.new nF, b.up, Ex.new nT, fun c hc => .inl (upd_ne fun z => hc (by rw [z]; exact nT)), T', _, rfl, .inl (.inl upd_same), w, [w2], rfl, R.mono (a.trans (Ex.new nF)) g3, w2, rfl, T.mono (a.trans (Ex.new nF)) g4⟩⟩
end

/-! ### loops -/
def Ctl.on {S β γ : Type} (c : Ctl S β) (k : S → Option γ) (ρ : β → Option γ) : Option γ := match c with
  | .next s => k s
  | .brk s => k s
  | .ret q => ρ q
section
variable {X : Cx} {W : Fx} {G G1 G2 : Gm} {D : Ends} {body rest : List Stmt} {tg iter c : Expr} {α S τ ρ : Type} {R : Rp α} {as : List α} {r : τ} {pos : Pos}
theorem xm {P : Program} {w : World} {A : Around} {env : Env} (h : X.xe = fun _ _ => False) : PassesOwn (model P w) A env X.xe := by rw [h]; exact PassesOwn.never
/-- a loop's turns, one by one -/
theorem for_core {J : It} {F1 H1 : Hp} {σ : L2.St} {g : TG} {tb : TS} (P : Nat → L2.St → Hp → Prop) (w : Walk X J F1 R as) (hp : ∀ i σ H, P i σ H → ∃ F, Ex F1 F ∧ Ex F H) (h0 : P 0 σ H1)
    (hs : ∀ i a σ H, as[i]? = some a → P i σ H → ∀ v H', J.yld i H v H' → g v σ H' fun σ2 H2 => tb { D with nx := P (i + 1), ct := P (i + 1), bk := D.nx } σ2 H2) (hd : ∀ σ H, P as.length σ H → D.nx σ H) :
    ∃ W : Nat → Nat → L2.St → Hp → Prop, (∃ m, W 0 m σ H1) ∧ ∀ i m σ H, W i m σ H →
      (J.stop i H ∧ D.nx σ H) ∨ (J.go i H ∧ ∃ N : L2.St → Hp → Prop, (∀ σ' H', N σ' H' → ∃ m', m' < m ∧ W (i + 1) m' σ' H') ∧ ∀ x H', J.yld i H x H' → g x σ H' fun σ2 H2 => tb { D with nx := N, ct := N, bk := D.nx } σ2 H2) := by
  refine ⟨fun i m σ H => m = as.length - i ∧ i ≤ as.length ∧ P i σ H, ⟨as.length, by simp, Nat.zero_le _, h0⟩, ?_⟩
  rintro i m σ H ⟨rfl, hi, p⟩
  obtain ⟨F, f1, f2⟩ := hp i σ H p
  by_cases hlt : i < as.length
  · exact .inr ⟨w.go i as[i] F H f1 f2 (List.getElem?_eq_getElem hlt), P (i + 1), fun σ' H' p' => ⟨as.length - (i + 1), by omega, rfl, hlt, p'⟩, hs i as[i] σ H (List.getElem?_eq_getElem hlt) p⟩
  · have e : i = as.length := by omega
    subst e
    exact .inl ⟨w.stop _ F H f1 f2 (Nat.le_refl _), hd σ H p⟩
theorem lp_get {f : α → S → Option S} : ∀ {as : List α} {s r : S}, lp f as s = some r → ∃ z : Nat → S, z 0 = s ∧ z as.length = r ∧ ∀ i a, as[i]? = some a → f a (z i) = some (z (i + 1))
  | [], s, r, h => ⟨fun _ => s, rfl, Option.some.inj h, fun i a e => by simp at e⟩
  | a :: as, s, r, h => by
    obtain ⟨s1, h1, h2⟩ := Option.bind_eq_some_iff.mp h
    obtain ⟨z, z0, z1, z2⟩ := lp_get h2
    refine ⟨fun i => match i with | 0 => s | i + 1 => z i, rfl, z1, fun i x e => ?_⟩
    cases i with
    | zero => cases Option.some.inj e; show f a s = some (z 0); rw [z0]; exact h1
    | succ i => exact z2 i x e
/-- a run that remembers more -/
def Fx.le (W W' : Fx) : Prop := W'.w = W.w ∧ Ex W.f0 W'.f0 ∧ W'.tb = W.tb
theorem Fx.le_refl (W : Fx) : W.le W := ⟨rfl, Ex.refl _, rfl⟩
/-- what others own is still told, and more may be -/
def Fx.lw (W W' : Fx) : Prop := (∀ a, W'.w a = none → W.w a = none) ∧ Ex W.f0 W'.f0 ∧ W'.tb = W.tb
theorem Fx.lw_refl (W : Fx) : W.lw W := ⟨fun _ h => h, Ex.refl _, rfl⟩
theorem Fx.le.lw {W W' : Fx} (h : W.le W') : W.lw W' := ⟨fun a e => by rw [← h.1]; exact e, h.2⟩
theorem Fx.lw.trans {W W1 W2 : Fx} (h : W.lw W1) (k : W1.lw W2) : W.lw W2 := ⟨fun a e => h.1 a (k.1 a e), h.2.1.trans k.2.1, k.2.2.trans h.2.2⟩
theorem Sat.le {W W' : Fx} {G : Gm} {σ : L2.St} {F H : Hp} (S : Sat W' G σ F H) (h : W.le W') : Sat W G σ F H :=
  ⟨S.len, S.ex, h.2.1.trans S.f0, by rw [← h.1]; exact S.wx, by rw [← h.1]; exact S.wf, S.sl, S.dj, by rw [← h.1]; exact S.fr, by rw [← h.1, ← h.2.2]; exact S.tt⟩
theorem Rt.le {W W' : Fx} {β : Type} {Or : β → Sd → Prop} {Outs : β → List Sd} {q : β} {v : V} {H : Hp} (h : Rt W' Or Outs q v H) (l : W.le W') : Rt W Or Outs q v H := by
  obtain ⟨P, F, vs', h1, S⟩ := h
  exact ⟨P, F, vs', h1, S.le l⟩
theorem Sat.pin {W : Fx} {G : Gm} {σ : L2.St} {F H : Hp} (S : Sat W G σ F H) : Sat ⟨W.w, F, W.tb⟩ G σ F H := ⟨S.len, S.ex, Ex.refl _, S.wx, S.wf, S.sl, S.dj, S.fr, S.tt⟩
/-- for, without a way out -/
theorem s_for {k : S → Option τ} {f : α → S → Option S} (s0 : S) (Gs : S → Gm) (hsrc : Src X W tg iter G R as G1) (h0 : Wk (Gs s0) G1) (hm : (lp f as s0).bind k = some r)
    (bd : ∀ W', W.le W' → ∀ a s s', a ∈ as → f a s = some s' → ∃ ss G2, Tg X W' tg ss (Gs s) R a G2 ∧ Tr W' G2 (wS X body { D with nx := At W' (Gs s'), ct := At W' (Gs s'), bk := fun _ _ => False }))
    (nx : ∀ s, k s = some r → Tr W (Gs s) (wS X rest D)) (hx : X.xe = fun _ _ => False := by rfl) (hc : X.calm = true := by rfl) (hs : ∀ x, foldedSetIterable iter X.env x = pure x := by intro _; rfl) : Tr W G (wS X (.For tg iter body [] pos :: rest) D) := by
  obtain ⟨sE, e1, e2⟩ := Option.bind_eq_some_iff.mp hm
  obtain ⟨z, z0, z1, z2⟩ := lp_get e1
  obtain ⟨wi, hpi, hw⟩ := hsrc
  refine .mk fun σ F H S => toS (pss_cons (ps_for (xm hx) hc hpi wG_pg (wS_ps (st := body)) hs) wS_ps) (hw σ F H _ S fun J F1 H1 f1 S1 w => ?_)
  refine for_core (D := { D with nx := wS X rest D }) (fun i σ H => ∃ F, Ex F1 F ∧ Sat W (Gs (z i)) σ F H) w (fun i σ H ⟨F, a, b⟩ => ⟨F, a, b.ex⟩) ⟨F1, Ex.refl F1, by rw [z0]; exact S1.wk h0⟩ ?_ ?_
  · rintro i a σ2 H2 ha ⟨F2, f2, S2⟩ v H' hy
    obtain ⟨F3, g1, g2, g3, g4, g5⟩ := w.yld i a F2 H2 v H' f2 S2.ex ha hy
    have S3 := S2.stepT g1 g2 g3 g4
    have le : W.le ⟨W.w, F3, W.tb⟩ := ⟨rfl, S3.f0, rfl⟩
    obtain ⟨ss, G2, t1, t2⟩ := bd ⟨W.w, F3, W.tb⟩ le a (z i) (z (i + 1)) (List.mem_of_getElem? ha) (z2 i a ha)
    refine t1.out σ2 F3 H' v _ S3.pin g5 fun σ3 _ S4 => ?_
    have h5 := t2.out σ3 F3 H' S4
    refine fun pins s1 I => thn (h5 pins s1 I) fun fl s2 hf => ?_
    cases fl with
    | next =>
      obtain ⟨σ', H5, I5, F5, S5⟩ := hf
      exact ⟨σ', H5, I5, F5, (f2.trans g1).trans S5.f0, S5.le le⟩
    | cont =>
      obtain ⟨σ', H5, I5, F5, S5⟩ := hf
      exact ⟨σ', H5, I5, F5, (f2.trans g1).trans S5.f0, S5.le le⟩
    | brk =>
      obtain ⟨σ', H5, I5, q⟩ := hf
      exact q.elim
    | ret v => exact hf
  · rintro σ2 H2 ⟨F2, f2, S2⟩
    exact (nx (z as.length) (by rw [z1]; exact e2)).out σ2 F2 H2 S2

theorem lpC_get {β : Type} {f : α → S → Option (Ctl S β)} : ∀ {as : List α} {s : S} {c : Ctl S β}, lpC f as s = some c → ∃ (n : Nat) (z : Nat → S), z 0 = s ∧ n ≤ as.length ∧ (∀ i a, i < n → as[i]? = some a → f a (z i) = some (.next (z (i + 1)))) ∧
    ((n = as.length ∧ c = .next (z n)) ∨ ∃ a, as[n]? = some a ∧ ((∃ s', f a (z n) = some (.brk s') ∧ c = .next s') ∨ ∃ q, f a (z n) = some (.ret q) ∧ c = .ret q))
  | [], s, c, h => ⟨0, fun _ => s, rfl, Nat.le_refl _, fun i a e => absurd e (Nat.not_lt_zero _), .inl ⟨rfl, (Option.some.inj h).symm⟩⟩
  | a :: as, s, c, h => by
    obtain ⟨c1, h1, h2⟩ := Option.bind_eq_some_iff.mp h
    cases c1 with
    | next s1 =>
      obtain ⟨n, z, z0, zn, z1, z2⟩ := lpC_get (show lpC f as s1 = some c from h2)
      refine ⟨n + 1, fun i => match i with | 0 => s | i + 1 => z i, rfl, Nat.succ_le_succ zn, fun i x e1 e2 => ?_, ?_⟩
      · cases i with
        | zero => cases Option.some.inj e2; show f a s = some (.next (z 0)); rw [z0]; exact h1
        | succ i => exact z1 i x (Nat.lt_of_succ_lt_succ e1) e2
      · rcases z2 with ⟨e1, e2⟩ | ⟨b, e1, e2⟩
        · exact .inl ⟨by rw [e1]; rfl, e2⟩
        · exact .inr ⟨b, e1, e2⟩
    | brk s1 => exact ⟨0, fun _ => s, rfl, Nat.zero_le _, fun i a e => absurd e (Nat.not_lt_zero _), .inr ⟨a, rfl, .inl ⟨s1, h1, (Option.some.inj h2).symm⟩⟩⟩
    | ret q => exact ⟨0, fun _ => s, rfl, Nat.zero_le _, fun i a e => absurd e (Nat.not_lt_zero _), .inr ⟨a, rfl, .inr ⟨q, h1, (Option.some.inj h2).symm⟩⟩⟩
/-- what a loop's body is to reach -/
def LD {β : Type} (W : Fx) (Gs : S → Gm) (RQ : β → V → Hp → Prop) (c : Ctl S β) : Ends :=
  { nx := fun σ H => ∃ s, c = .next s ∧ At W (Gs s) σ H, ct := fun σ H => ∃ s, c = .next s ∧ At W (Gs s) σ H, bk := fun σ H => ∃ s, c = .brk s ∧ At W (Gs s) σ H, rt := fun v H => ∃ q, c = .ret q ∧ RQ q v H }
theorem s_forC {k : S → Option τ} {f : α → S → Option (Ctl S ρ)} {ro : ρ → Option τ} (s0 : S) (Gs : S → Gm) (RQ : ρ → V → Hp → Prop) (hsrc : Src X W tg iter G R as G1) (h0 : Wk (Gs s0) G1) (hm : ((lpC f as s0).bind fun c => c.on k ro) = some r)
    (bd : ∀ W', W.le W' → ∀ a s c, a ∈ as → f a s = some c → ∃ ss G2, Tg X W' tg ss (Gs s) R a G2 ∧ Tr W' G2 (wS X body (LD W' Gs RQ c)))
    (nx : ∀ s, k s = some r → Tr W (Gs s) (wS X rest D)) (hq : ∀ q, ro q = some r → ∀ v H, RQ q v H → D.rt v H) (hx : X.xe = fun _ _ => False := by rfl) (hc : X.calm = true := by rfl) (hs : ∀ x, foldedSetIterable iter X.env x = pure x := by intro _; rfl) :
    Tr W G (wS X (.For tg iter body [] pos :: rest) D) := by
  obtain ⟨cE, e1, e2⟩ := Option.bind_eq_some_iff.mp hm
  obtain ⟨n, z, z0, zn, z1, z2⟩ := lpC_get e1
  obtain ⟨wi, hpi, hw⟩ := hsrc
  refine .mk fun σ F H S => toS (pss_cons (ps_for (xm hx) hc hpi wG_pg (wS_ps (st := body)) hs) wS_ps) (hw σ F H _ S fun J F1 H1 f1 S1 w => ?_)
  refine for_core (D := { D with nx := wS X rest D }) (fun i σ H => i ≤ n ∧ ∃ F, Ex F1 F ∧ Sat W (Gs (z i)) σ F H) w (fun i σ H ⟨_, F, a, b⟩ => ⟨F, a, b.ex⟩) ⟨Nat.zero_le _, F1, Ex.refl F1, by rw [z0]; exact S1.wk h0⟩ ?_ ?_
  · rintro i a σ2 H2 ha ⟨hi, F2, f2, S2⟩ v H' hy
    obtain ⟨F3, g1, g2, g3, g4, g5⟩ := w.yld i a F2 H2 v H' f2 S2.ex ha hy
    have S3 := S2.stepT g1 g2 g3 g4
    have le : W.le ⟨W.w, F3, W.tb⟩ := ⟨rfl, S3.f0, rfl⟩
    have hfa : ∃ c, f a (z i) = some c ∧ (∀ s, c = .next s → i < n ∧ s = z (i + 1)) ∧ (∀ s, c = .brk s → cE = .next s) ∧ ∀ q, c = .ret q → cE = .ret q := by
      by_cases hlt : i < n
      · exact ⟨_, z1 i a hlt ha, (fun s e => ⟨hlt, by cases e; rfl⟩), (fun s e => nomatch e), (fun q e => nomatch e)⟩
      · have e : i = n := by omega
        subst e
        rcases z2 with ⟨q1, q2⟩ | ⟨b, q1, q2⟩
        · rw [q1] at ha
          simp at ha
        · rw [q1] at ha
          cases Option.some.inj ha
          rcases q2 with ⟨s', q2, q3⟩ | ⟨q, q2, q3⟩
          · exact ⟨_, q2, (fun s e => nomatch e), (fun s e => by cases e; exact q3), (fun q e => nomatch e)⟩
          · exact ⟨_, q2, (fun s e => nomatch e), (fun s e => nomatch e), (fun q e => by cases e; exact q3)⟩
    obtain ⟨c, hf1, hf2, hf3, hf4⟩ := hfa
    obtain ⟨ss, G2, t1, t2⟩ := bd ⟨W.w, F3, W.tb⟩ le a (z i) c (List.mem_of_getElem? ha) hf1
    refine t1.out σ2 F3 H' v _ S3.pin g5 fun σ3 _ S4 => ?_
    have h5 := t2.out σ3 F3 H' S4
    refine fun pins s1 I => thn (h5 pins s1 I) fun fl s2 hf => ?_
    cases fl with
    | next =>
      obtain ⟨σ', H5, I5, s, es, F5, S5⟩ := hf
      obtain ⟨l1, l2⟩ := hf2 s es
      subst l2
      exact ⟨σ', H5, I5, l1, F5, (f2.trans g1).trans S5.f0, S5.le le⟩
    | cont =>
      obtain ⟨σ', H5, I5, s, es, F5, S5⟩ := hf
      obtain ⟨l1, l2⟩ := hf2 s es
      subst l2
      exact ⟨σ', H5, I5, l1, F5, (f2.trans g1).trans S5.f0, S5.le le⟩
    | brk =>
      obtain ⟨σ', H5, I5, s, es, F5, S5⟩ := hf
      have e3 := hf3 s es
      subst e3
      exact ⟨σ', H5, I5, (nx s e2).out σ' F5 H5 (S5.le le)⟩
    | ret v =>
      obtain ⟨v', σ', H5, I5, rv, q, eq, hq'⟩ := hf
      have e3 := hf4 q eq
      subst e3
      exact ⟨v', σ', H5, I5, rv, hq q e2 v' H5 hq'⟩
  · rintro σ2 H2 ⟨hi, F2, f2, S2⟩
    rcases z2 with ⟨q1, q2⟩ | ⟨b, q1, q2⟩
    · subst q2
      rw [← q1] at S2
      exact (nx (z n) e2).out σ2 F2 H2 S2
    · have := (List.getElem?_eq_some_iff.mp q1).1
      omega

/-! ### while -/
def whl {β : Type} (c : S → Option Bool) (b : S → Option (Ctl S β)) : Nat → S → Option (Ctl S β)
  | 0, _ => none
  | n + 1, s => (c s).bind fun t => if t = true then (b s).bind fun d => match d with
      | .next s' => whl c b n s'
      | .brk s' => some (.next s')
      | .ret q => some (.ret q)
    else some (.next s)
theorem whl_up {β : Type} {c : S → Option Bool} {b : S → Option (Ctl S β)} : ∀ {n : Nat} {s : S} {r : Ctl S β}, whl c b n s = some r → whl c b (n + 1) s = some r
  | 0, s, r, h => nomatch h
  | n + 1, s, r, h => by
    obtain ⟨t, h1, h2⟩ := Option.bind_eq_some_iff.mp h
    refine Option.bind_eq_some_iff.mpr ⟨t, h1, ?_⟩
    cases t with
    | false => exact h2
    | true =>
      rw [if_pos rfl] at h2 ⊢
      obtain ⟨d, h3, h4⟩ := Option.bind_eq_some_iff.mp h2
      refine Option.bind_eq_some_iff.mpr ⟨d, h3, ?_⟩
      cases d with
      | next s' => exact whl_up (n := n) h4
      | brk s' => exact h4
      | ret q => exact h4
theorem whl_le {β : Type} {c : S → Option Bool} {b : S → Option (Ctl S β)} {n m : Nat} {s : S} {r : Ctl S β} (h : whl c b n s = some r) (l : n ≤ m) : whl c b m s = some r := by
  induction l with
  | refl => exact h
  | step _ ih => exact whl_up ih
open Classical in
/-- what a while comes to, if it ends -/
noncomputable def wh {β : Type} (c : S → Option Bool) (b : S → Option (Ctl S β)) (s : S) : Option (Ctl S β) := if h : ∃ n r, whl c b n s = some r then some (Classical.choose (Classical.choose_spec h)) else none
theorem wh_of {β : Type} {c : S → Option Bool} {b : S → Option (Ctl S β)} {n : Nat} {s : S} {r : Ctl S β} (h : whl c b n s = some r) : wh c b s = some r := by
  have hx : ∃ n r, whl c b n s = some r := ⟨n, r, h⟩
  unfold wh
  rw [dif_pos hx]
  have h2 := Classical.choose_spec (Classical.choose_spec hx)
  have h3 := whl_le h2 (Nat.le_max_left _ n)
  have h4 := whl_le h (Nat.le_max_right (Classical.choose hx) n)
  rw [h3] at h4
  exact h4
theorem wh_get {β : Type} {c : S → Option Bool} {b : S → Option (Ctl S β)} {s : S} {r : Ctl S β} (h : wh c b s = some r) : ∃ n, whl c b n s = some r := by
  unfold wh at h
  split at h
  · rename_i hx
    cases h
    exact ⟨_, Classical.choose_spec (Classical.choose_spec hx)⟩
  · cases h
/-- one turn -/
theorem whl_eq {β : Type} {c : S → Option Bool} {b : S → Option (Ctl S β)} {n : Nat} {s : S} {d : Ctl S β} (h : c s = some true) (h2 : b s = some d) : whl c b (n + 1) s = d.rec (fun s' => whl c b n s') (fun s' => some (.next s')) (fun q => some (.ret q)) := by
  conv => lhs; unfold whl
  rw [h, Option.bind_some, if_pos rfl, h2, Option.bind_some]
  cases d <;> rfl
theorem wh_stop {β : Type} {c : S → Option Bool} {b : S → Option (Ctl S β)} {s : S} (h : c s = some false) : wh c b s = some (.next s) := wh_of (n := 1) (by show (c s).bind _ = _; rw [h]; rfl)
theorem wh_next {β : Type} {c : S → Option Bool} {b : S → Option (Ctl S β)} {s s' : S} {r : Ctl S β} (h : c s = some true) (h2 : b s = some (.next s')) (h3 : wh c b s' = some r) : wh c b s = some r := by
  obtain ⟨n, hn⟩ := wh_get h3
  exact wh_of (n := n + 1) ((whl_eq h h2).trans hn)
theorem wh_brk {β : Type} {c : S → Option Bool} {b : S → Option (Ctl S β)} {s s' : S} (h : c s = some true) (h2 : b s = some (.brk s')) : wh c b s = some (.next s') := wh_of (n := 1) (whl_eq h h2)
theorem wh_ret {β : Type} {c : S → Option Bool} {b : S → Option (Ctl S β)} {s : S} {q : β} (h : c s = some true) (h2 : b s = some (.ret q)) : wh c b s = some (.ret q) := wh_of (n := 1) (whl_eq h h2)
theorem s_while {k : S → Option τ} {cf : S → Option Bool} {f : S → Option (Ctl S ρ)} {ro : ρ → Option τ} (s0 : S) (Gs : S → Gm) (RQ : ρ → V → Hp → Prop) (h0 : Wk (Gs s0) G) (hm : ((wh cf f s0).bind fun c => c.on k ro) = some r)
    (cd : ∀ s t, cf s = some t → EvT X W c (Gs s) t (Gs s)) (bd : ∀ s d, f s = some d → Tr W (Gs s) (wS X body (LD W Gs RQ d)))
    (nx : ∀ s, k s = some r → Tr W (Gs s) (wS X rest D)) (hq : ∀ q, ro q = some r → ∀ v H, RQ q v H → D.rt v H) (hx : X.xe = fun _ _ => False := by rfl) : Tr W G (wS X (.While c body [] pos :: rest) D) := by
  obtain ⟨cE, e1, e2⟩ := Option.bind_eq_some_iff.mp hm
  obtain ⟨n, hn⟩ := wh_get e1
  refine .mk fun σ F H S => toS (pss_cons (ps_while (xm hx) wT_pt (wS_ps (st := body))) wS_ps) ?_
  refine ⟨fun m σ H => ∃ s F, whl cf f m s = some cE ∧ Sat W (Gs s) σ F H, ⟨n, s0, F, hn, S.wk h0⟩, ?_⟩
  rintro m σ1 H1 ⟨s, F1, h1, S1⟩
  cases m with
  | zero => exact nomatch h1
  | succ m =>
    obtain ⟨t, h2, h3⟩ := Option.bind_eq_some_iff.mp h1
    refine (cd s t h2).out σ1 F1 H1 _ S1 fun F2 H2 _ S2 => ?_
    cases t with
    | false =>
      rw [if_neg Bool.false_ne_true] at h3 ⊢
      cases h3
      exact (nx s e2).out σ1 F2 H2 S2
    | true =>
      rw [if_pos rfl] at h3 ⊢
      obtain ⟨d, h4, h5⟩ := Option.bind_eq_some_iff.mp h3
      refine ⟨fun σ' H' => ∃ s' F', d = .next s' ∧ Sat W (Gs s') σ' F' H', fun σ' H' ⟨s', F', e, S'⟩ => ⟨m, Nat.lt_succ_self _, s', F', by subst e; exact h5, S'⟩, ?_⟩
      have h6 := (bd s d h4).out σ1 F2 H2 S2
      refine fun pins s1 I => thn (h6 pins s1 I) fun fl s2 hf => ?_
      cases fl with
      | next =>
        obtain ⟨σ', H5, I5, s', es, F5, S5⟩ := hf
        exact ⟨σ', H5, I5, s', F5, es, S5⟩
      | cont =>
        obtain ⟨σ', H5, I5, s', es, F5, S5⟩ := hf
        exact ⟨σ', H5, I5, s', F5, es, S5⟩
      | brk =>
        obtain ⟨σ', H5, I5, s', es, F5, S5⟩ := hf
        subst es
        cases h5
        exact ⟨σ', H5, I5, (nx s' e2).out σ' F5 H5 S5⟩
      | ret v =>
        obtain ⟨v', σ', H5, I5, rv, q, eq, hq'⟩ := hf
        subst eq
        cases h5
        exact ⟨v', σ', H5, I5, rv, hq q e2 v' H5 hq'⟩
end
end Mz

namespace Mz
open PySem PySem.Spec PyProof.Rows L2

/-! ### what is owned, lent as kept data to one expression -/
structure Fzd (P P0 : Sd) : Prop where
  fp0 : P0.fp = []
  to : ∀ F F0 H v, Ex F F0 → (∀ a ∈ P.fp, F0 a = H a) → P.p F H v → P0.p F0 H v
inductive Ln : Gm → Gm → Prop where
  | nil : Ln [] []
  | no {A B : Gm} : Ln A B → Ln (none :: A) (none :: B)
  | im {P : Sd} {A B : Gm} (h : P.fp = []) : Ln A B → Ln (some P :: A) (some P :: B)
  | fz {P P0 : Sd} {A B : Gm} (h : Fzd P P0) : Ln A B → Ln (some P :: A) (some P0 :: B)
theorem Ln.get : ∀ {A B : Gm}, Ln A B → A.length = B.length ∧ ∀ (i : Nat) (P0 : Sd), B[i]? = some (some P0) → ∃ P : Sd, A[i]? = some (some P) ∧ P0.fp = [] ∧ ∀ F F0 H v, Ex F F0 → (∀ a ∈ P.fp, F0 a = H a) → P.p F H v → P0.p F0 H v
  | _, _, .nil => ⟨rfl, fun i P h => by simp at h⟩
  | _, _, .no t => ⟨by simp [(Ln.get t).1], fun i P h => by
    cases i with
    | zero => simp at h
    | succ i => simpa using (Ln.get t).2 i P (by simpa using h)⟩
  | _, _, .im (P := P') hf t => ⟨by simp [(Ln.get t).1], fun i P h => by
    cases i with
    | zero =>
      cases Option.some.inj (Option.some.inj h)
      exact ⟨P', rfl, hf, fun F F0 H v e _ q => P'.st e (fun a ha => absurd ha (by rw [hf]; exact List.not_mem_nil)) q⟩
    | succ i => simpa using (Ln.get t).2 i P (by simpa using h)⟩
  | _, _, .fz (P := P') hf t => ⟨by simp [(Ln.get t).1], fun i P h => by
    cases i with
    | zero =>
      cases Option.some.inj (Option.some.inj h)
      exact ⟨P', rfl, hf.fp0, hf.to⟩
    | succ i => simpa using (Ln.get t).2 i P (by simpa using h)⟩
theorem fz_list {α : Type} {l : Addr} {R : Rp α} {as : List α} {K : PySem.W.Frag} : Fzd (own l (QL l R as)) (imm (RL K R) as) :=
  ⟨rfl, fun F F0 H v e h q => by
    obtain ⟨rfl, vs, h1, h2⟩ := q
    exact ⟨l, vs, rfl, .inl ((h l (List.mem_singleton.mpr rfl)).trans h1), h2.mono e⟩⟩
/-- a list of several kinds that is kept -/
def RLs {α : Type} (K : PySem.W.Frag) (T : Rs α) : Rp α := ⟨fun F v a => ∃ p vs, v = .ref p ∧ Rl F p vs ∧ T.r F vs a, fun {F F' v as} e h => by
  obtain ⟨p, vs, h1, h2, h3⟩ := h
  exact ⟨p, vs, h1, ex_rl e h2, T.mono e h3⟩⟩
theorem fz_listS {α : Type} {l : Addr} {T : Rs α} {a : α} {K : PySem.W.Frag} : Fzd (own l (QS l T a)) (imm (RLs K T) a) :=
  ⟨rfl, fun F F0 H v e h q => by
    obtain ⟨rfl, vs, h1, h2⟩ := q
    exact ⟨l, vs, rfl, .inl ((h l (List.mem_singleton.mpr rfl)).trans h1), T.mono e h2⟩⟩
/-- a datum that hangs on no heap -/
def Flat {α : Type} (R : Rp α) : Prop := ∀ F F' v a, R.r F v a → R.r F' v a
theorem flat_I : Flat RI := fun _ _ _ _ h => h
theorem flat_B : Flat RB := fun _ _ _ _ h => h
theorem flat_S : Flat RS := fun _ _ _ _ h => h
theorem flat_U : Flat RU := fun _ _ _ _ h => h
theorem flat_O {α : Type} {R : Rp α} (h : Flat R) : Flat (RO R) := fun F F' v a q => by
  cases a with
  | none => exact q
  | some a => exact ⟨h F F' v a q.1, q.2⟩
open Classical in
theorem lend_go {W : Fx} {G G0 : Gm} {σ : L2.St} {F H : Hp} (hl : Ln G G0) (S : Sat W G σ F H) : ∃ F0, Ex F F0 ∧ Sat W G0 σ F0 H ∧ ∀ F' H', Ex F0 F' → Sat W G0 σ F' H' → ∃ F2, Ex F F2 ∧ Sat W G σ F2 H' := by
  let own? : Addr → Prop := fun a => ∃ (i : Nat) (P : Sd), G[i]? = some (some P) ∧ a ∈ P.fp
  have own_fr : ∀ a, own? a → F a = none ∧ W.w a = none ∧ H a ≠ none := fun a ⟨i, P, h1, h2⟩ => S.fr i P a h1 h2
  have e0 : Ex F (fun a => if own? a then H a else F a) := fun a o h => by
    show (if own? a then H a else F a) = some o
    rw [if_neg fun z => by rw [(own_fr a z).1] at h; cases h]
    exact h
  have at0 : ∀ (i : Nat) (P : Sd), G[i]? = some (some P) → ∀ a ∈ P.fp, (if own? a then H a else F a) = H a := fun i P h a ha => if_pos ⟨i, P, h, ha⟩
  refine ⟨fun a => if own? a then H a else F a, e0, ⟨S.len.trans hl.get.1, fun a o h => ?_, S.f0.trans e0, S.wx, fun a h => ?_, fun i P0 h => ?_, fun i j P Q a h1 h2 m1 m2 => ?_, fun i P a h m => ?_, S.tt.go S.tt.w0 (fun p hp => ?_) (fun p hp i P h m => ?_) (fun p _ o h => h) fun c q h => e0 _ _ h⟩, fun F' H' e1 S' => ?_⟩
  · have h' : (if own? a then H a else F a) = some o := h
    by_cases z : own? a
    · rw [if_pos z] at h'; exact h'
    · rw [if_neg z] at h'; exact S.ex a o h'
  · show (if own? a then H a else F a) = none ∨ _
    rw [if_neg fun z => h (own_fr a z).2.1]
    exact S.wf a h
  · obtain ⟨P, h1, h2, h3⟩ := hl.get.2 i P0 h
    obtain ⟨v, h4, h5⟩ := S.sl i P h1
    exact ⟨v, h4, h3 F _ H v e0 (at0 i P h1) h5⟩
  · obtain ⟨_, _, h3, _⟩ := hl.get.2 i P h1
    rw [h3] at m1; exact nomatch m1
  · obtain ⟨_, _, h3, _⟩ := hl.get.2 i P h
    rw [h3] at m; exact nomatch m
  · show (if own? p.1 then H p.1 else F p.1) = none
    rw [if_neg fun ⟨i, P, h1, h2⟩ => S.tt.G0 p hp i P h1 h2]
    exact S.tt.F0 p hp
  · obtain ⟨_, _, h3, _⟩ := hl.get.2 i P h
    rw [h3] at m; exact nomatch m
  · have e2 : Ex F (fun a => if own? a then none else F' a) := fun a o h => by
      show (if own? a then none else F' a) = some o
      rw [if_neg fun z => by rw [(own_fr a z).1] at h; cases h]
      exact e1 a o (e0 a o h)
    have keep : ∀ a, own? a → H' a = H a := fun a z => by
      cases q : H a with
      | none => exact absurd q (own_fr a z).2.2
      | some o => exact S'.ex a o (e1 a o (by show (if own? a then H a else F a) = some o; rw [if_pos z]; exact q))
    refine ⟨fun a => if own? a then none else F' a, e2, ⟨S.len, fun a o h => ?_, S.f0.trans e2, S'.wx, fun a h => ?_, fun i P h => ?_, S.dj, fun i P a h m => ?_, S'.tt.go S.tt.w0 (fun p hp => ?_) S.tt.G0 (fun p _ o h => h) fun c q h => ?_⟩⟩
    · have h' : (if own? a then none else F' a) = some o := h
      by_cases z : own? a
      · rw [if_pos z] at h'; cases h'
      · rw [if_neg z] at h'; exact S'.ex a o h'
    · show (if own? a then none else F' a) = none ∨ _
      by_cases z : own? a
      · exact .inl (if_pos z)
      · rw [if_neg z]; exact S'.wf a h
    · obtain ⟨v, h1, h2⟩ := S.sl i P h
      exact ⟨v, h1, P.st e2 (fun a ha => keep a ⟨i, P, h, ha⟩) h2⟩
    · have z : own? a := ⟨i, P, h, m⟩
      obtain ⟨q1, q2, q3⟩ := S.fr i P a h m
      exact ⟨if_pos z, q2, by rw [keep a z]; exact q3⟩
    · show (if own? p.1 then none else F' p.1) = none
      by_cases z : own? p.1
      · exact if_pos z
      · rw [if_neg z]; exact S'.tt.F0 p hp
    · show (if own? c then none else F' c) = _
      rw [if_neg fun ⟨i, P, h1, h2⟩ => by
        obtain ⟨v, _, p⟩ := S.sl i P h1
        obtain ⟨o, h3, h4⟩ := P.nt p c h2
        have h5 := e1 c o (by show (if own? c then H c else F c) = some o; rw [if_pos ⟨i, P, h1, h2⟩]; exact h3)
        rw [h] at h5
        cases h5
        exact pl_code h4]
      exact h
section
variable {X : Cx} {W : Fx} {G G0 G1 G2 : Gm} {D : Ends} {e a b : Expr} {rest : List Stmt} {α β : Type} {R : Rp α} {x : α} {pos p p' : Pos} {n : Str} {i : Nat} {l : Addr}
theorem ev_lend (hl : Ln G G0) (hf : Flat R) (h : Ev X W e G0 R x G0) : Ev X W e G R x G := .mk fun σ F H Q S q => by
  obtain ⟨F0, e0, S0, bk⟩ := lend_go hl S
  refine h.out σ F0 H Q S0 fun v F' H' e1 S' r => ?_
  obtain ⟨F2, e2, S2⟩ := bk F' H' e1 S'
  exact q v F2 H' e2 S2 (hf _ _ _ _ r)
theorem et_lend {k : Bool} (hl : Ln G G0) (h : EvT X W e G0 k G0) : EvT X W e G k G := .mk fun σ F H Q S q => by
  obtain ⟨F0, e0, S0, bk⟩ := lend_go hl S
  refine h.out σ F0 H Q S0 fun F' H' e1 S' => ?_
  obtain ⟨F2, e2, S2⟩ := bk F' H' e1 S'
  exact q F2 H' e2 S2
theorem ev_ixTL {τ : Type} {K : Rs τ} {t : τ} {j : Nat} {k : Int} (h : Pj K t j R x) (hi : ixN K.n k = some j) (ha : Ev X W a G (RLs X.K K) t G1) (hb : Ev X W b G1 RI k G2) (hs : PlainIx b := by exact fun _ _ => rfl) : Ev X W (.Subscript a b pos) G R x G2 := .mk fun σ F H Q S q =>
  toE (pe_ix ix_list wE_pe wE_pe hs) (two ha hb S fun v u F' H' e S' r1 r2 => by
    obtain ⟨p, vs, e1, h1, h2⟩ := r1
    obtain ⟨w, h4, h5⟩ := h F' vs h2
    refine ⟨p, vs, k, w, e1, r2, ex_sql S'.ex h1, ?_, q w F' H' e S' h5⟩
    unfold atI
    rw [K.len h2, hi]
    exact h4)

/-! ### what is owned is changed -/
/-- x.append(e) -/
theorem s_app {as bs : List α} {apos cpos spos p0 : Pos} (hO : appO as x = some bs) (hN : X.N[i]? = some n) (hv : Vis X.env.scope n) (hG : G[i]? = some (some (own l (QL l R as)))) (he : Ev X W e G R x G1) (hG1 : G1[i]? = some (some (own l (QL l R as))))
    (q : Tr W (G1.set i (some (own l (QL l R bs)))) (wS X rest D)) (hs : starEach [e] X.env = (false, eval e X.env) :: starEach [] X.env := by rfl) (hbase : attributeBase (.Name n p0) "append" X.env (eval (.Name n p0) X.env) = eval (.Name n p0) X.env := by rfl)
    (hfew : ((backTo cpos (starEach [e] X.env)).all (fun x => !x.1) && (backToKw cpos (keywordEach [] X.env)).all (fun x => x.1.isSome)
      && decide ([e].length + ([] : List Keyword).length + (if ([] : List Keyword).isEmpty then 0 else 1) < 30)) = true := by rfl)
    (hline : (apos.endLine == cpos.line) = true := by rfl) (hd : (n == ("__debug__" : Str)) = false := by decide) (hcd : (n == ("__classdict__" : Str)) = false := by decide)
    (hsw : swapsWith (.Call (.Attribute (.Name n p0) "append" apos) [e] [] cpos) none spos.line X.env = pure false := by rfl) :
    Tr W G (wS X (.Expr (.Call (.Attribute (.Name n p0) "append" apos) [e] [] cpos) spos :: rest) D) := .mk fun σ F H S => by
  obtain ⟨v, h1, rfl, vs, h2, h3⟩ := S.sl i _ hG
  unfold appO at hO
  split at hO
  · rename_i hlen
    cases hO
    refine toS (pss_cons (ps_expr (pe_bm PySem.F.plainAttrs_list PySem.F.slot_list_append PySem.F.type_list_append mt_append (pe_var hN hv hd hcd) (pa_cons wE_pe pa_nil hs) hbase hfew hline hs (by rfl)) hsw) wS_ps) ?_
    refine ⟨.ref l, h1, .inl ⟨rfl, vs, .inl (.inl h2)⟩, he.out σ F H _ S fun w F1 H1 e1 S1 r1 => ?_⟩
    obtain ⟨v', k1, k2, vs', k3, k4⟩ := S1.sl i _ hG1
    refine ⟨l, vs', w, rfl, rfl, k3, by rw [k4.len]; exact size16 hlen, ?_⟩
    exact q.out σ F1 _ (S1.mut hG1 (fun a ha => upd_ne fun z => ha (by rw [z]; exact List.mem_singleton.mpr rfl)) ⟨vs' ++ [w], upd_same, k4.snoc r1⟩ fun a ha => ⟨ha, by rw [List.mem_singleton.mp ha, upd_same]; intro z; cases z⟩)
  · cases hO
/-- x[k] = e, x an own list -/
theorem s_setL {as bs : List α} {k : Int} {spos p0 : Pos} (hO : setO as k x = some bs) (hN : X.N[i]? = some n) (hv : Vis X.env.scope n) (he : Ev X W e G R x G1) (hb : Ev X W b G1 RI k G1) (hG1 : G1[i]? = some (some (own l (QL l R as))))
    (q : Tr W (G1.set i (some (own l (QL l R bs)))) (wS X rest D)) (hd : (n == ("__debug__" : Str)) = false := by decide) (hcd : (n == ("__classdict__" : Str)) = false := by decide)
    (ha : ∀ v, assign (.Subscript (.Name n p0) b pos) X.env v = (do
      let ov ← holding [v] (eval (.Name n p0) X.env)
      let iv ← holding [v, ov] (eval b X.env)
      standAt pos
      holding [v, ov, iv] (setItem ov iv v)
      release [v, ov, iv] []) := by intro _; rfl) (hs : swapsWithSole [.Subscript (.Name n p0) b pos] e spos.line X.env = pure false := by rfl) (hw : swappedStores [.Subscript (.Name n p0) b pos] e X.env = pure none := by rfl)
    (h1 : (assignEach [.Subscript (.Name n p0) b pos] X.env).map (·.2) = [assign (.Subscript (.Name n p0) b pos) X.env] := by rfl) :
    Tr W G (wS X (.Assign [.Subscript (.Name n p0) b pos] e spos :: rest) D) := .mk fun σ F H S => by
  unfold setO at hO
  split at hO
  · rename_i j hj
    cases hO
    refine toS (pss_cons (ps_asg wE_pe (pg_sub (pe_var hN hv hd hcd) wE_pe set_list ha) hs hw h1) wS_ps) (he.out σ F H _ S fun w F1 H1 e1 S1 r1 => ?_)
    obtain ⟨v', k1, k2, _⟩ := S1.sl i _ hG1
    subst k2
    refine ⟨.ref l, k1, hb.out σ F1 H1 _ S1 fun u F2 H2 e2 S2 r2 => ?_⟩
    obtain ⟨v2, _, k2, vs', k3, k4⟩ := S2.sl i _ hG1
    refine ⟨l, vs', k, j, rfl, r2, k3, by rw [k4.len]; exact hj, ?_⟩
    exact q.out σ F2 _ (S2.mut hG1 (fun a ha => upd_ne fun z => ha (by rw [z]; exact List.mem_singleton.mpr rfl)) ⟨vs'.set j w, upd_same, All2.set (R.mono e2 r1) j k4⟩ fun a ha => ⟨ha, by rw [List.mem_singleton.mp ha, upd_same]; intro z; cases z⟩)
  · cases hO
/-- .. a list of several kinds -/
theorem s_setS {τ : Type} {K : Rs τ} {t t' : τ} {k : Int} {j : Nat} {spos p0 : Pos} (hi : ixN K.n k = some j) (hU : ∀ F vs v, K.r F vs t → R.r F v x → K.r F (vs.set j v) t') (hN : X.N[i]? = some n) (hv : Vis X.env.scope n) (he : Ev X W e G R x G1) (hb : Ev X W b G1 RI k G1)
    (hG1 : G1[i]? = some (some (own l (QS l K t))))
    (q : Tr W (G1.set i (some (own l (QS l K t')))) (wS X rest D)) (hd : (n == ("__debug__" : Str)) = false := by decide) (hcd : (n == ("__classdict__" : Str)) = false := by decide)
    (ha : ∀ v, assign (.Subscript (.Name n p0) b pos) X.env v = (do
      let ov ← holding [v] (eval (.Name n p0) X.env)
      let iv ← holding [v, ov] (eval b X.env)
      standAt pos
      holding [v, ov, iv] (setItem ov iv v)
      release [v, ov, iv] []) := by intro _; rfl) (hs : swapsWithSole [.Subscript (.Name n p0) b pos] e spos.line X.env = pure false := by rfl) (hw : swappedStores [.Subscript (.Name n p0) b pos] e X.env = pure none := by rfl)
    (h1 : (assignEach [.Subscript (.Name n p0) b pos] X.env).map (·.2) = [assign (.Subscript (.Name n p0) b pos) X.env] := by rfl) :
    Tr W G (wS X (.Assign [.Subscript (.Name n p0) b pos] e spos :: rest) D) := .mk fun σ F H S => by
  refine toS (pss_cons (ps_asg wE_pe (pg_sub (pe_var hN hv hd hcd) wE_pe set_list ha) hs hw h1) wS_ps) (he.out σ F H _ S fun w F1 H1 e1 S1 r1 => ?_)
  obtain ⟨v', k1, k2, _⟩ := S1.sl i _ hG1
  subst k2
  refine ⟨.ref l, k1, hb.out σ F1 H1 _ S1 fun u F2 H2 e2 S2 r2 => ?_⟩
  obtain ⟨v2, _, k2, vs', k3, k4⟩ := S2.sl i _ hG1
  refine ⟨l, vs', k, j, rfl, r2, k3, by rw [K.len k4]; exact hi, ?_⟩
  exact q.out σ F2 _ (S2.mut hG1 (fun a ha => upd_ne fun z => ha (by rw [z]; exact List.mem_singleton.mpr rfl)) ⟨vs'.set j w, upd_same, hU F2 vs' w k4 (R.mono e2 r1)⟩ fun a ha => ⟨ha, by rw [List.mem_singleton.mp ha, upd_same]; intro z; cases z⟩)
/-- the new row of several kinds behind a store -/
theorem up_one {x' : α} : ∀ F vs v, (R1 R).r F vs x → R.r F v x' → (R1 R).r F (vs.set 0 v) x' := fun F vs v h r => by
  obtain ⟨w, rfl, _⟩ := h
  exact ⟨v, rfl, r⟩
theorem up_hd {τ : Type} {K : Rs τ} {t : α × τ} {x' : α} : ∀ F vs v, (RC R K).r F vs t → R.r F v x' → (RC R K).r F (vs.set 0 v) (x', t.2) := fun F vs v h r => by
  obtain ⟨w, ws, rfl, _, h2⟩ := h
  exact ⟨v, ws, rfl, r, h2⟩
theorem up_tl {τ β : Type} {T : Rp β} {K : Rs τ} {t : β × τ} {t' : τ} {j : Nat} (h : ∀ F vs v, K.r F vs t.2 → R.r F v x → K.r F (vs.set j v) t') : ∀ F vs v, (RC T K).r F vs t → R.r F v x → (RC T K).r F (vs.set (j + 1) v) (t.1, t') := fun F vs v h' r => by
  obtain ⟨w, ws, rfl, h1, h2⟩ := h'
  exact ⟨w, ws.set j v, rfl, h1, h F ws v h2 r⟩
/-- x op= e -/
theorem s_augI {τ : Type} {op : Operator} {x y z : Int} {r : τ} {k : Int → Option τ} {spos : Pos} (ho : Op2 X (inplaceOp op) RI x RI y RI z) (hm : lt z k = some r) (hN : X.N.Nodup) (hi : X.N[i]? = some n) (hx : Loc X.env.scope n) (hG : G[i]? = some (some (imm RI x))) (he : Ev X W e G RI y G1)
    (q : ∀ w, k w = some r → Tr W (G1.set i (some (imm RI w))) (wS X rest D)) (hf : X.fn n = true ∨ X.env.scope.names.lookup n = some .local := by first | exact .inl rfl | exact .inr rfl) : Tr W G (wS X (.AugAssign (.Name n p') op e spos :: rest) D) := .mk fun σ F H S => by
  obtain ⟨rr, h1, h2⟩ := ho
  obtain ⟨v, g1, g2⟩ := S.slI hG
  exact toS (pss_cons (ps_aug hN hi hx wE_pe h1 hf) wS_ps) ⟨v, g1, he.out σ F H _ S fun u F1 H1 e1 S1 r1 => h2 F1 H1 v u _ S1.ex g2 r1 fun w rw => (q z hm).out (σ.set i (some w)) F1 H1 (S1.setI rw)⟩
theorem iop2_add {i j : Int} : Op2 X (inplaceOp .Add) RI i RI j RI (i + j) := op2_I0 iop_add
theorem iop2_sub {i j : Int} : Op2 X (inplaceOp .Sub) RI i RI j RI (i - j) := op2_I0 iop_sub

/-! ### several targets -/
theorem s_asgT {tg : Expr} {ss : List Nat} {spos : Pos} (he : Ev X W e G R x G1) (ht : Tg X W tg ss G1 R x G2) (q : Tr W G2 (wS X rest D)) (hs : swapsWithSole [tg] e spos.line X.env = pure false := by rfl) (hw : swappedStores [tg] e X.env = pure none := by rfl)
    (h1 : (assignEach [tg] X.env).map (·.2) = [assign tg X.env] := by rfl) : Tr W G (wS X (.Assign [tg] e spos :: rest) D) := .mk fun σ F H S =>
  toS (pss_cons (ps_asg wE_pe wG_pg hs hw h1) wS_ps) (he.out σ F H _ S fun v F1 H1 e1 S1 r1 => ht.out σ F1 H1 v _ S1 r1 fun σ' _ S' => q.out σ' F1 H1 S')
/-- a, b = x, y of plain names -/
theorem s_par {β : Type} {T : Rp β} {y : β} {a b : Expr} {i j : Nat} {n m : Str} {px py pt pt2 spos : Pos} {kt k2} (he : EvR X W [a, b] G (RC R (R1 T)) (x, y) G1) (hc : X.calm = true) (hN : X.N.Nodup) (hi : X.N[i]? = some n) (hj : X.N[j]? = some m) (hij : i ≠ j)
    (hx : X.env.scope.names.lookup n = some .local) (hy : X.env.scope.names.lookup m = some .local) (q : Tr W ((G1.set i (some (imm R x))).set j (some (imm T y))) (wS X rest D))
    (hw : swappedStores [.Tuple [.Name n px, .Name m py] kt pt] (.Tuple [a, b] k2 pt2) X.env = pure (some [n, m]) := by rfl)
    (hs : swapsWithSole [.Tuple [.Name n px, .Name m py] kt pt] (.Tuple [a, b] k2 pt2) spos.line X.env = pure false := by rfl) :
    Tr W G (wS X (.Assign [.Tuple [.Name n px, .Name m py] kt pt] (.Tuple [a, b] k2 pt2) spos :: rest) D) := .mk fun σ F H S =>
  toS (pss_cons (ps_par hc hN hi hj hij hx hy wA_pa hw hs) wS_ps) (he.out σ F H _ S fun vs F1 H1 e1 S1 r1 => by
    obtain ⟨v, ws, rfl, h1, w, rfl, h2⟩ := r1
    exact ⟨v, w, rfl, q.out _ F1 H1 ((S1.setI h1).setI h2)⟩)

/-! ### handing back what is owned -/
theorem s_retO {ρ : Type} {Or : ρ → Sd → Prop} {Outs : ρ → List Sd} {q : ρ} {Q : Qd} (hr : ∀ v H, Rt W Or Outs q v H → D.rt v H) (hN : X.N[i]? = some n) (hv : Vis X.env.scope n) (hG : G[i]? = some (some (own l Q))) (hp : Pick G (own l Q :: Outs q)) (hO : Or q (own l Q))
    (hd : (n == ("__debug__" : Str)) = false := by decide) (hcd : (n == ("__classdict__" : Str)) = false := by decide) : Tr W G (wS X (.Return (some (.Name n p)) pos :: rest) D) := .mk fun σ F H S => by
  obtain ⟨v, h1, rfl, _⟩ := S.sl i _ hG
  refine toS (pss_cons (ps_ret (pe_var hN hv hd hcd)) wS_ps) ⟨.ref l, h1, ?_⟩
  obtain ⟨vs', S2⟩ := hp W σ F H S
  obtain ⟨w, k1, k2, _⟩ := S2.sl 0 _ rfl
  subst k2
  cases vs' with
  | nil => cases k1
  | cons o vs' =>
    cases Option.some.inj k1
    exact hr _ H ⟨own l Q, F, vs', hO, S2⟩

/-! ### a def -/
theorem start_tr {N : List Str} {Ps : List Sd} {vs : List V} {W : Fx} {F H : Hp} {G' : Gm} (S : Sat W (Ps.map some) (vs.map some) F H) (hG : G' = Ps.map some ++ List.replicate (N.length - Ps.length) none) : Sat W G' (L2.start N vs) F H := by
  have hl : vs.length = Ps.length := by have := S.len; rw [List.length_map, List.length_map] at this; exact this
  subst hG
  have get : ∀ (i : Nat) (P : Sd), (Ps.map some ++ List.replicate (N.length - Ps.length) (none : Option Sd))[i]? = some (some P) → (Ps.map some)[i]? = some (some P) := fun i P h => by
    by_cases z : i < (Ps.map some).length
    · rw [List.getElem?_append_left z] at h; exact h
    · rw [List.getElem?_append_right (by omega), List.getElem?_replicate] at h
      split at h
      · cases h
      · cases h
  refine ⟨by unfold L2.start; simp [hl], S.ex, S.f0, S.wx, S.wf, fun i P h => ?_, fun i j P Q a h1 h2 => S.dj i j P Q a (get i P h1) (get j Q h2), fun i P a h => S.fr i P a (get i P h), S.tt.go S.tt.w0 S.tt.F0 (fun p hp i P h => S.tt.G0 p hp i P (get i P h)) (fun p _ o h => h) fun c q h => h⟩
  obtain ⟨v, h1, h2⟩ := S.sl i P (get i P h)
  refine ⟨v, ?_, h2⟩
  unfold L2.start
  rw [List.getElem?_append_left (List.getElem?_eq_some_iff.mp h1).1]
  exact h1
theorem sat_len {Ps : List Sd} {vs : List V} {W : Fx} {F H : Hp} (S : Sat W (Ps.map some) (vs.map some) F H) : vs.length = Ps.length := by
  have := S.len
  rw [List.length_map, List.length_map] at this
  exact this
theorem fn_ok {P : Program} {w : World} {K : PySem.W.Frag} {mg : Str → Option Value} {base : Heap} {x qual : Str} {st : Stmt} {f : Addr} {fd : FuncData} {N ps : List Str} {k : Nat} {sp : Sp} (F : Fun K x qual st f fd) (S : FnScope N ps (defScope st)) (len : ∀ vs H Q E, sp vs H Q E → vs.length = ps.length)
    (hbody : ∀ (cdv : Value) (A : Around) (outer : List Env) (s : Shared) (H : Hp) (vs : List V) (Q : VK) (E : XK), Room k (A.deeper (envOfC qual (defScope st) s.heap.objs.size f cdv)) → sp vs H Q E →
      wS (cxOf CX0 P w K mg base N qual (defScope st) f cdv A outer s H E).nox (defBody st) { nx := fun _ H' => Q .non H', rt := Q } (L2.start N vs) H) : FnOk P w K mg base CX0 (k + 1) f fd ps sp :=
  F.ok S len fun cdv A outer s H vs Q E hr h => ⟨_, wS_ps, hbody cdv A outer s H vs Q E hr h⟩
/-- the body's end without a return -/
theorem s_fall {ρ : Type} {Or : ρ → Sd → Prop} {Outs : ρ → List Sd} {q : ρ} {Qk : VK} (hr : ∀ v H, Rt W Or Outs q v H → Qk v H) (hp : Pick G (Outs q)) (hO : Or q (imm RU ())) : Tr W G (fun _ H' => Qk .non H') := .mk fun σ F H S => by
  obtain ⟨vs', S2⟩ := hp W σ F H S
  exact hr _ H ⟨imm RU (), F, vs', hO, S2.consI rfl⟩
end
end Mz

namespace Mz
open PySem PySem.Spec PyProof.Rows L2

/-! ### list comprehensions -/
def lcG {α β S : Type} (f : α → S → Option (Option β × S)) : List α → S → Option (List β × S)
  | [], s => some ([], s)
  | a :: as, s => (f a s).bind fun p => (lcG f as p.2).bind fun q => some (p.1.toList ++ q.1, q.2)
def outs {β : Type} (o : Nat → Option β) : Nat → List β
  | 0 => []
  | n + 1 => outs o n ++ (o n).toList
theorem outs_shift {β : Type} (o : Nat → Option β) : ∀ n, outs o (n + 1) = (o 0).toList ++ outs (fun i => o (i + 1)) n
  | 0 => by simp [outs]
  | n + 1 => by
    rw [outs, outs_shift o n, outs, List.append_assoc]
theorem outs_len {β : Type} (o : Nat → Option β) : ∀ n, (outs o n).length ≤ n
  | 0 => Nat.le_refl _
  | n + 1 => by
    have := outs_len o n
    rw [outs, List.length_append]
    cases o n <;> simp <;> omega
theorem lcG_get {α β S : Type} {f : α → S → Option (Option β × S)} : ∀ {as : List α} {s : S} {r : List β × S}, lcG f as s = some r → ∃ (z : Nat → S) (o : Nat → Option β), z 0 = s ∧ z as.length = r.2 ∧ outs o as.length = r.1 ∧ ∀ i a, as[i]? = some a → f a (z i) = some (o i, z (i + 1))
  | [], s, r, h => ⟨fun _ => s, fun _ => none, rfl, by cases h; rfl, by cases h; rfl, fun i a e => by simp at e⟩
  | a :: as, s, r, h => by
    obtain ⟨p, h1, h2⟩ := Option.bind_eq_some_iff.mp h
    obtain ⟨q, h3, h4⟩ := Option.bind_eq_some_iff.mp h2
    cases h4
    obtain ⟨z, o, z0, z1, z2, z3⟩ := lcG_get h3
    refine ⟨fun i => match i with | 0 => s | i + 1 => z i, fun i => match i with | 0 => p.1 | i + 1 => o i, rfl, z1, ?_, fun i x e => ?_⟩
    · rw [List.length_cons, outs_shift, z2]
    · cases i with
      | zero => cases Option.some.inj e; show f a s = some (p.1, z 0); rw [z0]; exact h1
      | succ i => exact z3 i x e

/-- the contexts of a comprehension's block -/
abbrev BX (X : Cx) (scope : Scope) (s : Shared) (H : Hp) (C : Addr) (cl : List (Str × Addr)) (fp : List Addr) : Cx := X.blk s H scope (compEnvC scope cl C X.env) fp
def wQ (X : Cx) (ifs : List Expr) : TT := fun σ H Q => ∀ pins s, Inv X pins σ H s →
    wpAny (model X.prog X.w) X.A (forIn ifs true fun c r => if r = true then do let ok ← isTrue c X.env (eval c X.env); pure (ForInStep.yield ok) else pure (ForInStep.yield r)) (TP X pins σ Q) X.xe s
theorem wQ_pts {X : Cx} {ifs : List Expr} : PTs X ifs (wQ X ifs) := ⟨fun pins s σ H Q I h => h pins s I⟩
theorem toQ {X : Cx} {ifs : List Expr} {t : TT} {σ H Q} (h : PTs X ifs t) (q : t σ H Q) : wQ X ifs σ H Q := fun pins s I => h.run pins s σ H Q I q
def EvQ (X : Cx) (W : Fx) (ifs : List Expr) (G : Gm) (b : Bool) (G' : Gm) : Prop :=
  Lk (∀ σ F H (Q : Bool → Hp → Prop), Sat W G σ F H → (∀ F' H', Ex F F' → Sat W G' σ F' H' → Q b H') → wQ X ifs σ H Q)
theorem eq_nil {X : Cx} {W : Fx} {G : Gm} : EvQ X W [] G true G := .mk fun σ F H Q S q => toQ pts_nil (q F H (Ex.refl F) S)
theorem eq_one {X : Cx} {W : Fx} {G G1 : Gm} {c : Expr} {b : Bool} (h : EvT X W c G b G1) : EvQ X W [c] G b G1 := .mk fun σ F H Q S q => toQ (pts_one wT_pt) (h.out σ F H Q S q)
section
variable {X : Cx} {scope : Scope}
def bG (X : Cx) (scope : Scope) (tg : Expr) : TG := fun v σ H Q => ∀ s H0 C cl fp, wG (BX X scope s H0 C cl fp) tg v σ H Q
def bE (X : Cx) (scope : Scope) (e : Expr) : TE := fun σ H Q => ∀ s H0 C cl fp, wE (BX X scope s H0 C cl fp) e σ H Q
def bQ (X : Cx) (scope : Scope) (ifs : List Expr) : TT := fun σ H Q => ∀ s H0 C cl fp, wQ (BX X scope s H0 C cl fp) ifs σ H Q
theorem bG_pg {tg : Expr} (s : Shared) (H : Hp) (C : Addr) (cl : List (Str × Addr)) (fp : List Addr) : PG (X.blk s H scope (compEnvC scope cl C X.env) fp) tg (bG X scope tg) := ⟨fun pins s1 σ H1 v u Q I r h => (h s H C cl fp) pins s1 u I r⟩
theorem bE_pe {e : Expr} (s : Shared) (H : Hp) (C : Addr) (cl : List (Str × Addr)) (fp : List Addr) : PE (X.blk s H scope (compEnvC scope cl C X.env) fp) e (bE X scope e) := ⟨fun pins s1 σ H1 Q I h => wE_pe.run pins s1 σ H1 Q I (h s H C cl fp)⟩
theorem bQ_pts {ifs : List Expr} (s : Shared) (H : Hp) (C : Addr) (cl : List (Str × Addr)) (fp : List Addr) : PTs (X.blk s H scope (compEnvC scope cl C X.env) fp) ifs (bQ X scope ifs) := ⟨fun pins s1 σ H1 Q I h => (h s H C cl fp) pins s1 I⟩
end
theorem wipe_so {ss : List Nat} {σ σ' : L2.St} (h : So ss σ σ') : ∀ {vs : List Nat}, (∀ i ∈ ss, i ∈ vs) → wipe σ' vs = wipe σ vs := fun {vs} hv => by
  apply List.ext_getElem?
  intro j
  by_cases hj : j ∈ vs
  · have none_at : ∀ (τ : L2.St), τ.length = σ.length → (wipe τ vs)[j]? = if j < σ.length then some none else none := fun τ hl => by
      by_cases hb : j < σ.length
      · rw [if_pos hb]
        have hlt : j < (wipe τ vs).length := by rw [wipe_length, hl]; exact hb
        rw [List.getElem?_eq_getElem hlt]
        cases q : (wipe τ vs)[j] with
        | none => rfl
        | some x =>
          have e : (wipe τ vs)[j]? = some (some x) := by rw [List.getElem?_eq_getElem hlt, q]
          exact absurd hj (wipe_some e).2
      · rw [if_neg hb]
        exact List.getElem?_eq_none_iff.mpr (by rw [wipe_length, hl]; omega)
    rw [none_at σ' h.1, none_at σ rfl]
  · rw [wipe_out hj, wipe_out hj]
    exact h.2 j fun z => hj (hv j z)
theorem wipe_wipe {σ : L2.St} {vs : List Nat} : wipe (wipe σ vs) vs = wipe σ vs := by
  refine wipe_so (ss := vs) ⟨wipe_length σ vs, fun j hj => wipe_out hj⟩ fun i h => h
/-- the block's own slots forgotten -/
theorem Sat.wipe {W : Fx} {G G' : Gm} {σ σ' : L2.St} {F H : Hp} {vs : List Nat} (S : Sat W G σ F H) (hk : Wk G' G) (hn : ∀ i ∈ vs, ∀ P : Sd, G'[i]? ≠ some (some P)) (hl : σ'.length = σ.length) (ho : ∀ j, j ∉ vs → σ'[j]? = σ[j]?) : Sat W G' σ' F H := by
  have S' := S.wk hk
  refine ⟨hl.trans S'.len, S'.ex, S'.f0, S'.wx, S'.wf, fun i P h => ?_, S'.dj, S'.fr, S'.tt⟩
  obtain ⟨v, h1, h2⟩ := S'.sl i P h
  exact ⟨v, by rw [ho i fun z => hn i z P h]; exact h1, h2⟩
/-- a list outside the slots, told by w -/
def Fx.put (W : Fx) (D : Addr) (o : HO) (F : Hp) : Fx := ⟨upd W.w D o, F, W.tb⟩
theorem Sat.put {W : Fx} {G : Gm} {σ : L2.St} {F H : Hp} {D : Addr} {o : HO} (S : Sat W G σ F H) (hD : H D = none) : Sat (W.put D o F) G σ F (upd H D o) := by
  have S1 := S.newO (o := o) hD
  have nD : ∀ p ∈ W.tb, p.1 ≠ D := fun p hp z => by
    obtain ⟨ps, h⟩ := S.tt.H0 p hp
    rw [z, hD] at h; cases h
  refine ⟨S1.len, S1.ex, Ex.refl F, fun a u h => ?_, fun a h => ?_, S1.sl, S1.dj, fun i P a h m => ?_, S1.tt.go (fun p hp => by show upd W.w D o p.1 = none; rw [upd_ne (nD p hp)]; exact S.tt.w0 p hp) S1.tt.F0 S1.tt.G0 (fun p _ o h => h) fun c q h => h⟩
  · have h' : upd W.w D o a = some u := h
    by_cases z : a = D
    · subst z; rw [upd_same] at h' ⊢; exact h'
    · rw [upd_ne z] at h'; exact S1.wx a u h'
  · have h' : upd W.w D o a ≠ none := h
    by_cases z : a = D
    · subst z; exact .inl (S.ex.back hD)
    · rw [upd_ne z] at h'
      show F a = none ∨ ∃ xs, upd W.w D o a = some (.tup xs)
      rw [upd_ne z]; exact S1.wf a h'
  · obtain ⟨q1, q2, q3⟩ := S.fr i P a h m
    have ne : a ≠ D := fun z => q3 (by rw [z]; exact hD)
    exact ⟨q1, by show upd W.w D o a = none; rw [upd_ne ne]; exact q2, by rw [upd_ne ne]; exact q3⟩
theorem put_none {W : Fx} {G : Gm} {σ : L2.St} {F F0 H : Hp} {D : Addr} {o : HO} (S : Sat (W.put D o F0) G σ F H) (ho : ∀ xs, o ≠ .tup xs) : F D = none := by
  rcases S.wf D (by show upd W.w D o D ≠ none; rw [upd_same]; intro z; cases z) with e | ⟨xs, e⟩
  · exact e
  · have e' : upd W.w D o D = some (.tup xs) := e
    rw [upd_same] at e'; exact absurd (Option.some.inj e') (ho xs)
theorem Sat.reput {W : Fx} {G : Gm} {σ : L2.St} {F F0 H : Hp} {D : Addr} {o o' : HO} (S : Sat (W.put D o F0) G σ F H) (ho : ∀ xs, o ≠ .tup xs := by intro _ z; cases z) : Sat (W.put D o' F0) G σ F (upd H D o') := by
  have hD : F D = none := put_none S ho
  have nf : ∀ (i : Nat) (P : Sd) (a : Addr), G[i]? = some (some P) → a ∈ P.fp → a ≠ D := fun i P a h m z => by
    have := (S.fr i P a h m).2.1
    have h2 : upd W.w D o a = none := this
    rw [z, upd_same] at h2; cases h2
  have nD : ∀ p ∈ W.tb, p.1 ≠ D := fun p hp z => by
    have h : upd W.w D o p.1 = none := S.tt.w0 p hp
    rw [z, upd_same] at h; cases h
  refine ⟨S.len, S.ex.mut hD, S.f0, fun a u h => ?_, fun a h => ?_, fun i P h => ?_, S.dj, fun i P a h m => ?_, S.tt.go (fun p hp => ?_) S.tt.F0 S.tt.G0 (fun p hp o h => by rw [upd_ne (nD p hp)]; exact h) fun c q h => h⟩
  · have h' : upd W.w D o' a = some u := h
    by_cases z : a = D
    · subst z; rw [upd_same] at h' ⊢; exact h'
    · rw [upd_ne z] at h' ⊢; exact S.wx a u (by show upd W.w D o a = some u; rw [upd_ne z]; exact h')
  · have h' : upd W.w D o' a ≠ none := h
    by_cases z : a = D
    · subst z; exact .inl hD
    · rw [upd_ne z] at h'
      have this' : F a = none ∨ ∃ xs, upd W.w D o a = some (.tup xs) := S.wf a (by show upd W.w D o a ≠ none; rw [upd_ne z]; exact h')
      show F a = none ∨ ∃ xs, upd W.w D o' a = some (.tup xs)
      rw [upd_ne z] at this' ⊢; exact this'
  · obtain ⟨v, h1, h2⟩ := S.sl i P h
    exact ⟨v, h1, P.st (Ex.refl F) (fun a m => upd_ne (nf i P a h m)) h2⟩
  · obtain ⟨q1, q2, q3⟩ := S.fr i P a h m
    have ne := nf i P a h m
    have q2' : upd W.w D o a = none := q2
    rw [upd_ne ne] at q2'
    exact ⟨q1, by show upd W.w D o' a = none; rw [upd_ne ne]; exact q2', by rw [upd_ne ne]; exact q3⟩
  · have h : upd W.w D o p.1 = none := S.tt.w0 p hp
    rw [upd_ne (nD p hp)] at h
    show upd W.w D o' p.1 = none
    rw [upd_ne (nD p hp)]; exact h
theorem Sat.unput {W : Fx} {G : Gm} {σ : L2.St} {F F0 H : Hp} {D : Addr} {o : HO} (S : Sat (W.put D o F0) G σ F H) (h0 : Ex W.f0 F0) (hw : W.w D = none) (ho : ∀ xs, o ≠ .tup xs := by intro _ z; cases z) : Sat W G σ F H ∧ H D = some o ∧ F D = none ∧ ∀ (i : Nat) (P : Sd), G[i]? = some (some P) → D ∉ P.fp := by
  refine ⟨⟨S.len, S.ex, h0.trans S.f0, fun a u h => ?_, fun a h => ?_, S.sl, S.dj, fun i P a h m => ?_, S.tt.go (fun p hp => ?_) S.tt.F0 S.tt.G0 (fun p _ o h => h) fun c q h => h⟩, S.wx D o (by show upd W.w D o D = _; rw [upd_same]), put_none S ho, fun i P h m => ?_⟩
  · have ne : a ≠ D := fun z => by rw [z, hw] at h; cases h
    exact S.wx a u (by show upd W.w D o a = some u; rw [upd_ne ne]; exact h)
  · have ne : a ≠ D := fun z => h (by rw [z]; exact hw)
    have this' : F a = none ∨ ∃ xs, upd W.w D o a = some (.tup xs) := S.wf a (by show upd W.w D o a ≠ none; rw [upd_ne ne]; exact h)
    rw [upd_ne ne] at this'; exact this'
  · obtain ⟨q1, q2, q3⟩ := S.fr i P a h m
    have q2' : upd W.w D o a = none := q2
    have ne : a ≠ D := fun z => by rw [z, upd_same] at q2'; cases q2'
    rw [upd_ne ne] at q2'
    exact ⟨q1, q2', q3⟩
  · have h : upd W.w D o p.1 = none := S.tt.w0 p hp
    have ne : p.1 ≠ D := fun z => by rw [z, upd_same] at h; cases h
    rw [upd_ne ne] at h; exact h
  · have q2' : upd W.w D o D = none := (S.fr i P D h m).2.1
    rw [upd_same] at q2'; cases q2'

def NA : List Nat → Gm → Prop
  | [], _ => True
  | i :: is, G => G[i]? = some none ∧ NA is G
theorem NA.at : ∀ {vs : List Nat} {G : Gm}, NA vs G → ∀ i ∈ vs, ∀ P : Sd, G[i]? ≠ some (some P)
  | [], _, _, i, h, _ => nomatch h
  | v :: vs, G, ⟨h1, h2⟩, i, h, P => by
    rcases List.mem_cons.mp h with rfl | h
    · intro z; rw [h1] at z; cases z
    · exact NA.at h2 i h P
/-- the words in the block, behind it, ahead of it -/
inductive W3 : Gm → Gm → Gm → Prop where
  | nil : W3 [] [] []
  | keep {x y : Option Sd} {A B C : Gm} : W3 A B C → W3 (x :: A) (x :: B) (y :: C)
  | back {P : Sd} {A B C : Gm} (h : P.fp = []) : W3 A B C → W3 (none :: A) (some P :: B) (some P :: C)
theorem W3.get : ∀ {A B C : Gm}, W3 A B C → A.length = B.length ∧ B.length = C.length ∧ (∀ (i : Nat) (P : Sd), B[i]? = some (some P) → A[i]? = some (some P) ∨ (P.fp = [] ∧ C[i]? = some (some P))) ∧ ∀ (i : Nat) (P : Sd), A[i]? = some (some P) → B[i]? = some (some P)
  | _, _, _, .nil => ⟨rfl, rfl, (fun i P h => by simp at h), fun i P h => by simp at h⟩
  | _, _, _, .keep t => ⟨by simp [(W3.get t).1], by simp [(W3.get t).2.1], (fun i P h => by
    cases i with
    | zero => exact .inl (by simpa using h)
    | succ i => simpa using (W3.get t).2.2.1 i P (by simpa using h)), fun i P h => by
    cases i with
    | zero => simpa using h
    | succ i => simpa using (W3.get t).2.2.2 i P (by simpa using h)⟩
  | _, _, _, .back hf t => ⟨by simp [(W3.get t).1], by simp [(W3.get t).2.1], (fun i P h => by
    cases i with
    | zero =>
      cases Option.some.inj (Option.some.inj h)
      exact .inr ⟨hf, rfl⟩
    | succ i => simpa using (W3.get t).2.2.1 i P (by simpa using h)), fun i P h => by
    cases i with
    | zero => simp at h
    | succ i => simpa using (W3.get t).2.2.2 i P (by simpa using h)⟩
theorem Sat.behind {W : Fx} {A B C : Gm} {σ σ' : L2.St} {F H F' H' : Hp} {vs : List Nat} (h3 : W3 A B C) (S : Sat W C σ F H) (S' : Sat W A σ' F' H') (hn : NA vs A) (ho : ∀ j, j ∉ vs → σ'[j]? = σ[j]?) (hl : σ'.length = σ.length) (e : Ex F F') : Sat W B σ F' H' := by
  obtain ⟨l1, l2, g1, g2⟩ := h3.get
  have fpA : ∀ (i : Nat) (P : Sd) (a : Addr), B[i]? = some (some P) → a ∈ P.fp → A[i]? = some (some P) := fun i P a h m => by
    rcases g1 i P h with q | ⟨q, _⟩
    · exact q
    · rw [q] at m; exact nomatch m
  refine ⟨S.len.trans l2.symm, S'.ex, S'.f0, S'.wx, S'.wf, fun i P h => ?_, fun i j P Q a h1 h2 m1 m2 => S'.dj i j P Q a (fpA i P a h1 m1) (fpA j Q a h2 m2) m1 m2, fun i P a h m => S'.fr i P a (fpA i P a h m) m, S'.tt.go S'.tt.w0 S'.tt.F0 (fun p hp i P h m => S'.tt.G0 p hp i P (fpA i P _ h m) m) (fun p _ o h => h) fun c q h => h⟩
  rcases g1 i P h with q | ⟨q1, q2⟩
  · obtain ⟨v, k1, k2⟩ := S'.sl i P q
    exact ⟨v, by rw [← ho i fun z => hn.at i z P q]; exact k1, k2⟩
  · obtain ⟨v, k1, k2⟩ := S.sl i P q2
    exact ⟨v, k1, P.st e (fun a m => absurd m (by rw [q1]; exact List.not_mem_nil)) k2⟩

section
variable {X : Cx} {W : Fx} {G G1 : Gm} {elt tg iter : Expr} {ifs : List Expr} {scope : Scope} {own : List (Str × Nat)} {pos : Pos} {α β S : Type} {R : Rp α} {T : Rp β} {as : List α}
/-- a comprehension comes to a new list of bs -/
def LcOk (X : Cx) (W : Fx) (tg iter : Expr) (ifs : List Expr) (elt : Expr) (scope : Scope) (own : List (Str × Nat)) (G : Gm) {β : Type} (T : Rp β) (bs : List β) (G1 : Gm) : Prop :=
  ∃ wi, PI X tg iter wi ∧ X.calm = true ∧ X.N.Nodup ∧ BlkOk X.N X.env.scope scope own ∧ (∀ x, foldedSetIterable iter X.env x = pure x) ∧ ∀ σ F H (Q : VK), Sat W G σ F H → (∀ l F' H', Ex F F' → Sat W G1 σ F' H' → NewO W G1 F' H' (QL l T bs) → Q (.ref l) H') →
    tLc wi (bG X scope tg) (bQ X scope ifs) (bE X scope elt) (own.map (·.2)) σ H Q
theorem eo_lc {bs : List β} {G1 : Gm} (h : LcOk X W tg iter ifs elt scope own G T bs G1) : EvO X W (.ListComp elt [⟨tg, iter, ifs, 0⟩] scope pos) G (fun l => QL l T bs) G1 := .mk fun σ F H Q S q => by
  obtain ⟨wi, h1, h2, h3, h4, h5, h6⟩ := h
  exact toE (pe_lc h2 h3 h1 h4 bG_pg bQ_pts bE_pe h5) (h6 σ F H Q S q)
/-- name = [..] -/
theorem s_newLc {bs : List β} {G1 : Gm} {i : Nat} {n : Str} {py spos : Pos} {rest : List Stmt} {D : Ends} (h : LcOk X W tg iter ifs elt scope own G T bs G1) (hi : X.N[i]? = some n) (hyl : X.env.scope.names.lookup n = some .local)
    (hsw : swapsWith (.ListComp elt [⟨tg, iter, ifs, 0⟩] scope pos) (some (.Name n py)) spos.line X.env = pure true) (q : ∀ l, Tr W (G1.set i (some (Mz.own l (QL l T bs)))) (wS X rest D)) :
    Tr W G (wS X (.Assign [.Name n py] (.ListComp elt [⟨tg, iter, ifs, 0⟩] scope pos) spos :: rest) D) := .mk fun σ F H S => by
  obtain ⟨wi, h1, h2, h3, h4, h5, h6⟩ := h
  refine toS (pss_cons (ps_setLc h2 h3 hi hyl hsw h1 h4 bG_pg bQ_pts bE_pe h5) wS_ps) (h6 σ F H (fun x H1 => (wS X rest D) (σ.set i (some x)) H1) S fun l F' H' e1 S' n1 => ?_)
  exact (q l).out (σ.set i (some (.ref l))) F' H' (S'.set (P := Mz.own l (QL l T bs)) ⟨rfl, n1.1⟩ n1.2)
/-- one turn of a comprehension: item a, in the state s, out comes o, the state then s' -/
def LcTurn (W0 : Fx) (X : Cx) (scope : Scope) (vs : List Nat) (tg : Expr) (ifs : List Expr) (elt : Expr) (Gw : S → Gm) (R : Rp α) (T : Rp β) (a : α) (s : S) (o : Option β) (s' : S) : Prop :=
  ∃ ss G2 G3, (∀ i ∈ ss, i ∈ vs) ∧ (∀ W, W0.lw W → ∀ sh H0 C cl fp, Tg (BX X scope sh H0 C cl fp) W tg ss (Gw s) R a G2) ∧ (∀ W, W0.lw W → ∀ sh H0 C cl fp, EvQ (BX X scope sh H0 C cl fp) W ifs G2 o.isSome G3) ∧
    (o = none → Wk (Gw s') G3) ∧ ∀ b, o = some b → ∃ G4, (∀ W, W0.lw W → ∀ sh H0 C cl fp, Ev (BX X scope sh H0 C cl fp) W elt G3 T b G4) ∧ Wk (Gw s') G4
theorem lk_G {f : α → S → Option (Option β × S)} {s0 : S} {r : List β × S} (Gs Gw : S → Gm) (hsrc : Src X W tg iter G R as G1) (hm : lcG f as s0 = some r) (hN : X.N.Nodup) (ok : BlkOk X.N X.env.scope scope own) (h0 : Gs s0 = G1)
    (hw : ∀ s, Wk (Gw s) (Gs s)) (hv : ∀ s, NA (own.map (·.2)) (Gw s)) (hb : ∀ s s', W3 (Gw s') (Gs s') (Gs s))
    (bd : ∀ a s o s', a ∈ as → f a s = some (o, s') → LcTurn W X scope (own.map (·.2)) tg ifs elt Gw R T a s o s') (hc : X.calm = true := by rfl) (hs : ∀ x, foldedSetIterable iter X.env x = pure x := by intro _; rfl) :
    LcOk X W tg iter ifs elt scope own G T r.1 (Gs r.2) := by
  obtain ⟨z, o, z0, z1, z2, z3⟩ := lcG_get hm
  obtain ⟨wi, hpi, hwi⟩ := hsrc
  refine ⟨wi, hpi, hc, hN, ok, hs, fun σ F H Q S q => hwi σ F H _ S fun J F1 H1 f1 S1 w D hD => ?_⟩
  have wD : W.w D = none := S1.wx.back hD
  have Sg : Sat W (Gs s0) σ F1 H1 := by rw [h0]; exact S1
  -- the state ahead of turn i
  refine ⟨fun i m H => m = as.length - i ∧ i ≤ as.length ∧ ∃ F acc, Ex F1 F ∧ Sat (W.put D (.lst acc) F1) (Gw (z i)) (wipe σ (own.map (·.2))) F H ∧ All2 T F acc (outs o i), ⟨as.length, by simp, Nat.zero_le _, F1, [], Ex.refl F1, ?_, All2.nil⟩, ?_⟩
  · have S2 := Sg.put (o := .lst []) hD
    rw [z0]
    exact S2.wipe (hw s0) (hv s0).at (wipe_length _ _) fun j hj => wipe_out hj
  rintro i m H5 ⟨rfl, hi, F5, acc, e5, S5, A5⟩
  by_cases hlt : i < as.length
  · have ha : as[i]? = some as[i] := List.getElem?_eq_getElem hlt
    refine .inr ⟨w.go i _ F5 H5 e5 S5.ex ha, fun H' => ∃ F acc, Ex F1 F ∧ Sat (W.put D (.lst acc) F1) (Gw (z (i + 1))) (wipe σ (own.map (·.2))) F H' ∧ All2 T F acc (outs o (i + 1)), fun H' ⟨F, acc, k1, k2, k3⟩ => ⟨as.length - (i + 1), by omega, rfl, hlt, F, acc, k1, k2, k3⟩, fun v H6 hy => ?_⟩
    obtain ⟨F6, g1, g2, g3, g4, g5⟩ := w.yld i _ F5 H5 v H6 e5 S5.ex ha hy
    have S6 := S5.stepT g1 g2 g3 g4
    obtain ⟨ss, G2, G3, hss, t1, t2, t3, t4⟩ := bd as[i] (z i) (o i) (z (i + 1)) (List.getElem_mem hlt) (z3 i _ ha)
    have lwp : ∀ {o : HO} {F : Hp}, Ex F1 F → W.lw ⟨upd W.w D o, F, W.tb⟩ := fun {o F} e => ⟨fun a h => by
      by_cases z : a = D
      · rw [z] at h; have h' : upd W.w D o D = none := h; rw [upd_same] at h'; cases h'
      · have h' : upd W.w D o a = none := h; rw [upd_ne z] at h'; exact h', Sg.f0.trans e, rfl⟩
    intro sh H0 C cl fp
    refine (t1 _ (lwp (Ex.refl F1)) sh H0 C cl fp).out _ F6 H6 v _ S6 g5 fun σ7 so S7 => ?_
    have hw7 : wipe σ7 (own.map (·.2)) = wipe σ (own.map (·.2)) := (wipe_so so hss).trans wipe_wipe
    refine ⟨hw7, fun sh H0 C cl fp => (t2 ⟨(W.put D (.lst acc) F1).w, F6, W.tb⟩ (lwp (e5.trans g1)) sh H0 C cl fp).out σ7 F6 H6 _ S7.pin fun F8 H8 e8 S8 => ?_⟩
    have lenw : (wipe σ (own.map (·.2))).length = σ7.length := by rw [so.1]
    have offw : ∀ j, j ∉ own.map (·.2) → (wipe σ (own.map (·.2)))[j]? = σ7[j]? := fun j hj => by rw [← hw7, wipe_out hj]
    have back : ∀ {G8 : Gm} {F8 H8 : Hp}, Sat ⟨(W.put D (.lst acc) F1).w, F6, W.tb⟩ G8 σ7 F8 H8 → Sat (W.put D (.lst acc) F1) G8 σ7 F8 H8 := fun S => S.le ⟨rfl, e5.trans g1, rfl⟩
    cases ho : o i with
    | none =>
      rw [ho] at t3
      show ∃ F acc, _
      refine ⟨F8, acc, (e5.trans g1).trans e8, ((back S8).wipe (t3 rfl) (hv _).at lenw offw), ?_⟩
      rw [outs, ho]
      simpa using A5.mono (g1.trans e8)
    | some b =>
      obtain ⟨G4, t5, t6⟩ := t4 b ho
      show bE X scope elt σ7 H8 _
      intro sh H0 C cl fp
      refine wE_hb ((t5 ⟨(W.put D (.lst acc) F1).w, F8, W.tb⟩ (lwp ((e5.trans g1).trans e8)) sh H0 C cl fp).out σ7 F8 H8 _ S8.pin fun y F9 H9 e9 S9 r9 hb9 => ?_)
      have S9' : Sat (W.put D (.lst acc) F1) G4 σ7 F9 H9 := S9.le ⟨rfl, (e5.trans g1).trans e8, rfl⟩
      have hD9 : H9 D = some (.lst acc) := S9'.wx D _ (by show upd W.w D (.lst acc) D = _; rw [upd_same])
      have few := w.few F9 H9 (((e5.trans g1).trans e8).trans e9) S9'.ex hb9
      refine ⟨acc, hD9, ?_, F9, acc ++ [y], ((e5.trans g1).trans e8).trans e9, ((S9'.reput (o' := .lst (acc ++ [y]))).wipe t6 (hv _).at lenw offw), ?_⟩
      · rw [A5.len]
        have := outs_len o i
        omega
      · rw [outs, ho]
        exact (A5.mono ((g1.trans e8).trans e9)).snoc r9
  · have e : i = as.length := by omega
    subst e
    refine .inl ⟨w.stop _ F5 H5 e5 S5.ex (Nat.le_refl _), ?_⟩
    obtain ⟨S6, u1, u2, u3⟩ := S5.unput Sg.f0 wD
    have S7 : Sat W (Gs r.2) σ F5 H5 := by
      rw [z1] at S6
      exact Sat.behind (hb s0 r.2) Sg S6 (hv _) (fun j hj => wipe_out hj) (wipe_length _ _) e5
    rw [z1] at u3
    have hb3 := (hb s0 r.2).get.2.2.1
    refine q D F5 H5 (f1.trans e5) S7 ⟨⟨acc, u1, by rw [← z2]; exact A5⟩, fun a ha' => ?_⟩
    have e : a = D := List.mem_singleton.mp ha'
    subst e
    refine ⟨u2, wD, (by rw [u1]; intro z; cases z), fun j P hj m => ?_⟩
    rcases hb3 j P hj with k | ⟨k, _⟩
    · exact u3 j P k m
    · rw [k] at m; exact nomatch m

/-! ### the mirror's comprehensions -/
def lcO (f : α → Option β) : List α → Option (List β)
  | [] => some []
  | a :: as => (f a).bind fun b => (lcO f as).bind fun bs => some (b :: bs)
def lcF (f : α → Option (Option β)) : List α → Option (List β)
  | [] => some []
  | a :: as => (f a).bind fun b => (lcF f as).bind fun bs => some (b.toList ++ bs)
def lcS (f : α → S → Option (β × S)) : List α → S → Option (List β × S)
  | [], s => some ([], s)
  | a :: as, s => (f a s).bind fun p => (lcS f as p.2).bind fun q => some (p.1 :: q.1, q.2)
theorem lcG_F {f : α → Option (Option β)} : ∀ {as : List α} {bs : List β}, lcF f as = some bs → lcG (fun a (_ : Unit) => (f a).map fun o => (o, ())) as () = some (bs, ())
  | [], bs, h => by cases h; rfl
  | a :: as, bs, h => by
    obtain ⟨o, h1, h2⟩ := Option.bind_eq_some_iff.mp h
    obtain ⟨cs, h3, h4⟩ := Option.bind_eq_some_iff.mp h2
    cases h4
    show ((f a).map _).bind _ = _
    rw [h1]
    show (lcG _ as ()).bind _ = _
    rw [lcG_F h3]
    rfl
theorem lcF_O {f : α → Option β} : ∀ {as : List α} {bs : List β}, lcO f as = some bs → lcF (fun a => (f a).map some) as = some bs
  | [], bs, h => h
  | a :: as, bs, h => by
    obtain ⟨o, h1, h2⟩ := Option.bind_eq_some_iff.mp h
    obtain ⟨cs, h3, h4⟩ := Option.bind_eq_some_iff.mp h2
    cases h4
    show ((f a).map some).bind _ = _
    rw [h1]
    show (lcF _ as).bind _ = _
    rw [lcF_O h3]
    rfl
theorem lcF_P (p : α → Bool) (g : α → β) : ∀ (as : List α), lcF (fun a => some (if p a = true then some (g a) else none)) as = some ((as.filter p).map g)
  | [] => rfl
  | a :: as => by
    show (lcF _ as).bind _ = _
    rw [lcF_P p g as, List.filter_cons]
    by_cases h : p a = true
    · simp only [h, if_true]; rfl
    · simp only [h, if_false]; rfl
theorem lcF_M (g : α → β) : ∀ (as : List α), lcF (fun a => some (some (g a))) as = some (as.map g)
  | [] => rfl
  | a :: as => by
    show (lcF _ as).bind _ = _
    rw [lcF_M g as]
    rfl
theorem lcG_S {f : α → S → Option (β × S)} : ∀ {as : List α} {s : S} {r : List β × S}, lcS f as s = some r → lcG (fun a s => (f a s).map fun p => (some p.1, p.2)) as s = some r
  | [], s, r, h => h
  | a :: as, s, r, h => by
    obtain ⟨o, h1, h2⟩ := Option.bind_eq_some_iff.mp h
    obtain ⟨cs, h3, h4⟩ := Option.bind_eq_some_iff.mp h2
    cases h4
    show ((f a s).map _).bind _ = _
    rw [h1]
    show (lcG _ as o.2).bind _ = _
    rw [lcG_S h3]
    rfl
/-- no state: with tests -/
theorem lk_F {f : α → Option (Option β)} {bs : List β} (Gw : Gm) (hsrc : Src X W tg iter G R as G1) (hm : lcF f as = some bs) (hN : X.N.Nodup) (ok : BlkOk X.N X.env.scope scope own) (hw : Wk Gw G1) (hv : NA (own.map (·.2)) Gw) (hb : W3 Gw G1 G1)
    (bd : ∀ a o, a ∈ as → f a = some o → LcTurn W X scope (own.map (·.2)) tg ifs elt (fun _ : Unit => Gw) R T a () o ()) (hc : X.calm = true := by rfl) (hs : ∀ x, foldedSetIterable iter X.env x = pure x := by intro _; rfl) :
    LcOk X W tg iter ifs elt scope own G T bs G1 :=
  lk_G (fun _ : Unit => G1) (fun _ => Gw) hsrc (lcG_F hm) hN ok rfl (fun _ => hw) (fun _ => hv) (fun _ _ => hb) (fun a s o s' ha hf => by
    cases q : f a with
    | none => rw [q] at hf; cases hf
    | some o' => rw [q] at hf; cases hf; exact bd a _ ha q) hc hs
theorem lk_O {f : α → Option β} {bs : List β} (Gw : Gm) (hsrc : Src X W tg iter G R as G1) (hm : lcO f as = some bs) (hN : X.N.Nodup) (ok : BlkOk X.N X.env.scope scope own) (hw : Wk Gw G1) (hv : NA (own.map (·.2)) Gw) (hb : W3 Gw G1 G1)
    (bd : ∀ a b, a ∈ as → f a = some b → LcTurn W X scope (own.map (·.2)) tg ifs elt (fun _ : Unit => Gw) R T a () (some b) ()) (hc : X.calm = true := by rfl) (hs : ∀ x, foldedSetIterable iter X.env x = pure x := by intro _; rfl) :
    LcOk X W tg iter ifs elt scope own G T bs G1 :=
  lk_F Gw hsrc (lcF_O hm) hN ok hw hv hb (fun a o ha hf => by
    cases q : f a with
    | none => rw [q] at hf; cases hf
    | some o' => rw [q] at hf; cases hf; exact bd a o' ha q) hc hs
theorem lk_P (p : α → Bool) (g : α → β) (Gw : Gm) (hsrc : Src X W tg iter G R as G1) (hN : X.N.Nodup) (ok : BlkOk X.N X.env.scope scope own) (hw : Wk Gw G1) (hv : NA (own.map (·.2)) Gw) (hb : W3 Gw G1 G1)
    (bd : ∀ a, a ∈ as → LcTurn W X scope (own.map (·.2)) tg ifs elt (fun _ : Unit => Gw) R T a () (if p a = true then some (g a) else none) ()) (hc : X.calm = true := by rfl) (hs : ∀ x, foldedSetIterable iter X.env x = pure x := by intro _; rfl) :
    LcOk X W tg iter ifs elt scope own G T ((as.filter p).map g) G1 :=
  lk_F Gw hsrc (lcF_P p g as) hN ok hw hv hb (fun a o ha hf => by cases hf; exact bd a ha) hc hs
theorem lk_M (g : α → β) (Gw : Gm) (hsrc : Src X W tg iter G R as G1) (hN : X.N.Nodup) (ok : BlkOk X.N X.env.scope scope own) (hw : Wk Gw G1) (hv : NA (own.map (·.2)) Gw) (hb : W3 Gw G1 G1)
    (bd : ∀ a, a ∈ as → LcTurn W X scope (own.map (·.2)) tg ifs elt (fun _ : Unit => Gw) R T a () (some (g a)) ()) (hc : X.calm = true := by rfl) (hs : ∀ x, foldedSetIterable iter X.env x = pure x := by intro _; rfl) :
    LcOk X W tg iter ifs elt scope own G T (as.map g) G1 :=
  lk_F Gw hsrc (lcF_M g as) hN ok hw hv hb (fun a o ha hf => by cases hf; exact bd a ha) hc hs
theorem lk_S {f : α → S → Option (β × S)} {s0 : S} {r : List β × S} (Gs Gw : S → Gm) (hsrc : Src X W tg iter G R as G1) (hm : lcS f as s0 = some r) (hN : X.N.Nodup) (ok : BlkOk X.N X.env.scope scope own) (h0 : Gs s0 = G1)
    (hw : ∀ s, Wk (Gw s) (Gs s)) (hv : ∀ s, NA (own.map (·.2)) (Gw s)) (hb : ∀ s s', W3 (Gw s') (Gs s') (Gs s))
    (bd : ∀ a s b s', a ∈ as → f a s = some (b, s') → LcTurn W X scope (own.map (·.2)) tg ifs elt Gw R T a s (some b) s') (hc : X.calm = true := by rfl) (hs : ∀ x, foldedSetIterable iter X.env x = pure x := by intro _; rfl) :
    LcOk X W tg iter ifs elt scope own G T r.1 (Gs r.2) :=
  lk_G Gs Gw hsrc (lcG_S hm) hN ok h0 hw hv hb (fun a s o s' ha hf => by
    cases q : f a s with
    | none => rw [q] at hf; cases hf
    | some o2 =>
      obtain ⟨b, t⟩ := o2
      rw [q] at hf
      have e := Option.some.inj hf
      have e1 : some b = o := congrArg Prod.fst e
      have e2 : t = s' := congrArg Prod.snd e
      subst e1; subst e2
      exact bd a s b t ha q) hc hs
end
/-- a turn without tests -/
theorem turn0 {W0 : Fx} {X : Cx} {scope : Scope} {vs : List Nat} {tg elt : Expr} {α β S : Type} {Gw : S → Gm} {R : Rp α} {T : Rp β} {a : α} {s s' : S} {b : β} (ss : List Nat) (G2 G4 : Gm) (h1 : ∀ i ∈ ss, i ∈ vs) (h2 : ∀ W, W0.lw W → ∀ sh H0 C cl fp, Tg (BX X scope sh H0 C cl fp) W tg ss (Gw s) R a G2)
    (h3 : ∀ W, W0.lw W → ∀ sh H0 C cl fp, Ev (BX X scope sh H0 C cl fp) W elt G2 T b G4) (h4 : Wk (Gw s') G4) : LcTurn W0 X scope vs tg [] elt Gw R T a s (some b) s' :=
  ⟨ss, G2, G2, h1, h2, (fun _ _ _ _ _ _ _ => eq_nil), (fun e => nomatch e), fun b' e => ⟨G4, by cases e; exact h3, h4⟩⟩
/-- a turn with a test -/
theorem turn1 {W0 : Fx} {X : Cx} {scope : Scope} {vs : List Nat} {tg elt c : Expr} {α β S : Type} {Gw : S → Gm} {R : Rp α} {T : Rp β} {a : α} {s s' : S} {o : Option β} {k : Bool} (ss : List Nat) (G2 G4 : Gm) (h1 : ∀ i ∈ ss, i ∈ vs) (h2 : ∀ W, W0.lw W → ∀ sh H0 C cl fp, Tg (BX X scope sh H0 C cl fp) W tg ss (Gw s) R a G2)
    (hc : ∀ W, W0.lw W → ∀ sh H0 C cl fp, EvT (BX X scope sh H0 C cl fp) W c G2 k G2) (hk : k = o.isSome) (h3 : ∀ b, o = some b → ∀ W, W0.lw W → ∀ sh H0 C cl fp, Ev (BX X scope sh H0 C cl fp) W elt G2 T b G4) (h4 : Wk (Gw s') G2) (h5 : Wk (Gw s') G4) : LcTurn W0 X scope vs tg [c] elt Gw R T a s o s' :=
  ⟨ss, G2, G2, h1, h2, (fun W hl sh H0 C cl fp => eq_one (hk ▸ hc W hl sh H0 C cl fp)), (fun _ => h4), fun b e => ⟨G4, h3 b e, h5⟩⟩
end Mz

namespace Mz
open PySem PySem.Spec PyProof.Rows L2

/-! ### small words for the printed proofs -/
theorem lt_get {α β : Type} {a : α} {k : α → Option β} {r : β} (h : lt a k = some r) : ∃ y, a = y ∧ k y = some r := ⟨a, rfl, h⟩
def gd (b : Bool) : Option Unit := if b = true then some () else none
theorem gd_of {b : Bool} {u : Unit} (h : gd b = some u) : b = true := by
  unfold gd at h
  split at h
  · assumption
  · cases h
structure Cal (P : Program) (w : World) (K : PySem.W.Frag) (mg : Str → Option Value) (base : Heap) (n : Str) (k : Nat) (f : Addr) (fd : FuncData) (ps : List Str) (sp : Sp) : Prop where
  fn : FnOk P w K mg base CX0 k f fd ps sp
  g : mg n = some (.ref f)
  kp : PySem.W.keepIn K (.ref f) = true
  b : Binds K fd ps []
/-- what is kept and is no record of its own -/
def Kd (K : PySem.W.Frag) (v : V) : Prop := ∀ p, v = .ref p → ∃ o, K.lookup p = some o ∧ o.dict = none
/-- a module's constant -/
structure Gc {α : Type} (K : PySem.W.Frag) (mg : Str → Option Value) (n : Str) (R : Rp α) (x : α) : Prop where
  ex : ∃ (u : Value) (v : V), mg n = some u ∧ RelV v u ∧ (∀ F, R.r F v x) ∧ Kd K v
section
variable {X : Cx} {W : Fx} {G G1 : Gm} {e a b : Expr} {es : List Expr} {α β : Type} {R : Rp α} {T : Rp β} {x y : α} {pos p : Pos} {D : Ends} {rest : List Stmt} {n : Str} {i : Nat}
theorem EvO.eqL {xs ys : List α} (h : EvO X W e G (fun l => QL l R xs) G1) (q : xs = ys) : EvO X W e G (fun l => QL l R ys) G1 := q ▸ h
theorem EvO.eqS {K : Rs α} {xs ys : α} (h : EvO X W e G (fun l => QS l K xs) G1) (q : xs = ys) : EvO X W e G (fun l => QS l K ys) G1 := q ▸ h
theorem LcOk.eq {tg iter elt : Expr} {ifs : List Expr} {scope : Scope} {own : List (Str × Nat)} {xs ys : List α} (h : LcOk X W tg iter ifs elt scope own G R xs G1) (q : xs = ys) : LcOk X W tg iter ifs elt scope own G R ys G1 := q ▸ h
theorem Op2.eq {f : Value → Value → Sem Value} {β γ : Type} {T : Rp β} {t : β} {U : Rp γ} {z z' : γ} (h : Op2 X f R x T t U z) (q : z = z') : Op2 X f R x T t U z' := q ▸ h
theorem ew_eq {k l : Bool} (h : EvW X W e G k G1) (q : k = l) : EvW X W e G l G1 := q ▸ h
theorem iop2_mulO {i j k : Int} (h : mulO i j = some k) : Op2 X (inplaceOp .Mult) RI i RI j RI k := by
  unfold mulO at h
  split at h
  · rename_i c
    cases h
    exact op2_I iop_mulZ (mulOk_int c)
  · cases h
theorem s_aug {γ : Type} {op : Operator} {U : Rp γ} {z : γ} {t : β} {spos p' : Pos} (ho : Op2 X (inplaceOp op) R x T t U z) (hN : X.N.Nodup) (hi : X.N[i]? = some n) (hx : Loc X.env.scope n) (hG : G[i]? = some (some (imm R x))) (he : Ev X W e G T t G1)
    (q : Tr W (G1.set i (some (imm U z))) (wS X rest D)) (hf : X.fn n = true ∨ X.env.scope.names.lookup n = some .local := by first | exact .inl rfl | exact .inr rfl) : Tr W G (wS X (.AugAssign (.Name n p') op e spos :: rest) D) := .mk fun σ F H S => by
  obtain ⟨rr, h1, h2⟩ := ho
  obtain ⟨v, g1, g2⟩ := S.slI hG
  exact toS (pss_cons (ps_aug hN hi hx wE_pe h1 hf) wS_ps) ⟨v, g1, he.out σ F H _ S fun u F1 H1 e1 S1 r1 => h2 F1 H1 v u _ S1.ex (R.mono e1 g2) r1 fun w rw => q.out (σ.set i (some w)) F1 H1 (S1.setI rw)⟩
/-- None or not -/
def NN (R : Rp α) : Prop := ∀ F v a, R.r F v a → v ≠ .non
theorem nn_I : NN RI := fun F v a h z => by rw [show v = V.int a from h] at z; cases z
theorem nn_B : NN RB := fun F v a h z => by rw [show v = V.bl a from h] at z; cases z
theorem nn_S : NN RS := fun F v a h z => by rw [show v = V.str a from h] at z; cases z
theorem nn_T {K : PySem.W.Frag} {T : Rs α} : NN (RT K T) := fun F v a h z => by obtain ⟨p, vs, e, _⟩ := h; rw [e] at z; cases z
theorem nn_L {K : PySem.W.Frag} : NN (RL K R) := fun F v a h z => by obtain ⟨p, vs, e, _⟩ := h; rw [e] at z; cases z
theorem nn_V {K : PySem.W.Frag} : NN (RV K R) := fun F v a h z => by obtain ⟨p, vs, e, _⟩ := h; rw [e] at z; cases z
theorem ev_some (hn : NN R) (h : Ev X W e G R x G1) : Ev X W e G (RO R) (some x) G1 := .mk fun σ F H Q S q => h.out σ F H Q S fun v F' H' e S' r => q v F' H' e S' ⟨r, hn F' v x r⟩
theorem ev_unsome {o : Option α} (ho : o = some x) (h : Ev X W e G (RO R) o G1) : Ev X W e G R x G1 := .mk fun σ F H Q S q => h.out σ F H Q S fun v F' H' e S' r => q v F' H' e S' (by subst ho; exact r.1)
theorem et_isNno {j} {p'} (hn : NN R) (ha : Ev X W a G R x G1) : EvT X W (.Compare a [.Is] [.Constant .none j p'] pos) G false G1 := et_isN (ev_some hn ha)
theorem et_isNNyes {j} {p'} (hn : NN R) (ha : Ev X W a G R x G1) : EvT X W (.Compare a [.IsNot] [.Constant .none j p'] pos) G true G1 := et_isNN (ev_some hn ha)
theorem ev_isNno {j} {p'} (hn : NN R) (ha : Ev X W a G R x G1) : Ev X W (.Compare a [.Is] [.Constant .none j p'] pos) G RB false G1 := ev_isN (ev_some hn ha)
theorem ev_isNNyes {j} {p'} (hn : NN R) (ha : Ev X W a G R x G1) : Ev X W (.Compare a [.IsNot] [.Constant .none j p'] pos) G RB true G1 := ev_isNN (ev_some hn ha)
/-- a module's constant as a value -/
theorem ev_glob {c : α} (hG : Gc X.K X.mg n R c) (hg : Gl X n := by rfl) (hd : (n == ("__debug__" : Str)) = false := by decide) : Ev X W (.Name n pos) G R c G := .mk fun σ F H Q S q => by
  obtain ⟨u, v, h1, h2, h3, _⟩ := hG.ex
  exact toE (pe_glob hg h1 h2 hd) (q v F H (Ex.refl F) S (h3 F))
/-- a return within a loop -/
theorem ld_ret {S ρ : Type} {W : Fx} {Gs : S → Gm} {Or : ρ → Sd → Prop} {Outs : ρ → List Sd} {c : Ctl S ρ} {q : ρ} {v : V} {H : Hp} {W0 : Fx} (l : W0.le W) (e : some (Ctl.ret q) = some c) (h : Rt W Or Outs q v H) : (LD W Gs (Rt W0 Or Outs) c).rt v H := ⟨q, (Option.some.inj e).symm, h.le l⟩
/-- a return of a new list -/
theorem s_retE {ρ : Type} {R : Rp α} {Outs : ρ → List Sd} {q : ρ} {as : List α} {Or : ρ → Sd → Prop} (hr : ∀ v H, Rt W Or Outs q v H → D.rt v H) (he : EvO X W e G (fun l => QL l R as) G1) (ho : Outs q = []) (hO : ∀ l, Or q (own l (QL l R as))) : Tr W G (wS X (.Return (some e) pos :: rest) D) := .mk fun σ F H S =>
  toS (pss_cons (ps_ret wE_pe) wS_ps) (he.out σ F H _ S fun l F' H' e1 S' n1 => by
    refine hr _ H' ⟨own l (QL l R as), F', [], hO l, ?_⟩
    rw [ho]
    refine ⟨rfl, S'.ex, S'.f0, S'.wx, S'.wf, fun j P hj => ?_, fun j k P Q a hj hk m1 m2 => ?_, fun j P a hj m => ?_, S'.tt.go S'.tt.w0 S'.tt.F0 (fun p hp j P hj m => ?_) (fun p _ o h => h) fun c q h => h⟩
    · cases j with
      | zero => cases Option.some.inj (Option.some.inj hj); exact ⟨_, rfl, rfl, n1.1⟩
      | succ j => cases j <;> exact nomatch hj
    · cases j with
      | zero =>
        cases k with
        | zero => rfl
        | succ k => cases k <;> exact nomatch hk
      | succ j => cases j <;> exact nomatch hj
    · cases j with
      | zero =>
        cases Option.some.inj (Option.some.inj hj)
        obtain ⟨c1, c2, c3, _⟩ := n1.2 a m
        exact ⟨c1, c2, c3⟩
      | succ j => cases j <;> exact nomatch hj
    · cases j with
      | zero =>
        cases Option.some.inj (Option.some.inj hj)
        obtain ⟨ps, z⟩ := S'.tt.H0 p hp
        exact Sd.nB (P := own l (QL l R as)) (v := .ref l) ⟨rfl, n1.1⟩ _ m ps z
      | succ j => cases j <;> exact nomatch hj)
end
theorem isS_if {β : Type} (p : Bool) (b : β) : p = (if p = true then some b else none).isSome := by cases p <;> rfl
theorem isS_eq {β : Type} {p : Bool} {x b : β} (h : (if p = true then some x else none) = some b) : x = b := by
  cases p
  · cases h
  · exact Option.some.inj h
theorem isS_F {β : Type} {p : Bool} {m : Option (Option β)} {o : Option β} (h : (if p = true then m else some none) = some o) (g : m = some o → ∃ b, o = some b) : p = o.isSome := by
  cases p
  · have := Option.some.inj h; subst this; rfl
  · obtain ⟨b, rfl⟩ := g h; rfl
theorem isS_G {β : Type} {p : Bool} {m : Option (Option β)} {b : β} (h : (if p = true then m else some none) = some (some b)) : m = some (some b) := by
  cases p
  · exact nomatch Option.some.inj h
  · exact h
end Mz

namespace Mz
open PySem PySem.Spec PyProof.Rows L2

/-! ### is True; isinstance; repr -/
section
variable {X : Cx} {W : Fx} {G G1 G2 : Gm} {e a b : Expr} {es : List Expr} {α β : Type} {R : Rp α} {T : Rp β} {x : α} {y : β} {pos p p2 : Pos} {D : Ends} {rest : List Stmt} {n : Str} {i : Nat}
/-- a value of this kind is no bool, and is told from a bool by what it is -/
def NB (R : Rp α) : Prop := ∀ F v a, R.r F v a → ∀ (k : Bool) (u : Value), RelV v u → plainIs u (.bool k) = true ∧ u ≠ .bool k
theorem nb_I : NB RI := fun F v a h k u r => by
  rw [show v = V.int a from h] at r; obtain ⟨t, rfl⟩ := r; exact ⟨rfl, fun z => nomatch z⟩
theorem nb_S : NB RS := fun F v a h k u r => by
  rw [show v = V.str a from h] at r; obtain ⟨t, rfl⟩ := r; exact ⟨rfl, fun z => nomatch z⟩
theorem nb_U : NB RU := fun F v a h k u r => by
  rw [show v = V.non from h] at r; cases (show u = Value.none from r); exact ⟨rfl, fun z => nomatch z⟩
theorem nb_ref {v : V} {q : Addr} (h : v = .ref q) : ∀ (k : Bool) (u : Value), RelV v u → plainIs u (.bool k) = true ∧ u ≠ .bool k := fun k u r => by
  rw [h] at r; cases (show u = Value.ref q from r); exact ⟨rfl, fun z => nomatch z⟩
theorem nb_L {K : PySem.W.Frag} : NB (RL K R) := fun F v a h => by obtain ⟨q, vs, e, _⟩ := h; exact nb_ref e
theorem nb_V {K : PySem.W.Frag} : NB (RV K R) := fun F v a h => by obtain ⟨q, vs, e, _⟩ := h; exact nb_ref e
theorem nb_T {K : PySem.W.Frag} {T : Rs α} : NB (RT K T) := fun F v a h => by obtain ⟨q, vs, e, _⟩ := h; exact nb_ref e
theorem op_isNb {P : V → Prop} (h : ∀ v, P v → ∀ (k : Bool) (u : Value), RelV v u → plainIs u (.bool k) = true ∧ u ≠ .bool k) : OpR X (compareOp .Is) (fun x y H Q => P x ∧ ∃ k, y = .bl k ∧ Q (.bl false) H) := by
  intro pins s σ H x y v u Q I rx ry hq
  obtain ⟨hp, k, rfl, q⟩ := hq
  cases (show u = Value.bool k from ry)
  obtain ⟨h1, h2⟩ := h x hp k v rx
  exact wpAny_is_other h1 h2 ⟨.bl false, H, I, rfl, q⟩
theorem is_nb {k : Bool} (h : NB R) : Op2 X (compareOp .Is) R x RB k RB false := ⟨_, op_isNb (P := fun v => ∃ F, R.r F v x) fun v ⟨F, hv⟩ => h F v x hv, fun F H v u Q _ r1 r2 q => ⟨⟨F, r1⟩, k, r2, q _ rfl⟩⟩
theorem is_b {j k : Bool} : Op2 X (compareOp .Is) RB j RB k RB (decide (j = k)) := ⟨_, op_isBl, fun F H v u Q _ r1 r2 q => ⟨j, k, r1, r2, q _ rfl⟩⟩
theorem et_isU {j} {p'} (ha : Ev X W a G RU () G1) : EvT X W (.Compare a [.Is] [.Constant .none j p'] pos) G true G1 := et_isN (R := RI) (o := none) ha.none
theorem ev_isU {j} {p'} (ha : Ev X W a G RU () G1) : Ev X W (.Compare a [.Is] [.Constant .none j p'] pos) G RB true G1 := ev_isN (R := RI) (o := none) ha.none
theorem et_is {c : Bool} (ho : Op2 X (compareOp .Is) R x T y RB c) (ha : Ev X W a G R x G1) (hb : Ev X W b G1 T y G2) (hm : behindInMarks .Is b = false := by first | exact nomark _ | rfl) : EvT X W (.Compare a [.Is] [b] pos) G c G2 := et_cmp ho ha hb hm
theorem ev_is {c : Bool} (ho : Op2 X (compareOp .Is) R x T y RB c) (ha : Ev X W a G R x G1) (hb : Ev X W b G1 T y G2) (hm : behindInMarks .Is b = false := by first | exact nomark _ | rfl) : Ev X W (.Compare a [.Is] [b] pos) G RB c G2 := ev_cmp ho ha hb hm

/-- the built-in type of a kind of data -/
def TyR (K : PySem.W.Frag) (R : Rp α) (t : String) : Prop := ∀ F H v a, Ex F H → R.r F v a → TyX K H v (.type t)
variable {K : PySem.W.Frag}
theorem ty_I : TyR K RI "int" := fun F H v a _ h => by rw [show v = V.int a from h]; exact .base (.int a)
theorem ty_B : TyR K RB "bool" := fun F H v a _ h => by rw [show v = V.bl a from h]; exact .base (.bl a)
theorem ty_S : TyR K RS "str" := fun F H v a _ h => by rw [show v = V.str a from h]; exact .base (.str a)
theorem ty_U : TyR K RU "NoneType" := fun F H v a _ h => by rw [show v = V.non from h]; exact .base .non
theorem ty_sql {H : Hp} {q : Addr} {vs : List V} (h : SqL K H q vs) : TyX K H (.ref q) (.type "list") := by
  rcases h with (h | ⟨o, h⟩) | ⟨o, its, n, h1, h2, _⟩
  · exact .base (.lst h)
  · exact .base (.frz h)
  · exact .kList h1 h2
theorem ty_sqt {H : Hp} {q : Addr} {vs : List V} (h : SqT K H q vs) : TyX K H (.ref q) (.type "tuple") := by
  rcases h with (h | ⟨o, h⟩) | ⟨o, its, n, h1, h2, _⟩
  · exact .base (.tup h)
  · exact .fTuple h
  · exact .kTuple h1 h2
theorem ty_L : TyR K (RL K R) "list" := fun F H v a e h => by obtain ⟨q, vs, rfl, h1, _⟩ := h; exact ty_sql (ex_sql e h1)
theorem ty_V : TyR K (RV K R) "tuple" := fun F H v a e h => by obtain ⟨q, vs, rfl, h1, _⟩ := h; exact ty_sqt (ex_sqt e h1)
theorem ty_T {T : Rs α} : TyR K (RT K T) "tuple" := fun F H v a e h => by obtain ⟨q, vs, rfl, h1, _⟩ := h; exact ty_sqt (ex_sqt e h1)
/-- isinstance(a, T), T a built-in type by its name -/
theorem ev_isi {t T : String} {k : Bool} (hm : X.mg "isinstance" = none) (hT : X.mg n = none) (hv : bootBuiltins n = some (.type T)) (ht : TyR X.K R t) (hk : kitB t T = some k) (ha : Ev X W a G R x G1) (hg : Gl X "isinstance" := by rfl) (hg2 : Gl X n := by rfl)
    (hn : n ≠ "__name__" := by decide) (hdb : (n == ("__debug__" : Str)) = false := by decide) (hs : starEach [a, .Name n p2] X.env = (false, eval a X.env) :: starEach [.Name n p2] X.env := by rfl) (hs2 : starEach [.Name n p2] X.env = (false, eval (.Name n p2) X.env) :: starEach [] X.env := by rfl) :
    Ev X W (.Call (.Name "isinstance" p) [a, .Name n p2] [] pos) G RB k G1 := .mk fun σ F H Q S q =>
  toE (pe_callB call_isi hg hm (by decide +kernel) (pa_cons wE_pe (pa_cons (pe_bltn hg2 hT hv (v := .ty T) rfl hn hdb) pa_nil hs2) hs) (by decide) (by decide) hs (by rw [hs2]; rfl)) (ha.out σ F H _ S fun v F' H' e S' r =>
    ⟨v, .ty T, .type t, .type T, k, rfl, .ty T, ht F' H' v x S'.ex r, kit_ty hk, q _ F' H' e S' rfl⟩)
theorem call_repr_str : CallR X (.builtin "repr") (fun xs H Q => ∃ z : Str, xs = [.str z] ∧ (reprText z).length ≤ sizeLine ∧ Q (.str (reprText z)) H) := by
  intro pins s σ H xs us Q I r h
  obtain ⟨z, rfl, hz, q⟩ := h
  obtain ⟨u, rfl, t, rfl⟩ := vals1 r
  exact PySem.P.repr_of_str ⟨.str _, H, I.tok _, ⟨_, rfl⟩, q⟩ hz
theorem ev_reprI {i : Int} (h : i.natAbs.log2 < 1920) (hm : X.mg "repr" = none) (ha : Ev X W a G RI i G1) (hg : Gl X "repr" := by rfl) (hs : starEach [a] X.env = (false, eval a X.env) :: starEach [] X.env := by rfl) : Ev X W (.Call (.Name "repr" p) [a] [] pos) G RS (toString i) G1 :=
  ev_cb1 SkE.call_repr_int hm (by decide +kernel) ha (fun F H v Q e r q => ⟨i, by rw [show v = V.int i from r], h, q _ rfl⟩) hg (by decide) (by decide) hs
theorem ev_reprS {i : Str} (h : (reprText i).length ≤ sizeLine) (hm : X.mg "repr" = none) (ha : Ev X W a G RS i G1) (hg : Gl X "repr" := by rfl) (hs : starEach [a] X.env = (false, eval a X.env) :: starEach [] X.env := by rfl) : Ev X W (.Call (.Name "repr" p) [a] [] pos) G RS (reprText i) G1 :=
  ev_cb1 call_repr_str hm (by decide +kernel) ha (fun F H v Q e r q => ⟨i, by rw [show v = V.str i from r], h, q _ rfl⟩) hg (by decide) (by decide) hs
end

/-! ### data of any kind -/
inductive Da where
  | non | bl (b : Bool) | int (i : Int) | str (s : Str) | tup (ds : List Da) | lst (ds : List Da)
def scD (v : V) : Da → Prop
  | .non => v = .non
  | .bl b => v = .bl b
  | .int i => v = .int i
  | .str s => v = .str s
  | _ => False
def rD (K : PySem.W.Frag) : Nat → Hp → V → Da → Prop
  | 0, _, v, d => scD v d
  | n + 1, F, v, d => match d with
    | .tup ds => ∃ p vs, v = .ref p ∧ SqT K F p vs ∧ Paired (fun v d => rD K n F v d) vs ds
    | .lst ds => ∃ p vs, v = .ref p ∧ Rl F p vs ∧ Paired (fun v d => rD K n F v d) vs ds
    | d => scD v d
theorem rD_mono {K : PySem.W.Frag} : ∀ (n : Nat) {F F' : Hp} {v : V} {d : Da}, Ex F F' → rD K n F v d → rD K n F' v d
  | 0, _, _, _, _, _, h => h
  | n + 1, F, F', v, d, e, h => by
    cases d with
    | tup ds =>
      obtain ⟨p, vs, h1, h2, h3⟩ := h
      exact ⟨p, vs, h1, ex_sqt e h2, Paired.mapP h3 fun _ _ q => rD_mono n e q⟩
    | lst ds =>
      obtain ⟨p, vs, h1, h2, h3⟩ := h
      exact ⟨p, vs, h1, ex_rl e h2, Paired.mapP h3 fun _ _ q => rD_mono n e q⟩
    | non => exact h
    | bl b => exact h
    | int i => exact h
    | str s => exact h
def RD (K : PySem.W.Frag) (n : Nat) : Rp Da := ⟨rD K n, fun e h => rD_mono n e h⟩
theorem rD_sc {K : PySem.W.Frag} {n : Nat} {F : Hp} {v : V} {d : Da} (h : rD K n F v d) : scD v d ∨ ∃ ds, d = .tup ds ∨ d = .lst ds := by
  cases d with
  | tup ds => exact .inr ⟨ds, .inl rfl⟩
  | lst ds => exact .inr ⟨ds, .inr rfl⟩
  | non => cases n <;> exact .inl h
  | bl b => cases n <;> exact .inl h
  | int i => cases n <;> exact .inl h
  | str s => cases n <;> exact .inl h
theorem rD_up {K : PySem.W.Frag} : ∀ {n : Nat} {F : Hp} {v : V} {d : Da}, rD K n F v d → rD K (n + 1) F v d
  | 0, F, v, d, h => by
    cases d with
    | tup ds => exact False.elim h
    | lst ds => exact False.elim h
    | non => exact h
    | bl b => exact h
    | int i => exact h
    | str s => exact h
  | n + 1, F, v, d, h => by
    cases d with
    | tup ds =>
      obtain ⟨p, vs, h1, h2, h3⟩ := h
      exact ⟨p, vs, h1, h2, Paired.mapP h3 fun _ _ q => rD_up q⟩
    | lst ds =>
      obtain ⟨p, vs, h1, h2, h3⟩ := h
      exact ⟨p, vs, h1, h2, Paired.mapP h3 fun _ _ q => rD_up q⟩
    | non => exact h
    | bl b => exact h
    | int i => exact h
    | str s => exact h
theorem rD_le {K : PySem.W.Frag} {n m : Nat} {F : Hp} {v : V} {d : Da} (h : rD K n F v d) (l : n ≤ m) : rD K m F v d := by
  induction l with
  | refl => exact h
  | step _ ih => exact rD_up ih
/-- ints and texts that repr tells -/
def fit : Nat → Da → Prop
  | _, .int i => i.natAbs.log2 < 1920
  | _, .str s => (reprText s).length ≤ sizeLine
  | n + 1, .tup ds => ∀ d ∈ ds, fit n d
  | n + 1, .lst ds => ∀ d ∈ ds, fit n d
  | _, _ => True
theorem fit_up : ∀ {n : Nat} {d : Da}, (∀ F K v, rD K n F v d → True) → fit n d → (∃ K F v, rD K n F v d) → fit (n + 1) d
  | n, .int i, _, h, _ => by cases n <;> exact h
  | n, .str s, _, h, _ => by cases n <;> exact h
  | n, .non, _, _, _ => by cases n <;> exact True.intro
  | n, .bl b, _, _, _ => by cases n <;> exact True.intro
  | 0, .tup ds, _, _, ⟨K, F, v, q⟩ => False.elim q
  | 0, .lst ds, _, _, ⟨K, F, v, q⟩ => False.elim q
  | n + 1, .tup ds, _, h, ⟨K, F, v, p, vs, h1, h2, h3⟩ => fun d hd => by
    obtain ⟨i, hi⟩ := List.getElem?_of_mem hd
    obtain ⟨w, _, hw⟩ := p2_get h3 hi
    exact fit_up (fun _ _ _ _ => trivial) (h d hd) ⟨K, F, w, hw⟩
  | n + 1, .lst ds, _, h, ⟨K, F, v, p, vs, h1, h2, h3⟩ => fun d hd => by
    obtain ⟨i, hi⟩ := List.getElem?_of_mem hd
    obtain ⟨w, _, hw⟩ := p2_get h3 hi
    exact fit_up (fun _ _ _ _ => trivial) (h d hd) ⟨K, F, w, hw⟩

/-- typed data as data of any kind -/
structure Emb {α : Type} (K : PySem.W.Frag) (R : Rp α) (n : Nat) (ok : α → Prop) where
  e : α → Da
  r : ∀ F v a, R.r F v a → rD K n F v (e a)
  k : ∀ a, ok a → ∀ m, n ≤ m → fit m (e a)
section
variable {K : PySem.W.Frag} {α β : Type} {R : Rp α} {T : Rp β} {n m : Nat} {ok : α → Prop} {ok' : β → Prop}
def okI (i : Int) : Prop := i.natAbs.log2 < 1920
def okS (s : Str) : Prop := (reprText s).length ≤ sizeLine
def okY {α : Type} (_ : α) : Prop := True
def okO (ok : α → Prop) (o : Option α) : Prop := ∀ a, o = some a → ok a
def okP (ok : α → Prop) (ok' : β → Prop) (p : α × β) : Prop := ok p.1 ∧ ok' p.2
def okL (ok : α → Prop) (l : List α) : Prop := ∀ a ∈ l, ok a
def em_I : Emb K RI 0 okI := ⟨Da.int, fun F v a h => h, fun a h m _ => by cases m <;> exact h⟩
def em_B : Emb K RB 0 okY := ⟨Da.bl, fun F v a h => h, fun a h m _ => by cases m <;> exact True.intro⟩
def em_S : Emb K RS 0 okS := ⟨Da.str, fun F v a h => h, fun a h m _ => by cases m <;> exact h⟩
def em_U : Emb K RU 0 okY := ⟨fun _ => Da.non, fun F v a h => h, fun a h m _ => by cases m <;> exact True.intro⟩
def em_O (E : Emb K R n ok) : Emb K (RO R) n (okO ok) := ⟨fun o => match o with | none => .non | some a => E.e a, fun F v o h => by
  cases o with
  | none =>
    have e : v = .non := h
    subst e
    cases n <;> rfl
  | some a => exact E.r F v a h.1, fun o h m l => by
  cases o with
  | none => cases m <;> exact True.intro
  | some a => exact E.k a (h a rfl) m l⟩
def em_L (E : Emb K R n ok) : Emb K (RL K R) (n + 1) (okL ok) := ⟨fun l => .lst (l.map E.e), fun F v l h => by
  obtain ⟨p, vs, h1, h2, h3⟩ := h
  refine ⟨p, vs, h1, h2, ?_⟩
  have h3' : Paired (fun v a => R.r F v a) vs l := h3
  clear h1 h2 h3
  induction h3' with
  | nil => exact .nil
  | cons r t ih => exact .cons (E.r _ _ _ r) ih, fun l h m hm => by
  cases m with
  | zero => exact absurd hm (Nat.not_succ_le_zero n)
  | succ m =>
    intro d hd
    obtain ⟨a, ha, rfl⟩ := List.mem_map.mp hd
    exact E.k a (h a ha) m (Nat.le_of_succ_le_succ hm)⟩
def em_V (E : Emb K R n ok) : Emb K (RV K R) (n + 1) (okL ok) := ⟨fun l => .tup (l.map E.e), fun F v l h => by
  obtain ⟨p, vs, h1, h2, h3⟩ := h
  refine ⟨p, vs, h1, h2, ?_⟩
  have h3' : Paired (fun v a => R.r F v a) vs l := h3
  clear h1 h2 h3
  induction h3' with
  | nil => exact .nil
  | cons r t ih => exact .cons (E.r _ _ _ r) ih, fun l h m hm => by
  cases m with
  | zero => exact absurd hm (Nat.not_succ_le_zero n)
  | succ m =>
    intro d hd
    obtain ⟨a, ha, rfl⟩ := List.mem_map.mp hd
    exact E.k a (h a ha) m (Nat.le_of_succ_le_succ hm)⟩
structure Emr {α : Type} (K : PySem.W.Frag) (T : Rs α) (n : Nat) (ok : α → Prop) where
  e : α → List Da
  r : ∀ F vs a, T.r F vs a → Paired (fun v d => rD K n F v d) vs (e a)
  k : ∀ a, ok a → ∀ m, n ≤ m → ∀ d ∈ e a, fit m d
def em_one (E : Emb K R n ok) : Emr K (R1 R) n ok := ⟨fun a => [E.e a], fun F vs a h => by
  obtain ⟨v, rfl, h2⟩ := h
  exact .cons (E.r F v a h2) .nil, fun a h m hm d hd => by
  rw [List.mem_singleton.mp hd]
  exact E.k a h m hm⟩
def em_cons {S : Rs β} (E : Emb K R n ok) (Es : Emr K S m ok') : Emr K (RC R S) (max n m) (okP ok ok') := ⟨fun a => E.e a.1 :: Es.e a.2, fun F vs a h => by
  obtain ⟨v, ws, rfl, h2, h3⟩ := h
  exact .cons (rD_le (E.r F v _ h2) (Nat.le_max_left n m)) (Paired.mapP (Es.r F ws _ h3) fun _ _ q => rD_le q (Nat.le_max_right n m)), fun a h k hk d hd => by
  rcases List.mem_cons.mp hd with rfl | hd
  · exact E.k a.1 h.1 k (by omega)
  · exact Es.k a.2 h.2 k (by omega) d hd⟩
def em_T {S : Rs α} (Es : Emr K S n ok) : Emb K (RT K S) (n + 1) ok := ⟨fun a => .tup (Es.e a), fun F v a h => by
  obtain ⟨p, vs, h1, h2, h3⟩ := h
  exact ⟨p, vs, h1, h2, Es.r F vs a h3⟩, fun a h m hm => by
  cases m with
  | zero => exact absurd hm (Nat.not_succ_le_zero n)
  | succ m => exact fun d hd => Es.k a h m (Nat.le_of_succ_le_succ hm) d hd⟩
end
open Classical in
/-- _law_same's word: alike data -/
noncomputable def sameO {α : Type} (ok : α → Prop) (a b : α) : Option Bool := if a = b ∧ ok b then some true else none
theorem sameO_of {α : Type} {ok : α → Prop} {a b : α} (h : a = b) (k : ok b) : sameO ok a b = some true := by
  unfold sameO; rw [if_pos ⟨h, k⟩]
theorem sameO_get {α : Type} {ok : α → Prop} {a b : α} {t : Bool} (h : sameO ok a b = some t) : a = b ∧ ok b ∧ t = true := by
  unfold sameO at h
  split at h
  · rename_i c
    exact ⟨c.1, c.2, (Option.some.inj h).symm⟩
  · cases h
def sp_same (n : Nat) (K : PySem.W.Frag) : Sp := fun vs H Qk _ => ∃ (d : Da) (W : Fx) (F : Hp), fit n d ∧ Sat W (([imm (RD K n) d, imm (RD K n) d] : List Sd).map some) (vs.map some) F H ∧ ∀ v H', Rt W (Imm RB) (fun _ => []) true v H' → Qk v H'
theorem ev_same {X : Cx} {W : Fx} {G G1 G2 : Gm} {e1 e2 : Expr} {pos p : Pos} {n : Str} {k N : Nat} {f : Addr} {fd : FuncData} {ps : List Str} {α : Type} {R : Rp α} {a b : α} {t : Bool} {m : Nat} {ok : α → Prop} (E : Emb X.K R m ok) (hmN : m ≤ N) (h : sameO ok a b = some t)
    (Fn : FnOk X.prog X.w X.K X.mg X.base CX0 k f fd ps (sp_same N X.K)) (hr : Room k X.A) (hm : X.mg n = some (.ref f)) (hk : PySem.W.keepIn X.K (.ref f) = true) (hb : Binds X.K fd ps []) (ha : Ev X W e1 G R a G1) (hb2 : Ev X W e2 G1 R b G2) (hg : Gl X n := by rfl)
    (hdb : (n == ("__debug__" : Str)) = false := by decide) (he : starEach [e1, e2] X.env = (false, eval e1 X.env) :: starEach [e2] X.env := by rfl) (he2 : starEach [e2] X.env = (false, eval e2 X.env) :: starEach [] X.env := by rfl) :
    Ev X W (.Call (.Name n p) [e1, e2] [] pos) G RB t G2 := by
  obtain ⟨h1, h2, h3⟩ := sameO_get h
  subst h1; subst h3
  have ra : Ev X W e1 G (RD X.K N) (E.e a) G1 := ha.as fun F v r => rD_le (E.r F v a r) hmN
  have rb : Ev X W e2 G1 (RD X.K N) (E.e a) G2 := hb2.as fun F v r => rD_le (E.r F v a r) hmN
  exact ev_call Fn hr hm hk hb (ea_cons ra (ea_cons rb ea_nil he2) he) (fun vs H Qk W' F' _ S q => ⟨E.e a, W', F', E.k a h2 N hmN, S, q⟩) hg hdb he (by rw [he2]; rfl)
end Mz
namespace Mz
open PySem PySem.Spec PyProof.Rows L2
/-- a list in a slot is no longer than a list may be -/
theorem s_lenL {X : Cx} {W : Fx} {G : Gm} {α : Type} {R : Rp α} {as : List α} {st : List Stmt} {D : Ends} (i : Nat) (hG : G[i]? = some (some (imm (RL X.K R) as))) (q : (as.length : Int) ≤ 16777216 → Tr W G (wS X st D)) : Tr W G (wS X st D) := .mk fun σ F H S pins s I => by
  obtain ⟨v, _, p, vs, _, h1, h2⟩ := S.slI hG
  have := hb_of I p vs (.inl (ex_sql S.ex h1))
  rw [h2.len, sizeLine_eq] at this
  exact (q (by omega)).out σ F H S pins s I
theorem s_lenV {X : Cx} {W : Fx} {G : Gm} {α : Type} {R : Rp α} {as : List α} {st : List Stmt} {D : Ends} (i : Nat) (hG : G[i]? = some (some (imm (RV X.K R) as))) (q : (as.length : Int) ≤ 16777216 → Tr W G (wS X st D)) : Tr W G (wS X st D) := .mk fun σ F H S pins s I => by
  obtain ⟨v, _, p, vs, _, h1, h2⟩ := S.slI hG
  have := hb_of I p vs (.inr (ex_sqt S.ex h1))
  rw [h2.len, sizeLine_eq] at this
  exact (q (by omega)).out σ F H S pins s I
end Mz

namespace Mz
open PySem PySem.Spec PyProof.Rows L2

/-! ### data that == tells apart -/
theorem ex_sqk {K : PySem.W.Frag} {H H' : Hp} {a : Addr} {xs : List V} (e : Ex H H') (h : SqL K H a xs) : SqL K H' a xs := by
  rcases h with h | h
  · exact .inl (ex_rl e h)
  · exact .inr h
theorem ex_dp {K : PySem.W.Frag} {H H' : Hp} (e : Ex H H') : ∀ {v : V} {d : PyData}, Dp K H v d → Dp K H' v d := by
  intro v d h
  refine Dp.rec (motive_1 := fun v d _ => Dp K H' v d) (motive_2 := fun vs ds _ => DpAll K H' vs ds) .non (fun b => .bl b) (fun i => .int i) (fun x => .str x) (fun s _ ih => .lst (ex_sqk e s) ih) (fun s _ ih => .tup (ex_sqt e s) ih) .nil (fun _ _ i1 i2 => .cons i1 i2) h
structure Dd {α : Type} (K : PySem.W.Frag) (R : Rp α) where
  e : α → PyData
  r : ∀ F v a, R.r F v a → Dp K F v (e a)
  q : ∀ a b, PyData.eqv (e a) (e b) = true ↔ a = b
  c : ∀ a, (e a).canLay0 = true
  n : Nat
  d : ∀ a, (e a).depth ≤ n
structure Dr {α : Type} (K : PySem.W.Frag) (T : Rs α) where
  e : α → List PyData
  r : ∀ F vs a, T.r F vs a → DpAll K F vs (e a)
  q : ∀ a b, PyData.eqvAll (e a) (e b) = true ↔ a = b
  c : ∀ a, PyData.canLayAll0 (e a) = true
  n : Nat
  d : ∀ a, PyData.depthAll (e a) ≤ n
section
variable {K : PySem.W.Frag} {α β : Type} {R : Rp α} {T : Rp β}
def d_I : Dd K RI := ⟨PyData.int, fun F v a h => by rw [show v = V.int a from h]; exact .int a, fun a b => by simp [PyData.eqv], fun a => by simp [PyData.canLay0], 0, fun a => by simp [PyData.depth]⟩
def d_B : Dd K RB := ⟨PyData.bool, fun F v a h => by rw [show v = V.bl a from h]; exact .bl a, fun a b => by simp [PyData.eqv], fun a => by simp [PyData.canLay0], 0, fun a => by simp [PyData.depth]⟩
def d_O (D : Dd K R) (hn : ∀ a, PyData.eqv .none (D.e a) = false ∧ PyData.eqv (D.e a) .none = false) : Dd K (RO R) := ⟨fun o => match o with | none => .none | some a => D.e a, fun F v o h => by
  cases o with
  | none => rw [show v = V.non from h]; exact .non
  | some a => exact D.r F v a h.1, fun a b => by
  cases a with
  | none => cases b with
    | none => simp [PyData.eqv]
    | some b => simp [(hn b).1]
  | some a => cases b with
    | none => simp [(hn a).2]
    | some b => simp [D.q], fun a => by
  cases a with
  | none => simp [PyData.canLay0]
  | some a => exact D.c a, D.n, fun a => by
  cases a with
  | none => simp [PyData.depth]
  | some a => exact D.d a⟩
def d_one (D : Dd K R) : Dr K (R1 R) := ⟨fun a => [D.e a], fun F vs a h => by obtain ⟨v, rfl, h2⟩ := h; exact .cons (D.r F v a h2) .nil, fun a b => by simp [PyData.eqvAll, D.q], fun a => by simp [PyData.canLayAll0, D.c], D.n, fun a => by simp [PyData.depthAll, D.d]⟩
def d_cons {S : Rs β} (D : Dd K R) (E : Dr K S) : Dr K (RC R S) := ⟨fun a => D.e a.1 :: E.e a.2, fun F vs a h => by obtain ⟨v, ws, rfl, h2, h3⟩ := h; exact .cons (D.r F v _ h2) (E.r F ws _ h3), fun a b => by
  obtain ⟨a1, a2⟩ := a
  obtain ⟨b1, b2⟩ := b
  simp [PyData.eqvAll, D.q, E.q], fun a => by simp [PyData.canLayAll0, D.c, E.c], max D.n E.n, fun a => by
  have h1 := D.d a.1
  have h2 := E.d a.2
  simp only [PyData.depthAll]
  omega⟩
def d_T {S : Rs α} (E : Dr K S) : Dd K (RT K S) := ⟨fun a => .tuple (E.e a), fun F v a h => by obtain ⟨p, vs, rfl, h1, h2⟩ := h; exact .tup h1 (E.r F vs a h2), fun a b => by simp [PyData.eqv, E.q], fun a => by simp [PyData.canLay0, E.c], E.n + 1, fun a => by simp [PyData.depth, E.d]⟩
theorem dpAll_of {F : Hp} (D : Dd K R) {vs : List V} {as : List α} (h : All2 R F vs as) : DpAll K F vs (as.map D.e) := by
  have h' : Paired (fun v a => R.r F v a) vs as := h
  clear h
  induction h' with
  | nil => exact .nil
  | cons r t ih => exact .cons (D.r F _ _ r) ih
theorem eqvAll_map (D : Dd K R) : ∀ (as bs : List α), PyData.eqvAll (as.map D.e) (bs.map D.e) = true ↔ as = bs
  | [], [] => by simp [PyData.eqvAll]
  | [], b :: bs => by simp [PyData.eqvAll]
  | a :: as, [] => by simp [PyData.eqvAll]
  | a :: as, b :: bs => by simp [PyData.eqvAll, D.q, eqvAll_map D as bs]
theorem canAll_map (D : Dd K R) : ∀ (as : List α), PyData.canLayAll0 (as.map D.e) = true
  | [] => by simp [PyData.canLayAll0]
  | a :: as => by simp [PyData.canLayAll0, D.c, canAll_map D as]
theorem depAll_map (D : Dd K R) : ∀ (as : List α), PyData.depthAll (as.map D.e) ≤ D.n
  | [] => by simp [PyData.depthAll]
  | a :: as => by
    have h1 := D.d a
    have h2 := depAll_map D as
    simp only [List.map_cons, PyData.depthAll]
    omega
def d_L (D : Dd K R) : Dd K (RL K R) := ⟨fun l => .list (l.map D.e), fun F v l h => by obtain ⟨p, vs, rfl, h1, h2⟩ := h; exact .lst (.inl h1) (dpAll_of D h2), fun a b => by simp [PyData.eqv, eqvAll_map], fun a => by simp [PyData.canLay0, canAll_map], D.n + 1, fun a => by simp [PyData.depth, depAll_map]⟩
def d_V (D : Dd K R) : Dd K (RV K R) := ⟨fun l => .tuple (l.map D.e), fun F v l h => by obtain ⟨p, vs, rfl, h1, h2⟩ := h; exact .tup h1 (dpAll_of D h2), fun a b => by simp [PyData.eqv, eqvAll_map], fun a => by simp [PyData.canLay0, canAll_map], D.n + 1, fun a => by simp [PyData.depth, depAll_map]⟩
theorem Dd.sh (D : Dd K R) (h : D.n ≤ 64) (a : α) : SeqAt.shaped (D.e a) = true := by
  unfold SeqAt.shaped
  rw [D.c a, decide_eq_true (Nat.le_trans (D.d a) h)]
  rfl
end
section
variable {X : Cx} {W : Fx} {G G1 G2 : Gm} {e a b c : Expr} {es : List Expr} {α β : Type} {R : Rp α} {T : Rp β} {x : α} {y : β} {pos p p2 : Pos} {D : Ends} {rest : List Stmt} {n : Str} {i : Nat} {k : Nat}
theorem room64 (hr : Room k X.A) : X.A.units + 65 < cLine := by have := hr.un; omega
theorem cmp_eqD {x y : α} [inst : Decidable (x = y)] (E : Dd X.K R) (hr : Room k X.A) (h : E.n ≤ 64) : Cmp X .Eq R x R y (decide (x = y)) := ⟨_, op_eqD (by have := room64 hr; omega), fun F H v u Q e r1 r2 q => ⟨E.e x, E.e y, ex_dp e (E.r F v x r1), ex_dp e (E.r F u y r2), E.sh h x, E.sh h y, q _ (by
  show V.bl _ = V.bl _
  congr 1
  rw [Bool.eq_iff_iff, E.q, decide_eq_true_iff])⟩⟩
theorem cmp_neD {x y : α} [inst : Decidable (x = y)] (E : Dd X.K R) (hr : Room k X.A) (h : E.n ≤ 64) : Cmp X .NotEq R x R y (!decide (x = y)) := ⟨_, op_neD (by have := room64 hr; omega), fun F H v u Q e r1 r2 q => ⟨E.e x, E.e y, ex_dp e (E.r F v x r1), ex_dp e (E.r F u y r2), E.sh h x, E.sh h y, q _ (by
  show V.bl _ = V.bl _
  congr 2
  rw [Bool.eq_iff_iff, E.q, decide_eq_true_iff])⟩⟩
theorem any_eqv {K : PySem.W.Frag} {R : Rp α} (E : Dd K R) (xs : List α) (x : α) [inst : Decidable (x ∈ xs)] : ((xs.map E.e).any fun z => PyData.eqv z (E.e x)) = decide (x ∈ xs) := by
  rw [Bool.eq_iff_iff, List.any_eq_true, decide_eq_true_iff]
  constructor
  · rintro ⟨z, h1, h2⟩
    obtain ⟨w, h3, rfl⟩ := List.mem_map.mp h1
    rw [← (E.q w x).mp h2]; exact h3
  · intro h
    exact ⟨E.e x, List.mem_map.mpr ⟨x, h, rfl⟩, (E.q x x).mpr rfl⟩
theorem cmp_inL {xs : List α} [inst : Decidable (x ∈ xs)] (E : Dd X.K R) (hr : Room k X.A) (h : E.n < 64) : Cmp X .In R x (RL X.K R) xs (decide (x ∈ xs)) := ⟨_, op_inD (room64 hr), fun F H v u Q e r1 r2 q => ⟨E.e x, xs.map E.e, ex_dp e (E.r F v x r1), ex_dp e ((d_L E).r F u xs r2), E.sh (by omega) x, (d_L E).sh (by show E.n + 1 ≤ 64; omega) xs, q _ (by
  show V.bl _ = V.bl _
  rw [any_eqv])⟩⟩
theorem cmp_ninL {xs : List α} [inst : Decidable (x ∈ xs)] (E : Dd X.K R) (hr : Room k X.A) (h : E.n < 64) : Cmp X .NotIn R x (RL X.K R) xs (!decide (x ∈ xs)) := ⟨_, op_notInD (room64 hr), fun F H v u Q e r1 r2 q => ⟨E.e x, xs.map E.e, ex_dp e (E.r F v x r1), ex_dp e ((d_L E).r F u xs r2), E.sh (by omega) x, (d_L E).sh (by show E.n + 1 ≤ 64; omega) xs, q _ (by
  show V.bl _ = V.bl _
  rw [any_eqv])⟩⟩
/-- l.index(x) -/
def idxO {α : Type} [DecidableEq α] (xs : List α) (x : α) : Option Int := match xs.findIdx? (fun y => decide (y = x)) with
  | some j => some (j : Int)
  | none => none
theorem ev_index [DecidableEq α] {xs : List α} {j : Int} {apos cpos : Pos} (E : Dd X.K R) (hr : Room k X.A) (hE : E.n < 64) (h : idxO xs x = some j) (ha : Ev X W a G (RL X.K R) xs G1) (hb : Ev X W b G1 R x G2) (hbase : attributeBase a "index" X.env (eval a X.env) = eval a X.env := by rfl)
    (hfew : ((backTo cpos (starEach [b] X.env)).all (fun x => !x.1) && (backToKw cpos (keywordEach [] X.env)).all (fun x => x.1.isSome)
      && decide ([b].length + ([] : List Keyword).length + (if ([] : List Keyword).isEmpty then 0 else 1) < 30)) = true := by rfl)
    (hline : (apos.endLine == cpos.line) = true := by rfl) (hs : starEach [b] X.env = (false, eval b X.env) :: starEach [] X.env := by rfl) :
    Ev X W (.Call (.Attribute a "index" apos) [b] [] cpos) G RI j G2 := .mk fun σ F H Q S q =>
  toE (pe_bm PySem.F.plainAttrs_list PySem.F.slot_list_index PySem.F.type_list_index (mt_indexD (room64 hr)) wE_pe (pa_cons wE_pe pa_nil hs) hbase hfew hline hs (by rfl)) (ha.out σ F H _ S fun v F1 H1 e1 S1 r1 => by
    obtain ⟨pa, vs, rfl, h1, h2⟩ := r1
    refine ⟨.inl ⟨rfl, vs, ?_⟩, hb.out σ F1 H1 _ S1 fun u F2 H2 e2 S2 r2 => ?_⟩
    · exact ex_sql S1.ex h1
    · unfold idxO at h
      cases hf : xs.findIdx? (fun y => decide (y = x)) with
      | none => rw [hf] at h; cases h
      | some m =>
        rw [hf] at h
        cases h
        obtain ⟨hm, hx, hno⟩ := List.findIdx?_eq_some_iff_getElem.mp hf
        refine ⟨pa, u, E.e x, xs.map E.e, m, E.e xs[m], rfl, rfl, .lst (ex_sql (e2.trans S2.ex) h1) (by
          have := dpAll_of E (h2.mono (e2.trans S2.ex))
          exact this), ex_dp S2.ex (E.r F2 u x r2), (d_L E).sh (by show E.n + 1 ≤ 64; omega) xs, E.sh (by omega) x, ?_, (E.q _ _).mpr (of_decide_eq_true hx), fun l z hl hz => ?_, ?_⟩
        · rw [List.getElem?_map, List.getElem?_eq_getElem hm]; rfl
        · rw [List.getElem?_map] at hz
          have hl' : l < xs.length := Nat.lt_trans hl hm
          rw [List.getElem?_eq_getElem hl'] at hz
          cases hz
          have := hno l hl
          cases q2 : PyData.eqv (E.e xs[l]) (E.e x) with
          | false => rfl
          | true =>
            have := (E.q _ _).mp q2
            simp [this] at *
        · exact q _ F2 H2 (e1.trans e2) S2 rfl)

/-! ### more of lists -/
theorem rl_obj {pins : List (Addr × Obj)} {s : Shared} {σ : L2.St} {H : Hp} {l : Addr} {xs : List V} (I : Inv X pins σ H s) (h : Rl H l xs) : xs.length ≤ sizeLine ∧ ∃ (its : List Value) (n : Nat), Vals xs its ∧ xs.length = its.length ∧ s.heap.get? l = some { cls := .type "list", data := .seq its.toArray n } := by
  obtain ⟨z, its, n, r, e⟩ := h.ok I.hok
  exact ⟨z, its, n, r, r.length, e⟩
theorem op_catS : OpR X (binaryOp .Add) (fun x y H Q => ∃ l b xs zs, x = .ref l ∧ y = .ref b ∧ Rl H l xs ∧ Rl H b zs ∧ xs.length + zs.length ≤ sizeLine ∧ ∀ p, H p = none → Q (.ref p) (upd H p (.lst (xs ++ zs)))) := by
  intro pins s σ H x y v u Q I rx ry h
  obtain ⟨l, b, xs, zs, rfl, rfl, hH, hB, hz, q⟩ := h
  cases rx
  cases ry
  obtain ⟨z, its, n, r, hl, e⟩ := rl_obj I hH
  obtain ⟨z2, its2, n2, r2, hl2, e2⟩ := rl_obj I hB
  refine PySem.P.add_list e e2 ?_ (by rw [List.size_toArray, List.size_toArray]; omega)
  have ea : its.toArray ++ its2.toArray = (its ++ its2).toArray := by simp
  rw [ea]
  exact ⟨.ref _, _, I.lnew (t' := s.toks) (r.append r2) (by rw [List.length_append]; omega), rfl, q _ I.fresh⟩
def addO {α : Type} (xs ys : List α) : Option (List α) := if xs.length + ys.length ≤ 16000000 then some (xs ++ ys) else none
theorem eo_addL {xs ys zs : List α} (h : addO xs ys = some zs) (ha : Ev X W a G (RL X.K R) xs G1) (hb : Ev X W b G1 (RL X.K R) ys G2) : EvO X W (.BinOp a .Add b pos) G (fun l => QL l R zs) G2 := .mk fun σ F H Q S q => by
  unfold addO at h
  split at h
  · rename_i hlen
    cases h
    refine toE (pe_op op_catS wE_pe wE_pe) (two ha hb S fun v u F' H' e S' r1 r2 => ?_)
    obtain ⟨p1, vs, rfl, h1, h2⟩ := r1
    obtain ⟨p2, ws, rfl, h3, h4⟩ := r2
    refine ⟨p1, p2, vs, ws, rfl, rfl, ex_rl S'.ex h1, ex_rl S'.ex h3, by rw [h2.len, h4.len, sizeLine_eq]; omega, fun l hl => ?_⟩
    obtain ⟨s1, s2⟩ := NewO.list S' hl (h2.app h4)
    exact q l F' _ e s1 s2
  · cases h
theorem mt_extendS : MtM X "list.extend" (fun x vs H Q => ∃ l b xs zs, x = .ref l ∧ vs = [.ref b] ∧ H l = some (.lst xs) ∧ Rl H b zs ∧ xs.length + zs.length ≤ sizeLine ∧ Q .non (upd H l (.lst (xs ++ zs)))) := by
  intro pins s σ H x vs v us Q I rx rv h
  obtain ⟨l, b, xs, zs, rfl, rfl, hH, hB, hz, q⟩ := h
  cases rx
  obtain ⟨u, rfl, ru⟩ := rv.one
  cases ru
  obtain ⟨z, its, n, r, hl, e⟩ := I.lstM hH
  obtain ⟨z2, its2, n2, r2, hl2, e2⟩ := rl_obj I hB
  have hsz : its.toArray.size + its2.toArray.size ≤ sizeLine := by rw [List.size_toArray, List.size_toArray]; omega
  have hlong : ¬ (!its.toArray.isEmpty && Builtin.List.listTooLong (its.toArray.size + its2.toArray.size)) = true := by
    rw [notLongL hsz, Bool.and_false]
    exact Bool.false_ne_true
  refine call_meets F.slot_list_extend ⟨_, e, rfl⟩ F.entry_list_extend (F.args_list_extend_2 _ _)
    (AutoSeq1.list_extend_list_list_0 l its.toArray n b its2.toArray n2 hlong (by rw [List.size_toArray]; omega) (by omega)) ⟨e, e2, ?_⟩
  refine ⟨.non, _, I.lset (its' := its ++ its2) hH e (by simp) (r.append r2) ?_, rfl, q⟩
  rw [List.length_append]
  omega
/-- x.extend(e) -/
theorem s_ext {as bs cs : List α} {l : Addr} {apos cpos spos p0 : Pos} (hO : addO as bs = some cs) (hN : X.N[i]? = some n) (hv : Vis X.env.scope n) (hG : G[i]? = some (some (own l (QL l R as)))) (he : Ev X W e G (RL X.K R) bs G1) (hG1 : G1[i]? = some (some (own l (QL l R as))))
    (q : Tr W (G1.set i (some (own l (QL l R cs)))) (wS X rest D)) (hs : starEach [e] X.env = (false, eval e X.env) :: starEach [] X.env := by rfl) (hbase : attributeBase (.Name n p0) "extend" X.env (eval (.Name n p0) X.env) = eval (.Name n p0) X.env := by rfl)
    (hfew : ((backTo cpos (starEach [e] X.env)).all (fun x => !x.1) && (backToKw cpos (keywordEach [] X.env)).all (fun x => x.1.isSome)
      && decide ([e].length + ([] : List Keyword).length + (if ([] : List Keyword).isEmpty then 0 else 1) < 30)) = true := by rfl)
    (hline : (apos.endLine == cpos.line) = true := by rfl) (hd : (n == ("__debug__" : Str)) = false := by decide) (hcd : (n == ("__classdict__" : Str)) = false := by decide)
    (hsw : swapsWith (.Call (.Attribute (.Name n p0) "extend" apos) [e] [] cpos) none spos.line X.env = pure false := by rfl) :
    Tr W G (wS X (.Expr (.Call (.Attribute (.Name n p0) "extend" apos) [e] [] cpos) spos :: rest) D) := .mk fun σ F H S => by
  obtain ⟨v, h1, rfl, vs, h2, h3⟩ := S.sl i _ hG
  unfold addO at hO
  split at hO
  · rename_i hlen
    cases hO
    refine toS (pss_cons (ps_expr (pe_bm PySem.F.plainAttrs_list PySem.F.slot_list_extend PySem.F.type_list_extend mt_extendS (pe_var hN hv hd hcd) (pa_cons wE_pe pa_nil hs) hbase hfew hline hs (by rfl)) hsw) wS_ps) ?_
    refine ⟨.ref l, h1, .inl ⟨rfl, vs, .inl (.inl h2)⟩, he.out σ F H _ S fun w F1 H1 e1 S1 r1 => ?_⟩
    obtain ⟨v', k1, k2, vs', k3, k4⟩ := S1.sl i _ hG1
    obtain ⟨p1, ws, rfl, h5, h6⟩ := r1
    refine ⟨l, p1, vs', ws, rfl, rfl, k3, ex_rl S1.ex h5, by rw [k4.len, h6.len, sizeLine_eq]; omega, ?_⟩
    exact q.out σ F1 _ (S1.mut hG1 (fun a ha => upd_ne fun z => ha (by rw [z]; exact List.mem_singleton.mpr rfl)) ⟨vs' ++ ws, upd_same, k4.app h6⟩ fun a ha => ⟨ha, by rw [List.mem_singleton.mp ha, upd_same]; intro z; cases z⟩)
  · cases hO
/-- slices of lists -/
def EvP (X : Cx) (W : Fx) (o : Option Expr) (G : Gm) (x : Option Int) (G' : Gm) : Prop :=
  ∃ t : TO, PO X o t ∧ ∀ σ F H (Q : Option Int → Hp → Prop), Sat W G σ F H → (∀ F' H', Ex F F' → Sat W G' σ F' H' → Q x H') → t σ H Q
theorem eo_none : EvP X W none G none G := ⟨_, po_none, fun σ F H Q S q => q F H (Ex.refl F) S⟩
theorem eo_some {j : Int} (h : Ev X W e G RI j G1) : EvP X W (some e) G (some j) G1 := ⟨_, po_some wE_pe, fun σ F H Q S q => h.out σ F H _ S fun v F' H' e' S' r => ⟨j, r, q F' H' e' S'⟩⟩
def cutL {α : Type} (xs : List α) (lo hi : Option Int) : List α := (xs.drop (HT.sIx xs.length 0 lo)).take (HT.sIx xs.length xs.length hi - HT.sIx xs.length 0 lo)
theorem eo_slice {xs : List α} {lo hi : Option Expr} {l h : Option Int} (ha : Ev X W a G (RL X.K R) xs G1) (hl : EvP X W lo G1 l G2) {G3 : Gm} (hh : EvP X W hi G2 h G3) : EvO X W (.Subscript a (.Slice lo hi none p2) pos) G (fun q => QL q R (cutL xs l h)) G3 := .mk fun σ F H Q S q => by
  obtain ⟨t1, p1, k1⟩ := hl
  obtain ⟨t2, p2', k2⟩ := hh
  refine toE (pe_slice sl_list wE_pe p1 p2') (ha.out σ F H _ S fun v F1 H1 e1 S1 r1 => k1 σ F1 H1 _ S1 fun F2 H2 e2 S2 => k2 σ F2 H2 _ S2 fun F3 H3 e3 S3 => ?_)
  obtain ⟨pa, vs, rfl, h1, h2⟩ := r1
  have e := e2.trans e3
  refine ⟨pa, vs, rfl, ex_sql (e.trans S3.ex) h1, fun w hw => ?_⟩
  have h2' := h2.mono e
  have : All2 R F3 (cutV vs l h) (cutL xs l h) := by
    unfold cutV cutL
    rw [h2.len]
    exact (h2'.drop _).take _
  obtain ⟨s1, s2⟩ := NewO.list S3 hw this
  exact q w F3 _ ((e1.trans e)) s1 s2
/-- list(xs) -/
theorem eo_listL {xs : List α} (hm : X.mg "list" = none) (ha : Ev X W a G (RL X.K R) xs G1) (hg : Gl X "list" := by rfl) (hs : starEach [a] X.env = (false, eval a X.env) :: starEach [] X.env := by rfl) : EvO X W (.Call (.Name "list" p) [a] [] pos) G (fun l => QL l R xs) G1 := .mk fun σ F H Q S q =>
  toE (pe_callTy call_list_of hg hm (by decide +kernel) (pa_cons wE_pe pa_nil hs) (by decide) (by decide) hs rfl) (ha.out σ F H _ S fun v F' H' e S' r1 => by
    obtain ⟨pa, vs, rfl, h1, h2⟩ := r1
    refine ⟨pa, vs, rfl, .inl (ex_sql S'.ex h1), fun l hl => ?_⟩
    obtain ⟨s1, s2⟩ := NewO.list S' hl h2
    exact q l F' _ e s1 s2)
theorem eo_listV {xs : List α} (hm : X.mg "list" = none) (ha : Ev X W a G (RV X.K R) xs G1) (hg : Gl X "list" := by rfl) (hs : starEach [a] X.env = (false, eval a X.env) :: starEach [] X.env := by rfl) : EvO X W (.Call (.Name "list" p) [a] [] pos) G (fun l => QL l R xs) G1 := .mk fun σ F H Q S q =>
  toE (pe_callTy call_list_of hg hm (by decide +kernel) (pa_cons wE_pe pa_nil hs) (by decide) (by decide) hs rfl) (ha.out σ F H _ S fun v F' H' e S' r1 => by
    obtain ⟨pa, vs, rfl, h1, h2⟩ := r1
    refine ⟨pa, vs, rfl, .inr (ex_sqt S'.ex h1), fun l hl => ?_⟩
    obtain ⟨s1, s2⟩ := NewO.list S' hl h2
    exact q l F' _ e s1 s2)
/-- lists of ints, of bools -/
theorem all2_I {F : Hp} : ∀ {vs : List V} {as : List Int}, All2 RI F vs as → vs = as.map V.int := fun {vs as} h => by
  have h' : Paired (fun v a => RI.r F v a) vs as := h
  clear h
  induction h' with
  | nil => rfl
  | cons r t ih => rw [List.map_cons, ih, show _ = _ from r]
theorem all2_B {F : Hp} : ∀ {vs : List V} {as : List Bool}, All2 RB F vs as → vs = as.map V.bl := fun {vs as} h => by
  have h' : Paired (fun v a => RB.r F v a) vs as := h
  clear h
  induction h' with
  | nil => rfl
  | cons r t ih => rw [List.map_cons, ih, show _ = _ from r]
theorem all2_S {F : Hp} : ∀ {vs : List V} {as : List Str}, All2 RS F vs as → vs = as.map V.str := fun {vs as} h => by
  have h' : Paired (fun v a => RS.r F v a) vs as := h
  clear h
  induction h' with
  | nil => rfl
  | cons r t ih => rw [List.map_cons, ih, show _ = _ from r]
theorem ev_sum {xs : List Int} (hm : X.mg "sum" = none) (ha : Ev X W a G (RL X.K RI) xs G1) (hc : X.calm = true := by rfl) (hg : Gl X "sum" := by rfl) (hs : starEach [a] X.env = (false, eval a X.env) :: starEach [] X.env := by rfl) : Ev X W (.Call (.Name "sum" p) [a] [] pos) G RI xs.sum G1 :=
  ev_cb1 (cr_sum hc) hm (by decide +kernel) ha (fun F H v Q e r q => by
    obtain ⟨pa, vs, rfl, h1, h2⟩ := r
    exact ⟨pa, xs, rfl, by rw [← all2_I h2]; exact ex_sql e h1, q _ rfl⟩) hg (by decide) (by decide) hs
theorem ev_any {xs : List Bool} (hm : X.mg "any" = none) (ha : Ev X W a G (RL X.K RB) xs G1) (hc : X.calm = true := by rfl) (hg : Gl X "any" := by rfl) (hs : starEach [a] X.env = (false, eval a X.env) :: starEach [] X.env := by rfl) : Ev X W (.Call (.Name "any" p) [a] [] pos) G RB (xs.any id) G1 :=
  ev_cb1 (cr_any hc) hm (by decide +kernel) ha (fun F H v Q e r q => by
    obtain ⟨pa, vs, rfl, h1, h2⟩ := r
    exact ⟨pa, xs, rfl, by rw [← all2_B h2]; exact ex_sql e h1, q _ rfl⟩) hg (by decide) (by decide) hs
theorem ev_all {xs : List Bool} (hm : X.mg "all" = none) (ha : Ev X W a G (RL X.K RB) xs G1) (hc : X.calm = true := by rfl) (hg : Gl X "all" := by rfl) (hs : starEach [a] X.env = (false, eval a X.env) :: starEach [] X.env := by rfl) : Ev X W (.Call (.Name "all" p) [a] [] pos) G RB (xs.all id) G1 :=
  ev_cb1 (cr_all hc) hm (by decide +kernel) ha (fun F H v Q e r q => by
    obtain ⟨pa, vs, rfl, h1, h2⟩ := r
    exact ⟨pa, xs, rfl, by rw [← all2_B h2]; exact ex_sql e h1, q _ rfl⟩) hg (by decide) (by decide) hs
/-- the greatest, the least of a list of ints -/
def maxL (xs : List Int) : Option Int := xs.max?
def minL (xs : List Int) : Option Int := xs.min?
theorem ev_maxL {xs : List Int} {m : Int} (h : maxL xs = some m) (hm : X.mg "max" = none) (ha : Ev X W a G (RL X.K RI) xs G1) (hc : X.calm = true := by rfl) (hg : Gl X "max" := by rfl) (hs : starEach [a] X.env = (false, eval a X.env) :: starEach [] X.env := by rfl) : Ev X W (.Call (.Name "max" p) [a] [] pos) G RI m G1 :=
  ev_cb1 (cr_max hc) hm (by decide +kernel) ha (fun F H v Q e r q => by
    obtain ⟨pa, vs, rfl, h1, h2⟩ := r
    obtain ⟨g1, g2⟩ := List.max?_eq_some_iff.mp h
    refine ⟨pa, xs, rfl, by rw [← all2_I h2]; exact ex_sql e h1, List.length_pos_of_mem g1, fun k k1 k2 => ?_⟩
    have e1 : m = k := Int.le_antisymm (k2 m g1) (g2 k k1)
    subst e1
    exact q _ rfl) hg (by decide) (by decide) hs
theorem ev_minL {xs : List Int} {m : Int} (h : minL xs = some m) (hm : X.mg "min" = none) (ha : Ev X W a G (RL X.K RI) xs G1) (hc : X.calm = true := by rfl) (hg : Gl X "min" := by rfl) (hs : starEach [a] X.env = (false, eval a X.env) :: starEach [] X.env := by rfl) : Ev X W (.Call (.Name "min" p) [a] [] pos) G RI m G1 :=
  ev_cb1 (cr_min hc) hm (by decide +kernel) ha (fun F H v Q e r q => by
    obtain ⟨pa, vs, rfl, h1, h2⟩ := r
    obtain ⟨g1, g2⟩ := List.min?_eq_some_iff.mp h
    refine ⟨pa, xs, rfl, by rw [← all2_I h2]; exact ex_sql e h1, List.length_pos_of_mem g1, fun k k1 k2 => ?_⟩
    have e1 : m = k := Int.le_antisymm (g2 k k1) (k2 m g1)
    subst e1
    exact q _ rfl) hg (by decide) (by decide) hs
/-- math.gcd by its imported name -/
def gcdZ (a b : Int) : Int := ((Nat.gcd a.natAbs b.natAbs : Nat) : Int)
theorem ev_gcd {i j : Int} (hm : X.mg n = some (.builtin "math.gcd")) (ha : Ev X W a G RI i G1) (hb : Ev X W b G1 RI j G2) (hg : Gl X n := by rfl) (hdb : (n == ("__debug__" : Str)) = false := by decide) (hs : starEach [a, b] X.env = (false, eval a X.env) :: starEach [b] X.env := by rfl) (hs2 : starEach [b] X.env = (false, eval b X.env) :: starEach [] X.env := by rfl) :
    Ev X W (.Call (.Name n p) [a, b] [] pos) G RI (gcdZ i j) G2 := .mk fun σ F H Q S q =>
  toE (pe_callBfun cr_gcd hg hm (pa_cons wE_pe (pa_cons wE_pe pa_nil hs2) hs) hdb hs (by rw [hs2]; rfl)) (two ha hb S fun v u F' H' e S' r1 r2 => ⟨i, j, by rw [show v = V.int i from r1, show u = V.int j from r2], q _ F' H' e S' rfl⟩)
end
end Mz

namespace Mz
open PySem PySem.Spec PyProof.Rows L2

/-! ### max, min of three; truth of lists and ints; reversed; sorted -/
section
variable {X : Cx} {W : Fx} {G G1 G2 G3 : Gm} {e a b c tg : Expr} {es : List Expr} {α β : Type} {R : Rp α} {T : Rp β} {x : α} {y : β} {pos p p2 : Pos} {D : Ends} {rest : List Stmt} {n : Str} {i : Nat}
theorem ite_int {q : Bool} {i j : Int} : (if q = true then V.int i else V.int j) = V.int (if q = true then i else j) := by cases q <;> rfl
theorem nu_max3 (i j k : Int) : nuMax3 (V.int i) (V.int j) (V.int k) = some (V.int (maxZ (maxZ i j) k)) := by
  show ((some (decide (i < j))).map fun c => if c = true then V.int j else V.int i).bind (fun m => nuMax2 m (V.int k)) = _
  rw [Option.map_some, Option.bind_some, ite_int]
  show (some (decide (_ < k))).map (fun c => if c = true then V.int k else V.int _) = _
  rw [Option.map_some, ite_int]
  simp only [decide_eq_true_eq]
  rfl
theorem nu_min3 (i j k : Int) : nuMin3 (V.int i) (V.int j) (V.int k) = some (V.int (minZ (minZ i j) k)) := by
  show ((some (decide (j < i))).map fun c => if c = true then V.int j else V.int i).bind (fun m => nuMin2 m (V.int k)) = _
  rw [Option.map_some, Option.bind_some, ite_int]
  show (some (decide (k < _))).map (fun c => if c = true then V.int k else V.int _) = _
  rw [Option.map_some, ite_int]
  simp only [decide_eq_true_eq]
  rfl
theorem ev_max3 {i j k : Int} (hm : X.mg "max" = none) (ha : Ev X W a G RI i G1) (hb : Ev X W b G1 RI j G2) (hc : Ev X W c G2 RI k G3) (hcl : X.calm = true := by rfl) (hg : Gl X "max" := by rfl)
    (hs : starEach [a, b, c] X.env = (false, eval a X.env) :: starEach [b, c] X.env := by rfl) (hs2 : starEach [b, c] X.env = (false, eval b X.env) :: starEach [c] X.env := by rfl) (hs3 : starEach [c] X.env = (false, eval c X.env) :: starEach [] X.env := by rfl) :
    Ev X W (.Call (.Name "max" p) [a, b, c] [] pos) G RI (maxZ (maxZ i j) k) G3 := .mk fun σ F H Q S q =>
  toE (pe_callB (call_max3Nu hcl) hg hm (by decide +kernel) (pa_cons wE_pe (pa_cons wE_pe (pa_cons wE_pe pa_nil hs3) hs2) hs) (by decide) (by decide) hs (by rw [hs2, hs3]; rfl)) (ha.out σ F H _ S fun v1 F1 H1 e1 S1 r1 => hb.out σ F1 H1 _ S1 fun v2 F2 H2 e2 S2 r2 => hc.out σ F2 H2 _ S2 fun v3 F3 H3 e3 S3 r3 => by
    refine ⟨v1, v2, v3, .int (maxZ (maxZ i j) k), rfl, ?_, q _ F3 H3 ((e1.trans e2).trans e3) S3 rfl⟩
    rw [show v1 = V.int i from r1, show v2 = V.int j from r2, show v3 = V.int k from r3]
    exact nu_max3 i j k)
theorem ev_min3 {i j k : Int} (hm : X.mg "min" = none) (ha : Ev X W a G RI i G1) (hb : Ev X W b G1 RI j G2) (hc : Ev X W c G2 RI k G3) (hcl : X.calm = true := by rfl) (hg : Gl X "min" := by rfl)
    (hs : starEach [a, b, c] X.env = (false, eval a X.env) :: starEach [b, c] X.env := by rfl) (hs2 : starEach [b, c] X.env = (false, eval b X.env) :: starEach [c] X.env := by rfl) (hs3 : starEach [c] X.env = (false, eval c X.env) :: starEach [] X.env := by rfl) :
    Ev X W (.Call (.Name "min" p) [a, b, c] [] pos) G RI (minZ (minZ i j) k) G3 := .mk fun σ F H Q S q =>
  toE (pe_callB (call_min3Nu hcl) hg hm (by decide +kernel) (pa_cons wE_pe (pa_cons wE_pe (pa_cons wE_pe pa_nil hs3) hs2) hs) (by decide) (by decide) hs (by rw [hs2, hs3]; rfl)) (ha.out σ F H _ S fun v1 F1 H1 e1 S1 r1 => hb.out σ F1 H1 _ S1 fun v2 F2 H2 e2 S2 r2 => hc.out σ F2 H2 _ S2 fun v3 F3 H3 e3 S3 r3 => by
    refine ⟨v1, v2, v3, .int (minZ (minZ i j) k), rfl, ?_, q _ F3 H3 ((e1.trans e2).trans e3) S3 rfl⟩
    rw [show v1 = V.int i from r1, show v2 = V.int j from r2, show v3 = V.int k from r3]
    exact nu_min3 i j k)
theorem et_truL {xs : List α} (h : Ev X W a G (RL X.K R) xs G1) (he : ∀ whole, isTrue a X.env whole = (do let v ← whole; standAt a.pos; holding [v] (truthy v)) := by intro _; rfl) : EvT X W a G (!xs.isEmpty) G1 := .mk fun σ F H Q S q =>
  toT (pt_truth wE_pe he) (h.out σ F H _ S fun v F1 H1 e1 S1 r1 => by
    obtain ⟨pa, vs, rfl, h1, h2⟩ := r1
    refine ⟨!vs.isEmpty, .inl ⟨vs, ex_sql S1.ex h1, rfl⟩, ?_⟩
    have : vs.isEmpty = xs.isEmpty := by cases h2 <;> rfl
    rw [this]
    exact q F1 H1 e1 S1)
theorem et_truV {xs : List α} (h : Ev X W a G (RV X.K R) xs G1) (he : ∀ whole, isTrue a X.env whole = (do let v ← whole; standAt a.pos; holding [v] (truthy v)) := by intro _; rfl) : EvT X W a G (!xs.isEmpty) G1 := .mk fun σ F H Q S q =>
  toT (pt_truth wE_pe he) (h.out σ F H _ S fun v F1 H1 e1 S1 r1 => by
    obtain ⟨pa, vs, rfl, h1, h2⟩ := r1
    refine ⟨!vs.isEmpty, .inr (.inl ⟨vs, ex_sqt S1.ex h1, rfl⟩), ?_⟩
    have : vs.isEmpty = xs.isEmpty := by cases h2 <;> rfl
    rw [this]
    exact q F1 H1 e1 S1)
theorem et_truI {i : Int} (h : Ev X W a G RI i G1) (he : ∀ whole, isTrue a X.env whole = (do let v ← whole; standAt a.pos; holding [v] (truthy v)) := by intro _; rfl) : EvT X W a G (!decide (i = 0)) G1 := .mk fun σ F H Q S q =>
  toT (pt_truth wE_pe he) (h.out σ F H _ S fun v F1 H1 e1 S1 r1 => by
    rw [show v = V.int i from r1]
    refine ⟨i != 0, rfl, ?_⟩
    have : (i != 0) = !decide (i = 0) := by by_cases c : i = 0 <;> simp [c]
    rw [this]
    exact q F1 H1 e1 S1)
theorem src_rev {as : List α} (hm : X.mg "reversed" = none) (h : Ev X W e G (RL X.K R) as G1) (hg : Gl X "reversed" := by rfl) (hs : starEach [e] X.env = [(false, eval e X.env)] := by rfl) : Src X W tg (.Call (.Name "reversed" p) [e] [] pos) G R as.reverse G1 := ⟨_, pi_reversed hg hm (pa_cons wE_pe pa_nil hs) hs, fun σ F H P S q => h.out σ F H _ S fun v F1 H1 e1 S1 r1 => by
  obtain ⟨p, vs, rfl, h1, h2⟩ := r1
  have at' : ∀ {F H : Hp}, Ex F1 F → Ex F H → SqL X.K H p vs := fun a b => ex_sql (a.trans b) h1
  have ix : ∀ {i : Nat} {x : α}, as.reverse[i]? = some x → i < as.length ∧ as[as.length - 1 - i]? = some x := fun {i x} h => by
    have hl := (List.getElem?_eq_some_iff.mp h).1
    rw [List.length_reverse] at hl
    rw [List.getElem?_reverse hl] at h
    exact ⟨hl, h⟩
  refine ⟨p, vs, rfl, ex_sql S1.ex h1, q _ F1 H1 e1 S1 ⟨fun i F H a b hi => ?_, fun F H a b hb => by rw [List.length_reverse, ← h2.len]; exact hb p vs (.inl (at' a b)), fun i x F H a b hx => ?_, fun i x F H v H' a b hx hy => ?_⟩⟩
  · rw [List.length_reverse, ← h2.len] at hi; exact hi
  · obtain ⟨k1, k2⟩ := ix hx
    obtain ⟨w, h3, _⟩ := h2.get k2
    exact ⟨by rw [h2.len]; exact k1, vs, w, at' a b, by rw [h2.len]; exact h3⟩
  · obtain ⟨k1, k2⟩ := ix hx
    obtain ⟨w, h3, h4⟩ := h2.get k2
    obtain ⟨e3, h5⟩ := hy
    subst e3
    have e4 := h5 vs (at' a b)
    rw [h2.len, h3] at e4; cases e4
    exact ⟨F, Ex.refl F, b, Ex.refl _, fun _ _ => .inl rfl, R.mono a h4⟩⟩
/-- sorted, ints -/
def srtI (xs : List Int) : List Int := xs.mergeSort (fun a b => decide (a ≤ b))
theorem srtI_perm (xs : List Int) : (srtI xs).Perm xs := List.mergeSort_perm xs _
theorem srtI_sorted (xs : List Int) : (srtI xs).Pairwise (· ≤ ·) := by
  have := List.pairwise_mergeSort (le := fun a b : Int => decide (a ≤ b)) (fun a b c h1 h2 => by simp at *; omega) (fun a b => by simp; omega) xs
  exact this.imp fun h => by simpa using h
theorem srtI_uniq {xs ys : List Int} (h : ys.Perm xs) (hs : ys.Pairwise (· ≤ ·)) : ys = srtI xs :=
  (h.trans (srtI_perm xs).symm).eq_of_pairwise (fun a b _ _ h1 h2 => Int.le_antisymm h1 h2) hs (srtI_sorted xs)
theorem eo_sortedI {xs : List Int} (hm : X.mg "sorted" = none) (ha : Ev X W a G (RL X.K RI) xs G1) (hg : Gl X "sorted" := by rfl) (hs : starEach [a] X.env = (false, eval a X.env) :: starEach [] X.env := by rfl) : EvO X W (.Call (.Name "sorted" p) [a] [] pos) G (fun l => QL l RI (srtI xs)) G1 := .mk fun σ F H Q S q =>
  toE (pe_callB cr_sortedI hg hm (by decide +kernel) (pa_cons wE_pe pa_nil hs) (by decide) (by decide) hs rfl) (ha.out σ F H _ S fun v F' H' e S' r1 => by
    obtain ⟨pa, vs, rfl, h1, h2⟩ := r1
    refine ⟨pa, xs, rfl, by rw [← all2_I h2]; exact ex_sql S'.ex h1, fun ns' l hp hw hl => ?_⟩
    have hu := srtI_uniq hp hw
    obtain ⟨s1, s2⟩ := NewO.list (R := RI) (as := ns') S' hl (by
      show Paired (fun v a => RI.r F' v a) (ns'.map V.int) ns'
      clear hp hw hu
      induction ns' with
      | nil => exact .nil
      | cons a t ih => exact .cons rfl ih)
    exact q l F' _ e s1 (hu ▸ s2))
end

/-! ### comprehensions of two fors -/
def wI (X : Cx) (tg iter : Expr) : TI := fun σ H R => ∀ pins s, Inv X pins σ H s → wpAny (model X.prog X.w) X.A (eval iter X.env) (fun v s1 => wpAny (model X.prog X.w) X.A (pyIter v) (PIE X pins σ tg R) X.xe s1) X.xe s
def bI (X : Cx) (scope : Scope) (tg iter : Expr) : TI := fun σ H R => ∀ s H0 C cl fp, wI (BX X scope s H0 C cl fp) tg iter σ H R
theorem bI_pi {X : Cx} {scope : Scope} {tg iter : Expr} (s : Shared) (H : Hp) (C : Addr) (cl : List (Str × Addr)) (fp : List Addr) : PI (X.blk s H scope (compEnvC scope cl C X.env) fp) tg iter (bI X scope tg iter) := ⟨fun pins s1 σ H1 R I h => (h s H C cl fp) pins s1 I⟩
theorem toI {X : Cx} {tg iter : Expr} {t : TI} {σ H R} (h : PI X tg iter t) (q : t σ H R) : wI X tg iter σ H R := fun pins s I => h.run pins s σ H R I q
def flatO {β : Type} (bss : List (List β)) : Option (List β) := if bss.flatten.length ≤ 16000000 then some bss.flatten else none
section
variable {X : Cx} {W : Fx} {G G1 : Gm} {elt tg iter tg1 iter1 : Expr} {ifs ifs1 : List Expr} {scope : Scope} {own : List (Str × Nat)} {pos : Pos} {α β : Type} {R : Rp α} {T : Rp β} {as : List α}
def Lc2Ok (X : Cx) (W : Fx) (tg iter : Expr) (ifs : List Expr) (tg1 iter1 : Expr) (ifs1 : List Expr) (elt : Expr) (scope : Scope) (own : List (Str × Nat)) (vs1 : List Nat) (G : Gm) {β : Type} (T : Rp β) (bs : List β) (G1 : Gm) : Prop :=
  ∃ wi, PI X tg iter wi ∧ X.calm = true ∧ X.N.Nodup ∧ BlkOk X.N X.env.scope scope own ∧ (∀ i ∈ vs1, i ∈ own.map (·.2)) ∧ (∀ x, foldedSetIterable iter X.env x = pure x) ∧ (∀ env x, foldedSetIterable iter1 env x = pure x) ∧
    ∀ σ F H (Q : VK), Sat W G σ F H → (∀ l F' H', Ex F F' → Sat W G1 σ F' H' → NewO W G1 F' H' (QL l T bs) → Q (.ref l) H') →
    tLc2 wi (bG X scope tg) (bQ X scope ifs) (bI X scope tg1 iter1) (bG X scope tg1) (bQ X scope ifs1) (bE X scope elt) (own.map (·.2)) vs1 σ H Q
theorem eo_lc2 {bs : List β} {vs1 : List Nat} (h : Lc2Ok X W tg iter ifs tg1 iter1 ifs1 elt scope own vs1 G T bs G1) : EvO X W (.ListComp elt [⟨tg, iter, ifs, 0⟩, ⟨tg1, iter1, ifs1, 0⟩] scope pos) G (fun l => QL l T bs) G1 := .mk fun σ F H Q S q => by
  obtain ⟨wi, h1, h2, h3, h4, h5, h6, h7, h8⟩ := h
  exact toE (pe_lc2 h2 h3 h1 h4 h5 bG_pg bQ_pts bI_pi bG_pg bQ_pts bE_pe h6 h7) (h8 σ F H Q S q)
theorem s_newLc2 {bs : List β} {vs1 : List Nat} {i : Nat} {n : Str} {py spos : Pos} {rest : List Stmt} {D : Ends} (h : Lc2Ok X W tg iter ifs tg1 iter1 ifs1 elt scope own vs1 G T bs G1) (hi : X.N[i]? = some n) (hyl : X.env.scope.names.lookup n = some .local)
    (hsw : swapsWith (.ListComp elt [⟨tg, iter, ifs, 0⟩, ⟨tg1, iter1, ifs1, 0⟩] scope pos) (some (.Name n py)) spos.line X.env = pure true) (q : ∀ l, Tr W (G1.set i (some (Mz.own l (QL l T bs)))) (wS X rest D)) :
    Tr W G (wS X (.Assign [.Name n py] (.ListComp elt [⟨tg, iter, ifs, 0⟩, ⟨tg1, iter1, ifs1, 0⟩] scope pos) spos :: rest) D) := .mk fun σ F H S => by
  obtain ⟨wi, h1, h2, h3, h4, h5, h6, h7, h8⟩ := h
  refine toS (pss_cons (ps_setLc2 h2 h3 hi hyl hsw h1 h4 h5 bG_pg bQ_pts bI_pi bG_pg bQ_pts bE_pe h6 h7) wS_ps) (h8 σ F H (fun x H1 => (wS X rest D) (σ.set i (some x)) H1) S fun l F' H' e1 S' n1 => ?_)
  exact (q l).out (σ.set i (some (.ref l))) F' H' (S'.set (P := Mz.own l (QL l T bs)) ⟨rfl, n1.1⟩ n1.2)
theorem LcOk2.eq {bs cs : List β} {vs1 : List Nat} (h : Lc2Ok X W tg iter ifs tg1 iter1 ifs1 elt scope own vs1 G T bs G1) (q : bs = cs) : Lc2Ok X W tg iter ifs tg1 iter1 ifs1 elt scope own vs1 G T cs G1 := q ▸ h
def outsL {β : Type} (o : Nat → List β) : Nat → List β
  | 0 => []
  | n + 1 => outsL o n ++ o n
theorem outsL_shift {β : Type} (o : Nat → List β) : ∀ n, outsL o (n + 1) = o 0 ++ outsL (fun i => o (i + 1)) n
  | 0 => by simp [outsL]
  | n + 1 => by rw [outsL, outsL_shift o n, outsL, List.append_assoc]
theorem lcO_get {α β : Type} {f : α → Option (List β)} : ∀ {as : List α} {bss : List (List β)}, lcO f as = some bss → ∃ o : Nat → List β, outsL o as.length = bss.flatten ∧ ∀ i a, as[i]? = some a → f a = some (o i)
  | [], bss, h => ⟨fun _ => [], by cases h; rfl, fun i a e => by simp at e⟩
  | a :: as, bss, h => by
    obtain ⟨b, h1, h2⟩ := Option.bind_eq_some_iff.mp h
    obtain ⟨cs, h3, h4⟩ := Option.bind_eq_some_iff.mp h2
    cases h4
    obtain ⟨o, o1, o2⟩ := lcO_get h3
    refine ⟨fun i => match i with | 0 => b | i + 1 => o i, by rw [List.length_cons, outsL_shift, o1]; rfl, fun i x e => ?_⟩
    cases i with
    | zero => cases Option.some.inj e; exact h1
    | succ i => exact o2 i x e
theorem outsL_le {β : Type} (o : Nat → List β) {i n : Nat} (h : i ≤ n) : (outsL o i).length ≤ (outsL o n).length := by
  induction h with
  | refl => exact Nat.le_refl _
  | step _ ih => rw [outsL, List.length_append]; omega
theorem outs_le {β : Type} (o : Nat → Option β) {i n : Nat} (h : i ≤ n) : (outs o i).length ≤ (outs o n).length := by
  induction h with
  | refl => exact Nat.le_refl _
  | step _ ih => rw [outs, List.length_append]; omega
/-- one outer turn -/
def Lc2Turn (W0 : Fx) (X : Cx) (scope : Scope) (vs vs1 : List Nat) (tg : Expr) (ifs : List Expr) (tg1 iter1 : Expr) (ifs1 : List Expr) (elt : Expr) (Gw : Gm) (R : Rp α) (T : Rp β) (a : α) (bs : List β) : Prop :=
  ∃ ss G2 G3 k, (∀ i ∈ ss, i ∈ vs) ∧ (∀ W, W0.lw W → ∀ sh H0 C cl fp, Tg (BX X scope sh H0 C cl fp) W tg ss Gw R a G2) ∧ (∀ W, W0.lw W → ∀ sh H0 C cl fp, EvQ (BX X scope sh H0 C cl fp) W ifs G2 k G3) ∧
    (k = false → bs = [] ∧ Wk Gw G3) ∧ (k = true → ∃ (γ : Type) (U : Rp γ) (cs : List γ) (f1 : γ → Option (Option β)) (G4 Gv : Gm), (∀ W, W0.lw W → ∀ sh H0 C cl fp, Src (BX X scope sh H0 C cl fp) W tg1 iter1 G3 U cs G4) ∧ lcF f1 cs = some bs ∧
      Wk Gv G4 ∧ NA vs1 Gv ∧ Wk Gw Gv ∧ ∀ c o, c ∈ cs → f1 c = some o → LcTurn W0 X scope vs1 tg1 ifs1 elt (fun _ : Unit => Gv) U T c () o ())
theorem lk_2 {f : α → Option (List β)} {bss : List (List β)} {bs : List β} {vs1 : List Nat} (Gw : Gm) (hsrc : Src X W tg iter G R as G1) (hm : lcO f as = some bss) (hfl : flatO bss = some bs) (hN : X.N.Nodup) (ok : BlkOk X.N X.env.scope scope own) (hv1 : ∀ i ∈ vs1, i ∈ own.map (·.2)) (hw : Wk Gw G1) (hv : NA (own.map (·.2)) Gw) (hb : W3 Gw G1 G1)
    (bd : ∀ a bs, a ∈ as → f a = some bs → Lc2Turn W X scope (own.map (·.2)) vs1 tg ifs tg1 iter1 ifs1 elt Gw R T a bs) (hc : X.calm = true := by rfl) (hs : ∀ x, foldedSetIterable iter X.env x = pure x := by intro _; rfl) (hs1 : ∀ env x, foldedSetIterable iter1 env x = pure x := by intro _ _; rfl) :
    Lc2Ok X W tg iter ifs tg1 iter1 ifs1 elt scope own vs1 G T bs G1 := by
  obtain ⟨o, o1, o2⟩ := lcO_get hm
  obtain ⟨wi, hpi, hwi⟩ := hsrc
  have hlen : bss.flatten.length ≤ 16000000 ∧ bss.flatten = bs := by
    unfold flatO at hfl
    split at hfl
    · rename_i c; cases hfl; exact ⟨c, rfl⟩
    · cases hfl
  refine ⟨wi, hpi, hc, hN, ok, hv1, hs, hs1, fun σ F H Q S q => hwi σ F H _ S fun J F1 H1 f1 S1 w D hD => ?_⟩
  have wD : W.w D = none := S1.wx.back hD
  refine ⟨fun i m H => m = as.length - i ∧ i ≤ as.length ∧ ∃ F acc, Ex F1 F ∧ Sat (W.put D (.lst acc) F1) Gw (wipe σ (own.map (·.2))) F H ∧ All2 T F acc (outsL o i), ⟨as.length, by simp, Nat.zero_le _, F1, [], Ex.refl F1, ?_, All2.nil⟩, ?_⟩
  · have S2 := S1.put (o := .lst []) hD
    exact S2.wipe hw hv.at (wipe_length _ _) fun j hj => wipe_out hj
  rintro i m H5 ⟨rfl, hi, F5, acc, e5, S5, A5⟩
  by_cases hlt : i < as.length
  · have ha : as[i]? = some as[i] := List.getElem?_eq_getElem hlt
    refine .inr ⟨w.go i _ F5 H5 e5 S5.ex ha, fun H' => ∃ F acc, Ex F1 F ∧ Sat (W.put D (.lst acc) F1) Gw (wipe σ (own.map (·.2))) F H' ∧ All2 T F acc (outsL o (i + 1)), fun H' ⟨F, acc, k1, k2, k3⟩ => ⟨as.length - (i + 1), by omega, rfl, hlt, F, acc, k1, k2, k3⟩, fun v H6 hy => ?_⟩
    obtain ⟨F6, g1, g2, g3, g4, g5⟩ := w.yld i _ F5 H5 v H6 e5 S5.ex ha hy
    have S6 := S5.stepT g1 g2 g3 g4
    obtain ⟨ss, G2, G3, k, hss, t1, t2, t3, t4⟩ := bd as[i] (o i) (List.getElem_mem hlt) (o2 i _ ha)
    have lwp : ∀ {o : HO} {F : Hp}, Ex F1 F → W.lw ⟨upd W.w D o, F, W.tb⟩ := fun {o F} e => ⟨fun a h => by
      by_cases z : a = D
      · rw [z] at h; have h' : upd W.w D o D = none := h; rw [upd_same] at h'; cases h'
      · have h' : upd W.w D o a = none := h; rw [upd_ne z] at h'; exact h', S1.f0.trans e, rfl⟩
    intro sh H0 C cl fp
    refine (t1 _ (lwp (Ex.refl F1)) sh H0 C cl fp).out _ F6 H6 v _ S6 g5 fun σ7 so S7 => ?_
    have hw7 : wipe σ7 (own.map (·.2)) = wipe σ (own.map (·.2)) := (wipe_so so hss).trans wipe_wipe
    refine ⟨hw7, fun sh H0 C cl fp => (t2 ⟨(W.put D (.lst acc) F1).w, F6, W.tb⟩ (lwp (e5.trans g1)) sh H0 C cl fp).out σ7 F6 H6 _ S7.pin fun F8 H8 e8 S8 => ?_⟩
    have lenw : (wipe σ (own.map (·.2))).length = σ7.length := by rw [so.1]
    have offw : ∀ j, j ∉ own.map (·.2) → (wipe σ (own.map (·.2)))[j]? = σ7[j]? := fun j hj => by rw [← hw7, wipe_out hj]
    have back : ∀ {G8 : Gm} {τ : L2.St} {F8 H8 : Hp}, Sat ⟨(W.put D (.lst acc) F1).w, F6, W.tb⟩ G8 τ F8 H8 → Sat (W.put D (.lst acc) F1) G8 τ F8 H8 := fun S => S.le ⟨rfl, e5.trans g1, rfl⟩
    have e8' : Ex F1 F8 := (e5.trans g1).trans e8
    cases k with
    | false =>
      obtain ⟨q1, q2⟩ := t3 rfl
      rw [if_neg Bool.false_ne_true]
      refine ⟨F8, acc, e8', ((back S8).wipe q2 hv.at lenw offw), ?_⟩
      rw [outsL, q1, List.append_nil]
      exact A5.mono (g1.trans e8)
    | true =>
      rw [if_pos rfl]
      obtain ⟨γ, U, cs, fi, G4, Gv, u1, u2, u3, u4, u5, u6⟩ := t4 rfl
      -- the inner loop
      have hin := lcG_F u2
      obtain ⟨z, oi, z0, z1, z2, z3⟩ := lcG_get hin
      have z3' : ∀ j c, cs[j]? = some c → fi c = some (oi j) := fun j c hj => by
        have := z3 j c hj
        cases hq : fi c with
        | none => rw [hq] at this; cases this
        | some o' => rw [hq] at this; cases this; rfl
      intro sh2 H02 C2 cl2 fp2
      have hsr := u1 (W.put D (.lst acc) F1) (lwp (Ex.refl F1)) sh2 H02 C2 cl2 fp2
      obtain ⟨wi1, hpi1, hwi1⟩ := hsr
      refine toI hpi1 (hwi1 σ7 F8 H8 _ (back S8) fun J1 F9 H9 e9 S9 w9 => ?_)
      have A9 : All2 T F9 acc (outsL o i) := A5.mono ((g1.trans e8).trans e9)
      have e9' : Ex F1 F9 := e8'.trans e9
      refine ⟨fun j k H => k = cs.length - j ∧ j ≤ cs.length ∧ ∃ F acc, Ex F9 F ∧ Sat (W.put D (.lst acc) F1) Gv (wipe σ7 vs1) F H ∧ All2 T F acc (outsL o i ++ outs oi j), ⟨cs.length, by simp, Nat.zero_le _, F9, acc, Ex.refl F9, ?_, ?_⟩, ?_⟩
      · exact S9.wipe u3 u4.at (wipe_length _ _) fun j hj => wipe_out hj
      · rw [outs, List.append_nil]; exact A9
      rintro j k H10 ⟨rfl, hj, F10, acc2, e10, S10, A10⟩
      have e10' : Ex F1 F10 := e9'.trans e10
      by_cases hlt2 : j < cs.length
      · have hc2 : cs[j]? = some cs[j] := List.getElem?_eq_getElem hlt2
        refine .inr ⟨w9.go j _ F10 H10 e10 S10.ex hc2, fun H' => ∃ F acc, Ex F9 F ∧ Sat (W.put D (.lst acc) F1) Gv (wipe σ7 vs1) F H' ∧ All2 T F acc (outsL o i ++ outs oi (j + 1)), fun H' ⟨F, acc, k1, k2, k3⟩ => ⟨cs.length - (j + 1), by omega, rfl, hlt2, F, acc, k1, k2, k3⟩, fun v1 H11 hy1 => ?_⟩
        obtain ⟨F11, g6, g7, g8, g9, g10⟩ := w9.yld j _ F10 H10 v1 H11 e10 S10.ex hc2 hy1
        have S11 := S10.stepT g6 g7 g8 g9
        obtain ⟨ss1, G5, G6, hss1, t5, t6, t7, t8⟩ := u6 cs[j] (oi j) (List.getElem_mem hlt2) (z3' j _ hc2)
        intro sh3 H03 C3 cl3 fp3
        refine (t5 _ (lwp (Ex.refl F1)) sh3 H03 C3 cl3 fp3).out _ F11 H11 v1 _ S11 g10 fun σ12 so1 S12 => ?_
        have hw12 : wipe σ12 vs1 = wipe σ7 vs1 := (wipe_so so1 hss1).trans wipe_wipe
        refine ⟨hw12, fun sh H0 C cl fp => (t6 ⟨(W.put D (.lst acc2) F1).w, F11, W.tb⟩ (lwp (e10'.trans g6)) sh H0 C cl fp).out σ12 F11 H11 _ S12.pin fun F13 H13 e13 S13 => ?_⟩
        have lenw1 : (wipe σ7 vs1).length = σ12.length := by rw [so1.1]
        have offw1 : ∀ j, j ∉ vs1 → (wipe σ7 vs1)[j]? = σ12[j]? := fun j hj => by rw [← hw12, wipe_out hj]
        have back1 : ∀ {G8 : Gm} {τ : L2.St} {F8 H8 : Hp}, Sat ⟨(W.put D (.lst acc2) F1).w, F11, W.tb⟩ G8 τ F8 H8 → Sat (W.put D (.lst acc2) F1) G8 τ F8 H8 := fun S => S.le ⟨rfl, e10'.trans g6, rfl⟩
        cases ho : oi j with
        | none =>
          rw [ho] at t7
          show ∃ F acc, _
          refine ⟨F13, acc2, (e10.trans g6).trans e13, ((back1 S13).wipe (t7 rfl) u4.at lenw1 offw1), ?_⟩
          rw [outs, ho]
          simpa using A10.mono (g6.trans e13)
        | some b =>
          obtain ⟨G7, t9, t10⟩ := t8 b ho
          show bE X scope elt σ12 H13 _
          intro sh H0 C cl fp
          refine ((t9 ⟨(W.put D (.lst acc2) F1).w, F13, W.tb⟩ (lwp ((e10'.trans g6).trans e13)) sh H0 C cl fp).out σ12 F13 H13 _ S13.pin fun y F14 H14 e14 S14 r14 => ?_)
          have S14' : Sat (W.put D (.lst acc2) F1) G7 σ12 F14 H14 := S14.le ⟨rfl, (e10'.trans g6).trans e13, rfl⟩
          have hD14 : H14 D = some (.lst acc2) := S14'.wx D _ (by show upd W.w D (.lst acc2) D = _; rw [upd_same])
          refine ⟨acc2, hD14, ?_, F14, acc2 ++ [y], ((e10.trans g6).trans e13).trans e14, ((S14'.reput (o' := .lst (acc2 ++ [y]))).wipe t10 u4.at lenw1 offw1), ?_⟩
          · have l1 := A10.len
            rw [List.length_append] at l1
            have l2 := outs_le oi (show j ≤ cs.length from hj)
            have l3 := outsL_le o (show i + 1 ≤ as.length from hlt)
            rw [outsL, List.length_append, o1] at l3
            have l4 : (outs oi cs.length).length = (o i).length := by rw [z2]
            rw [sizeLine_eq]
            omega
          · rw [outs, ho, ← List.append_assoc]
            exact (A10.mono ((g6.trans e13).trans e14)).snoc r14
      · have e : j = cs.length := by omega
        subst e
        refine .inl ⟨w9.stop _ F10 H10 e10 S10.ex (Nat.le_refl _), F10, acc2, e10', ?_, ?_⟩
        · refine S10.wipe u5 hv.at (by rw [lenw, wipe_length]) fun x hx => ?_
          rw [offw x hx, wipe_out fun m => hx (hv1 x m)]
        · rw [outsL, show o i = outs oi cs.length from z2.symm]
          exact A10
  · have e : i = as.length := by omega
    subst e
    refine .inl ⟨w.stop _ F5 H5 e5 S5.ex (Nat.le_refl _), ?_⟩
    obtain ⟨S6, u1, u2, u3⟩ := S5.unput S1.f0 wD
    have S7 : Sat W G1 σ F5 H5 := Sat.behind hb S1 S6 hv (fun j hj => wipe_out hj) (wipe_length _ _) e5
    have hb3 := hb.get.2.2.1
    refine q D F5 H5 (f1.trans e5) S7 ⟨⟨acc, u1, by rw [← hlen.2, ← o1]; exact A5⟩, fun a ha' => ?_⟩
    have e : a = D := List.mem_singleton.mp ha'
    subst e
    refine ⟨u2, wD, (by rw [u1]; intro z; cases z), fun j P hj m => ?_⟩
    rcases hb3 j P hj with k | ⟨k, _⟩
    · exact u3 j P k m
    · rw [k] at m; exact nomatch m
end
end Mz

namespace Mz
open PySem PySem.Spec PyProof.Rows L2

/-! ### lists that may be a module's own, the script -/
def RQ {α : Type} (K : PySem.W.Frag) (R : Rp α) : Rp (List α) := ⟨fun F v as => ∃ p vs, v = .ref p ∧ SqL K F p vs ∧ All2 R F vs as, fun {F F' v as} e h => by
  obtain ⟨p, vs, h1, h2, h3⟩ := h
  refine ⟨p, vs, h1, ?_, h3.mono e⟩
  rcases h2 with h2 | h2
  · exact .inl (ex_rl e h2)
  · exact .inr h2⟩
theorem ex_sqq {K : PySem.W.Frag} {H H' : Hp} {a : Addr} {xs : List V} (e : Ex H H') (h : SqL K H a xs) : SqL K H' a xs := by
  rcases h with h | h
  · exact .inl (ex_rl e h)
  · exact .inr h
section
variable {X : Cx} {W : Fx} {G G1 G2 G3 : Gm} {e a b c tg : Expr} {es : List Expr} {α β : Type} {R : Rp α} {T : Rp β} {x : α} {y : β} {pos p p2 : Pos} {D : Ends} {rest : List Stmt} {n : Str} {i : Nat}
theorem ev_q {xs : List α} (h : Ev X W e G (RL X.K R) xs G1) : Ev X W e G (RQ X.K R) xs G1 := .mk fun σ F H Q S q => h.out σ F H Q S fun v F' H' e S' r => q v F' H' e S' (by obtain ⟨p, vs, h1, h2, h3⟩ := r; exact ⟨p, vs, h1, .inl h2, h3⟩)
theorem ev_ixQ {xs : List α} {i : Int} (h : ix xs i = some x) (ha : Ev X W a G (RQ X.K R) xs G1) (hb : Ev X W b G1 RI i G2) (hs : PlainIx b := by exact fun _ _ => rfl) : Ev X W (.Subscript a b pos) G R x G2 := .mk fun σ F H Q S q =>
  toE (pe_ix ix_list wE_pe wE_pe hs) (two ha hb S fun v u F' H' e S' r1 r2 => by
    obtain ⟨p, vs, e1, h1, h2⟩ := r1
    obtain ⟨j, h3, h4, h5, h6, h7⟩ := atI_get h
    obtain ⟨w, h8, h9⟩ := h2.get h4
    refine ⟨p, vs, i, w, e1, r2, ex_sqq S'.ex h1, ?_, q w F' H' e S' h9⟩
    show atI vs i = some w
    unfold atI
    rw [h2.len]
    unfold ix atI at h
    cases hn : ixN xs.length i with
    | none => rw [hn] at h; cases h
    | some k =>
      rw [hn] at h
      have hk : xs[k]? = some x := h
      obtain ⟨w', h10, _⟩ := h2.get hk
      have hkj : k = j := by
        have := (ixN_seq hn).1
        rw [this] at h3
        exact Option.some.inj h3
      subst hkj
      exact h8)
theorem ev_lenQ {xs : List α} (hm : X.mg "len" = none) (ha : Ev X W a G (RQ X.K R) xs G1) (hg : Gl X "len" := by rfl) (hs : starEach [a] X.env = (false, eval a X.env) :: starEach [] X.env := by rfl) : Ev X W (.Call (.Name "len" p) [a] [] pos) G RI (xs.length : Int) G1 :=
  ev_cb1 call_len_seq hm PySem.boot_len ha (fun F H v Q e r q => by
    obtain ⟨l, vs, e1, h1, h2⟩ := r
    exact ⟨l, vs, by rw [e1], .inl (ex_sqq e h1), by rw [h2.len]; exact q _ rfl⟩) hg (by decide) (by decide) hs
theorem src_listQ {as : List α} (h : Ev X W e G (RQ X.K R) as G1) : Src X W tg e G R as G1 := ⟨_, pi_list wE_pe, fun σ F H P S q => h.out σ F H _ S fun v F1 H1 e1 S1 r1 => by
  obtain ⟨p, vs, rfl, h1, h2⟩ := r1
  have at' : ∀ {F H : Hp}, Ex F1 F → Ex F H → SqL X.K H p vs := fun a b => ex_sqq (a.trans b) h1
  refine ⟨p, rfl, ⟨vs, ex_sqq S1.ex h1⟩, q _ F1 H1 e1 S1 ⟨fun i F H a b hi => ⟨vs, at' a b, by rw [h2.len]; exact hi⟩, fun F H a b hb => by rw [← h2.len]; exact hb p vs (.inl (at' a b)), fun i x F H a b hx => ?_, fun i x F H v H' a b hx hy => ?_⟩⟩
  · obtain ⟨w, h3, _⟩ := h2.get hx
    exact ⟨vs, w, at' a b, h3⟩
  · obtain ⟨w, h3, h4⟩ := h2.get hx
    obtain ⟨e3, h5⟩ := hy
    subst e3
    have e4 := h5 vs (at' a b)
    rw [h3] at e4; cases e4
    exact ⟨F, Ex.refl F, b, Ex.refl _, fun _ _ => .inl rfl, R.mono a h4⟩⟩
end

/-! ### a def of the head -/
abbrev FnP (K : PySem.W.Frag) (x : Str) (st : Stmt) (f : Addr) (fd : FuncData) : Prop := FunD K x x (defArgs st) (defBody st) (defScope st) [] [] f fd
theorem fn_okD {P : Program} {w : World} {K : PySem.W.Frag} {mg : Str → Option Value} {base : Heap} {x : Str} {st : Stmt} {f : Addr} {fd : FuncData} {N ps : List Str} {k : Nat} {sp : Sp} (F : FnP K x st f fd) (S : FnScope N ps (defScope st)) (len : ∀ vs H Q E, sp vs H Q E → vs.length = ps.length)
    (hbody : ∀ (cdv : Value) (A : Around) (outer : List Env) (s : Shared) (H : Hp) (vs : List V) (Q : VK) (E : XK), Room k (A.deeper (envOfC x (defScope st) s.heap.objs.size f cdv)) → sp vs H Q E →
      wS (cxOf CX0 P w K mg base N x (defScope st) f cdv A outer s H E).nox (defBody st) { nx := fun _ H' => Q .non H', rt := Q } (L2.start N vs) H) : FnOk P w K mg base CX0 (k + 1) f fd ps sp :=
  F.ok S len fun cdv A outer s H vs Q E hr h => ⟨_, PSs.nox wS_ps, hbody cdv A outer s H vs Q E hr h⟩

/-! ### a module's constants, by what the heap holds -/
structure Ck {α : Type} (K : PySem.W.Frag) (R : Rp α) where
  b : Value → α → Bool
  ok : ∀ {v : Value} {a : α}, b v a = true → ∃ x, RelV x v ∧ (∀ F, R.r F x a) ∧ Kd K x
structure Ckr {α : Type} (K : PySem.W.Frag) (T : Rs α) where
  b : List Value → α → Bool
  ok : ∀ {us : List Value} {a : α}, b us a = true → ∃ xs, Vals xs us ∧ ∀ F, T.r F xs a
section
variable {K : PySem.W.Frag} {α β : Type} {R : Rp α} {T : Rs β}
def ck_I : Ck K RI := ⟨fun v a => match v with | .int i _ => decide (i = a) | _ => false, fun {v a} h => by
  cases v with
  | int i t => exact ⟨.int i, ⟨t, rfl⟩, fun F => congrArg V.int (of_decide_eq_true h), fun p e => nomatch e⟩
  | _ => cases h⟩
def ck_S : Ck K RS := ⟨fun v a => match v with | .str i _ => decide (i = a) | _ => false, fun {v a} h => by
  cases v with
  | str i t => exact ⟨.str i, ⟨t, rfl⟩, fun F => congrArg V.str (of_decide_eq_true h), fun p e => nomatch e⟩
  | _ => cases h⟩
def ck_B : Ck K RB := ⟨fun v a => match v with | .bool i => decide (i = a) | _ => false, fun {v a} h => by
  cases v with
  | bool i => exact ⟨.bl i, rfl, fun F => congrArg V.bl (of_decide_eq_true h), fun p e => nomatch e⟩
  | _ => cases h⟩
def ck_U : Ck K RU := ⟨fun v _ => match v with | .none => true | _ => false, fun {v a} h => by
  cases v with
  | none => exact ⟨.non, rfl, fun F => rfl, fun p e => nomatch e⟩
  | _ => cases h⟩
def ck_one (C : Ck K R) : Ckr K (R1 R) := ⟨fun us a => match us with | [u] => C.b u a | _ => false, fun {us a} h => by
  match us, h with
  | [u], h =>
    obtain ⟨x, h1, h2, _⟩ := C.ok h
    exact ⟨[x], .cons h1 .nil, fun F => ⟨x, rfl, h2 F⟩⟩⟩
def ck_cons (C : Ck K R) (E : Ckr K T) : Ckr K (RC R T) := ⟨fun us a => match us with | u :: us => C.b u a.1 && E.b us a.2 | _ => false, fun {us a} h => by
  match us, h with
  | u :: us, h =>
    obtain ⟨h1, h2⟩ := Bool.and_eq_true_iff.mp h
    obtain ⟨x, h3, h4, _⟩ := C.ok h1
    obtain ⟨xs, h5, h6⟩ := E.ok h2
    exact ⟨x :: xs, .cons h3 h5, fun F => ⟨x, xs, rfl, h4 F, h6 F⟩⟩⟩
def allC (f : Value → α → Bool) : List Value → List α → Bool
  | [], [] => true
  | u :: us, a :: as => f u a && allC f us as
  | _, _ => false
theorem allC_ok (C : Ck K R) : ∀ {us : List Value} {as : List α}, allC C.b us as = true → ∃ xs, Vals xs us ∧ ∀ F, All2 R F xs as
  | [], [], _ => ⟨[], .nil, fun _ => All2.nil⟩
  | u :: us, a :: as, h => by
    obtain ⟨h1, h2⟩ := Bool.and_eq_true_iff.mp h
    obtain ⟨x, h3, h4, _⟩ := C.ok h1
    obtain ⟨xs, h5, h6⟩ := allC_ok C h2
    exact ⟨x :: xs, .cons h3 h5, fun F => (h6 F).cons (h4 F)⟩
def seqB (K : PySem.W.Frag) (v : Value) (t : String) (f : List Value → Bool) : Bool := match v with
  | .ref p => (match K.lookup p with
    | some ⟨.type c, none, .seq its _, _⟩ => decide (c = t) && (decide (its.size ≤ sizeLine) && f its.toList)
    | _ => false)
  | _ => false
theorem seqB_ok {v : Value} {t : String} {f : List Value → Bool} (h : seqB K v t f = true) : ∃ (p : Addr) (sl : Array (Option Value)) (its : Array Value) (n : Nat), v = .ref p ∧ K.lookup p = some ⟨.type t, none, .seq its n, sl⟩ ∧ its.size ≤ sizeLine ∧ f its.toList = true := by
  cases v with
  | ref p =>
    have h' : (match K.lookup p with
      | some ⟨.type c, none, .seq its _, _⟩ => decide (c = t) && (decide (its.size ≤ sizeLine) && f its.toList)
      | _ => false) = true := h
    cases q : K.lookup p with
    | none => rw [q] at h'; cases h'
    | some o =>
      obtain ⟨oc, od, dt, osl⟩ := o
      rw [q] at h'
      cases oc with
      | type c =>
        cases od with
        | none =>
          cases dt with
          | seq its n =>
            obtain ⟨h1, h2⟩ := Bool.and_eq_true_iff.mp h'
            obtain ⟨h3, h4⟩ := Bool.and_eq_true_iff.mp h2
            exact ⟨p, osl, its, n, rfl, by rw [← of_decide_eq_true h1]; exact q, of_decide_eq_true h3, h4⟩
          | _ => cases h'
        | some d => cases dt <;> cases h'
      | _ => cases od <;> cases dt <;> cases h'
  | _ => cases h
def ck_V (C : Ck K R) : Ck K (RV K R) := ⟨fun v as => seqB K v "tuple" fun us => allC C.b us as, fun {v as} h => by
  obtain ⟨p, sl, its, n, rfl, h1, h2, h3⟩ := seqB_ok h
  obtain ⟨xs, h4, h5⟩ := allC_ok C h3
  exact ⟨.ref p, rfl, fun F => ⟨p, xs, rfl, .inr ⟨_, its, n, h1, rfl, rfl, h2, h4⟩, h5 F⟩, fun q e => by cases e; exact ⟨_, h1, rfl⟩⟩⟩
def ck_Q (C : Ck K R) : Ck K (RQ K R) := ⟨fun v as => seqB K v "list" fun us => allC C.b us as, fun {v as} h => by
  obtain ⟨p, sl, its, n, rfl, h1, h2, h3⟩ := seqB_ok h
  obtain ⟨xs, h4, h5⟩ := allC_ok C h3
  exact ⟨.ref p, rfl, fun F => ⟨p, xs, rfl, .inr ⟨_, its, n, h1, rfl, rfl, rfl, h2, h4⟩, h5 F⟩, fun q e => by cases e; exact ⟨_, h1, rfl⟩⟩⟩
def ck_T (C : Ckr K T) : Ck K (RT K T) := ⟨fun v a => seqB K v "tuple" fun us => C.b us a, fun {v as} h => by
  obtain ⟨p, sl, its, n, rfl, h1, h2, h3⟩ := seqB_ok h
  obtain ⟨xs, h4, h5⟩ := C.ok h3
  exact ⟨.ref p, rfl, fun F => ⟨p, xs, rfl, .inr ⟨_, its, n, h1, rfl, rfl, h2, h4⟩, h5 F⟩, fun q e => by cases e; exact ⟨_, h1, rfl⟩⟩⟩
/-- what the module's name x stands for -/
def valB (K : PySem.W.Frag) (x : Str) (p : Value → Bool) : Bool := match PySem.W.nsIn K mainGlobals x with
  | some (some v) => p v
  | _ => false
theorem valB_ok {h : Heap} {mg : Str → Option Value} {x : Str} {p : Value → Bool} (X : K.In h) (G : h.Ns mainGlobals mg) (c : valB K x p = true) : ∃ v, mg x = some v ∧ p v = true := by
  unfold valB at c
  cases q : PySem.W.nsIn K mainGlobals x with
  | none => rw [q] at c; cases c
  | some o =>
    cases o with
    | none => rw [q] at c; cases c
    | some v => rw [q] at c; exact ⟨v, PySem.W.mg_of X G q, c⟩
theorem gc_of {h : Heap} {mg : Str → Option Value} {x : Str} {a : α} (C : Ck K R) (X : K.In h) (G : h.Ns mainGlobals mg) (c : valB K x (fun v => C.b v a) = true) : Gc K mg x R a := by
  obtain ⟨v, h1, h2⟩ := valB_ok X G c
  obtain ⟨y, h3, h4⟩ := C.ok h2
  exact ⟨v, y, h1, h3, h4⟩
def bltB (id : String) (v : Value) : Bool := match v with
  | .builtin s => decide (s = id)
  | _ => false
theorem blt_of {h : Heap} {mg : Str → Option Value} {x : Str} {id : String} (X : K.In h) (G : h.Ns mainGlobals mg) (c : valB K x (bltB id) = true) : mg x = some (.builtin id) := by
  obtain ⟨v, h1, h2⟩ := valB_ok X G c
  cases v with
  | builtin s => rw [h1, of_decide_eq_true (show decide (s = id) = true from h2)]
  | _ => cases h2
end

/-! ### the Hook: the kit's facts and defs, and one Bool more -/
def obsM (n : Nat) (fa : List He.Fa) (fn : List He.DefD) (ex : PySem.W.Frag → Bool) (g : Addr → Option Obj) : He.AlD × Bool := (He.obsD fa fn (He.frG g (He.asD g n)), ex (He.frG g (He.asD g n)))
def hookM (n : Nat) (fa : List He.Fa) (fn : List He.DefD) (ex : PySem.W.Frag → Bool) : PySem.W.Hook where
  α := He.AlD × Bool
  obs := fun s => obsM n fa fn ex s.heap.get?
  val := fun _ => (He.valD fn, true)
  says := fun _ h => ∃ K : PySem.W.Frag, K.In h ∧ He.SaysD fa fn K ∧ ex K = true
  of := fun _ _ e => ⟨_, He.frG_in, congrArg (fun z : He.AlD × Bool => z.1) e, congrArg (fun z : He.AlD × Bool => z.2) e⟩
  keeps := fun _ _ _ ⟨K, hK, c⟩ k => ⟨K, PySem.W.Frag.In.keeps hK k, c⟩
theorem obsM_eq {n : Nat} {fa : List He.Fa} {fn : List He.DefD} {ex : PySem.W.Frag → Bool} {g : Addr → Option Obj} {s : Shared} (h : ∀ a, g a = s.heap.get? a) : obsM n fa fn ex g = (hookM n fa fn ex).obs s := by
  have e : g = s.heap.get? := funext h
  rw [e] <;> rfl
theorem ex_at {K : PySem.W.Frag} {l : List (PySem.W.Frag → Bool)} (h : (l.all fun f => f K) = true) (i : Nat) {f : PySem.W.Frag → Bool} (e : l[i]? = some f := by rfl) : f K = true := List.all_eq_true.mp h f (List.mem_of_getElem? e)

/-! ### the law's own def -/
theorem law_in {K : PySem.W.Frag} {H : Hp} {a : Addr} {ns : List Int} (T : List (Addr × Str)) (h : SqL K H a (ns.map V.int)) (hT : ∀ p ∈ T, H p.1 = some (.tbl #[])) : ∃ F, Sat ⟨fun _ => none, F, T⟩ (([imm (RQ K RI) ns] : List Sd).map some) (([.ref a] : List V).map some) F H := by
  let F : Hp := fun b => match H b with | some (.tbl _) => none | o => o
  have hF : ∀ b o, F b = some o → H b = some o := fun b o e => by
    show H b = some o
    have e' : (match H b with | some (.tbl _) => none | o => o) = some o := e
    cases hb : H b with
    | none => rw [hb] at e'; cases e'
    | some u => rw [hb] at e'; cases u <;> first | exact e' | cases e'
  have hl : ∀ b o, (∀ x, o ≠ HO.tbl x) → H b = some o → F b = some o := fun b o n e => by
    show (match H b with | some (.tbl _) => none | o => o) = some o
    rw [e]
    cases o <;> first | rfl | exact absurd rfl (n _)
  refine ⟨F, rfl, hF, Ex.refl F, (fun b o e => nomatch e), (fun b e => absurd rfl e), fun i P e => ?_, fun i j P Q b e1 e2 m1 m2 => ?_, fun i P b e m => ?_, fun p hp => ⟨rfl, ?_, fun i P e m => ?_, #[], hT p hp, ?_, fun pos cv e => ?_⟩⟩
  · cases i with
    | zero =>
      cases Option.some.inj (Option.some.inj e)
      refine ⟨.ref a, rfl, a, ns.map V.int, rfl, ?_, ?_⟩
      · rcases h with (h | ⟨o, h⟩) | h
        · exact .inl (.inl (hl _ _ (fun x e => nomatch e) h))
        · exact .inl (.inr ⟨o, hl _ _ (fun x e => nomatch e) h⟩)
        · exact .inr h
      show Paired (fun v a => RI.r F v a) (ns.map V.int) ns
      clear h e
      induction ns with
      | nil => exact .nil
      | cons a t ih => exact .cons rfl ih
    | succ i => cases i <;> exact nomatch e
  · cases i with
    | zero => cases Option.some.inj (Option.some.inj e1); exact nomatch m1
    | succ i => cases i <;> exact nomatch e1
  · cases i with
    | zero => cases Option.some.inj (Option.some.inj e); exact nomatch m
    | succ i => cases i <;> exact nomatch e
  · show (match H p.1 with | some (.tbl _) => none | o => o) = none
    rw [hT p hp]
  · cases i with
    | zero => cases Option.some.inj (Option.some.inj e); exact nomatch m
    | succ i => cases i <;> exact nomatch e
  · exact trivial
  · exact nomatch e
theorem law_out {W : Fx} {v : V} {H : Hp} (h : Rt W (Imm RB) (fun _ => []) true v H) : v = .bl true := by
  obtain ⟨P, F, vs', rfl, S⟩ := h
  obtain ⟨w, h1, h2⟩ := S.sl 0 _ rfl
  cases Option.some.inj (Option.some.inj h1)
  exact h2
end Mz

namespace Mz
open PySem PySem.Spec PyProof.Rows L2
/-! ### words for printed proofs: no names of arguments where a judgement's type would be unfolded -/
theorem tr_run {W : Fx} {G : Gm} {P : L2.St → Hp → Prop} (h : Tr W G P) : ∀ σ F H, Sat W G σ F H → P σ H := h.out
section
variable {β S : Type} {W W' : Fx} {G : Gm} {Gs : S → Gm} {RQ : β → V → Hp → Prop} {s : S}
theorem tr_nx (h : Tr W' G (At W (Gs s))) : Tr W' G (LD W Gs RQ (Ctl.next s)).nx := .mk fun σ F H S => ⟨_, rfl, h.out σ F H S⟩
theorem tr_ct (h : Tr W' G (At W (Gs s))) : Tr W' G (LD W Gs RQ (Ctl.next s)).ct := .mk fun σ F H S => ⟨_, rfl, h.out σ F H S⟩
theorem tr_bk (h : Tr W' G (At W (Gs s))) : Tr W' G (LD W Gs RQ (Ctl.brk s)).bk := .mk fun σ F H S => ⟨_, rfl, h.out σ F H S⟩
theorem wk_at {G1 : Gm} (s : S) (h : Wk (Gs s) G1) : Wk (Gs s) G1 := h
end
theorem ix_at {α : Type} {l : List α} {x : α} (i : Nat) (h : l[i]? = some x) : l[i]? = some x := h
theorem ixn_at {n : Nat} {k : Int} (j : Nat) (h : ixN n k = some j) : ixN n k = some j := h
theorem outs_at {Os : List Sd} {l : Addr} (Q : Qd) (h : Os = [own l Q]) : Os = [own l Q] := h
theorem el_nilR {X : Cx} {W : Fx} {G : Gm} {α : Type} (R : Rp α) : EvL X W [] G R [] G := el_nil
/-- G' is G with P at i -/
inductive SetAt (P : Option Sd) : Nat → Gm → Gm → Prop where
  | z {y : Option Sd} {G : Gm} : SetAt P 0 (y :: G) (P :: G)
  | s {y : Option Sd} {i : Nat} {G G' : Gm} : SetAt P i G G' → SetAt P (i + 1) (y :: G) (y :: G')
theorem SetAt.eq {P : Option Sd} : ∀ {i : Nat} {G G' : Gm}, SetAt P i G G' → G' = G.set i P
  | _, _, _, .z => rfl
  | _, _, _, .s h => by rw [SetAt.eq h]; rfl
theorem tr_set {W : Fx} {G G' : Gm} {i : Nat} {P : Option Sd} {Q : L2.St → Hp → Prop} (h : SetAt P i G G') (k : Tr W G' Q) : Tr W (G.set i P) Q := h.eq ▸ k
theorem tr_set2 {W : Fx} {G G' G2 : Gm} {i j : Nat} {P P2 : Option Sd} {Q : L2.St → Hp → Prop} (h : SetAt P i G G') (h2 : SetAt P2 j G' G2) (k : Tr W G2 Q) : Tr W ((G.set i P).set j P2) Q := by
  rw [← h.eq, ← h2.eq]; exact k
theorem ev_set {X : Cx} {W : Fx} {e : Expr} {α : Type} {R : Rp α} {x : α} {G G1 G' : Gm} {i : Nat} {P : Option Sd} (h : Ev X W e G R x (G1.set i P)) (k : SetAt P i G1 G') : Ev X W e G R x G' := k.eq ▸ h
end Mz

namespace Mz
open PySem PySem.Spec PyProof.Rows L2
section
variable {X : Cx} {W : Fx} {G G1 G2 G3 : Gm} {e a b c tg : Expr} {es : List Expr} {α β : Type} {R : Rp α} {T : Rp β} {x : α} {y : β} {pos p p2 : Pos} {D : Ends} {rest : List Stmt} {n : Str} {i : Nat} {l : Addr}
theorem ev_xor {i j : Int} (ha : Ev X W a G RI i G1) (hb : Ev X W b G1 RI j G2) : Ev X W (.BinOp a .BitXor b pos) G RI (Builtin.bitXor i j) G2 := ev_op (op2_I0 op_xor) ha hb
theorem ev_band {i j : Int} (ha : Ev X W a G RI i G1) (hb : Ev X W b G1 RI j G2) : Ev X W (.BinOp a .BitAnd b pos) G RI (Builtin.bitAnd i j) G2 := ev_op (op2_I0 op_and) ha hb
theorem ev_bor {i j : Int} (ha : Ev X W a G RI i G1) (hb : Ev X W b G1 RI j G2) : Ev X W (.BinOp a .BitOr b pos) G RI (Builtin.bitOr i j) G2 := ev_op (op2_I0 op_or) ha hb
/-- x.pop() -/
def popO {α : Type} (as : List α) : Option (List α × α) := match as.getLast? with
  | some x => some (as.dropLast, x)
  | none => none
theorem ev_pop {as : List α} {r : List α × α} {apos cpos p0 : Pos} (hO : popO as = some r) (hN : X.N[i]? = some n) (hv : Vis X.env.scope n) (hG : G[i]? = some (some (own l (QL l R as)))) (hbase : attributeBase (.Name n p0) "pop" X.env (eval (.Name n p0) X.env) = eval (.Name n p0) X.env := by rfl) (hline : (apos.endLine == cpos.line) = true := by rfl)
    (hd : (n == ("__debug__" : Str)) = false := by decide) (hcd : (n == ("__classdict__" : Str)) = false := by decide) : Ev X W (.Call (.Attribute (.Name n p0) "pop" apos) [] [] cpos) G R r.2 (G.set i (some (own l (QL l R r.1)))) := .mk fun σ F H Q S q => by
  obtain ⟨v, h1, rfl, vs, h2, h3⟩ := S.sl i _ hG
  unfold popO at hO
  cases hx : as.getLast? with
  | none => rw [hx] at hO; cases hO
  | some x =>
    rw [hx] at hO
    cases hO
    have hx' : as[as.length - 1]? = some x := by rw [← List.getLast?_eq_getElem?]; exact hx
    obtain ⟨w, hw, rw'⟩ := h3.get hx'
    refine toE (pe_bm0 PySem.F.plainAttrs_list PySem.F.slot_list_pop PySem.F.type_list_pop mt_pop (pe_var hN hv hd hcd) hbase hline) ?_
    refine ⟨.ref l, h1, .inl ⟨rfl, vs, .inl (.inl h2)⟩, l, vs, w, rfl, rfl, h2, by rw [h3.len]; exact hw, ?_⟩
    refine q w F _ (Ex.refl F) (S.mut hG (fun a ha => upd_ne fun z => ha (by rw [z]; exact List.mem_singleton.mpr rfl)) ⟨vs.dropLast, upd_same, ?_⟩ fun a ha => ⟨ha, by rw [List.mem_singleton.mp ha, upd_same]; intro z; cases z⟩) rw'
    rw [List.dropLast_eq_take, List.dropLast_eq_take, h3.len]
    exact h3.take _
/-- list(range(..)) -/
theorem all2_rng {F : Hp} (lo hi : Int) : All2 RI F (rgV lo hi) (rng lo hi) := by
  unfold rgV rng
  show Paired (fun v a => RI.r F v a) _ _
  generalize List.range (hi - lo).toNat = L
  induction L with
  | nil => exact .nil
  | cons a t ih => exact .cons rfl ih
theorem rngOk_rg {i j : Int} (h : rngOk i j = true) : RgOk i j := by
  obtain ⟨⟨h1, h2, h3, h4⟩, h5⟩ := rngOk_of h
  exact ⟨h1, h2, h3, h4, by omega⟩
theorem eo_listR1 {j : Int} {pr : Pos} (hm : X.mg "list" = none) (hm2 : X.mg "range" = none) (ho : rngOk 0 j = true) (ha : Ev X W a G RI j G1) (hc : X.calm = true := by rfl) (hg : Gl X "list" := by rfl) (hg2 : Gl X "range" := by rfl) (hs : starEach [a] X.env = (false, eval a X.env) :: starEach [] X.env := by rfl)
    (hs2 : starEach [.Call (.Name "range" p2) [a] [] pr] X.env = (false, eval (.Call (.Name "range" p2) [a] [] pr) X.env) :: starEach [] X.env := by rfl) : EvO X W (.Call (.Name "list" p) [.Call (.Name "range" p2) [a] [] pr] [] pos) G (fun l => QL l RI (rng 0 j)) G1 := .mk fun σ F H Q S q =>
  toE (pe_listRg hc hg hm (prg_1 hg2 hm2 wE_pe hs) hs2) (ha.out σ F H _ S fun v F' H' e S' r1 => ⟨j, r1, rngOk_rg ho, fun l hl => by
    obtain ⟨s1, s2⟩ := NewO.list S' hl (all2_rng 0 j)
    exact q l F' _ e s1 s2⟩)
theorem eo_listR2 {j k : Int} {pr : Pos} (hm : X.mg "list" = none) (hm2 : X.mg "range" = none) (ho : rngOk j k = true) (ha : Ev X W a G RI j G1) (hb : Ev X W b G1 RI k G2) (hc : X.calm = true := by rfl) (hg : Gl X "list" := by rfl) (hg2 : Gl X "range" := by rfl) (hs : starEach [a, b] X.env = (false, eval a X.env) :: starEach [b] X.env := by rfl) (hs1 : starEach [b] X.env = (false, eval b X.env) :: starEach [] X.env := by rfl) (hp : (backTo pr (starEach [b] X.env)).any (·.1) = false := by rfl)
    (hs2 : starEach [.Call (.Name "range" p2) [a, b] [] pr] X.env = (false, eval (.Call (.Name "range" p2) [a, b] [] pr) X.env) :: starEach [] X.env := by rfl) : EvO X W (.Call (.Name "list" p) [.Call (.Name "range" p2) [a, b] [] pr] [] pos) G (fun l => QL l RI (rng j k)) G2 := .mk fun σ F H Q S q =>
  toE (pe_listRg hc hg hm (prg_2 hg2 hm2 wE_pe wE_pe hs hs1 hp) hs2) (two ha hb S fun v u F' H' e S' r1 r2 => ⟨j, k, r1, r2, rngOk_rg ho, fun l hl => by
    obtain ⟨s1, s2⟩ := NewO.list S' hl (all2_rng j k)
    exact q l F' _ e s1 s2⟩)
/-- tuple(..) -/
theorem ev_tupOf {xs : List α} (hm : X.mg "tuple" = none) (ha : Ev X W a G (RL X.K R) xs G1) (hg : Gl X "tuple" := by rfl) (hs : starEach [a] X.env = (false, eval a X.env) :: starEach [] X.env := by rfl) : Ev X W (.Call (.Name "tuple" p) [a] [] pos) G (RV X.K R) xs G1 := .mk fun σ F H Q S q =>
  toE (pe_tupleOf hg hm wE_pe hs) (ha.out σ F H _ S fun v F' H' e S' r1 => by
    obtain ⟨pa, vs, rfl, h1, h2⟩ := r1
    refine .inl ⟨pa, vs, rfl, ex_sql S'.ex h1, fun t ht => ?_⟩
    have nF : F' t = none := S'.ex.back ht
    exact q (.ref t) (upd F' t (.tup vs)) _ (e.trans (Ex.new nF)) (S'.new ht) ⟨t, vs, rfl, .inl (.inl upd_same), h2.mono (Ex.new nF)⟩)
/-- range(a, b, c), c a written step -/
theorem src_rng3 {i j c : Int} {e1 e2 e3 : Expr} {m : Nat} (hm : X.mg "range" = none) (ho : RgC i j c m) (hl : m ≤ 16777216) (h : Ev X W e1 G RI i G1) (h2 : Ev X W e2 G1 RI j G2) (h3 : Ev X W e3 G2 RI c G3) (hg : Gl X "range" := by rfl)
    (hs : starEach [e1, e2, e3] X.env = (false, eval e1 X.env) :: starEach [e2, e3] X.env := by rfl) (hs2 : starEach [e2, e3] X.env = (false, eval e2 X.env) :: starEach [e3] X.env := by rfl) (hs3 : starEach [e3] X.env = (false, eval e3 X.env) :: starEach [] X.env := by rfl) (hpl : (backTo pos (starEach [e2, e3] X.env)).any (·.1) = false := by rfl) :
    Src X W tg (.Call (.Name "range" p) [e1, e2, e3] [] pos) G RI ((List.range m).map fun (k : Nat) => i + (k : Int) * c) G3 :=
  ⟨_, pi_range3 hg hm (pa_cons wE_pe (pa_cons wE_pe (pa_cons wE_pe pa_nil hs3) hs2) hs) hs hpl, fun σ F H P S q => h.out σ F H _ S fun v1 F1 H1 f1 S1 r1 => h2.out σ F1 H1 _ S1 fun v2 F2 H2 f2 S2 r2 => h3.out σ F2 H2 _ S2 fun v3 F3 H3 f3 S3 r3 => by
    refine ⟨i, j, c, m, by rw [show v1 = V.int i from r1, show v2 = V.int j from r2, show v3 = V.int c from r3], ho, ?_⟩
    have gt : ∀ {k : Nat} {x : Int}, ((List.range m).map fun (k : Nat) => i + (k : Int) * c)[k]? = some x → k < m ∧ x = i + (k : Int) * c := fun {k x} hx => by
      have hk := (List.getElem?_eq_some_iff.mp hx).1
      rw [List.length_map, List.length_range] at hk
      rw [List.getElem?_map, List.getElem?_range hk] at hx
      exact ⟨hk, (Option.some.inj hx).symm⟩
    exact q _ F3 H3 ((f1.trans f2).trans f3) S3 ⟨fun k F H _ _ hk => by rw [List.length_map, List.length_range] at hk; exact hk, fun F H _ _ _ => by rw [List.length_map, List.length_range, sizeLine_eq]; omega, fun k x F H _ _ hx => (gt hx).1, fun k x F H v H' _ b hx hy => ⟨F, Ex.refl F, by rw [hy.1]; exact b, by rw [hy.1]; exact Ex.refl _, fun _ _ => .inl rfl, by
      show v = V.int x
      rw [(gt hx).2]; exact hy.2⟩⟩⟩
end
end Mz

namespace Mz
open PySem PySem.Spec PyProof.Rows L2
/-! ### the least and the greatest of a tuple of ints -/
section
variable {prog : Program} {w : World} {A : Around} {E : Value → Shared → Prop} {s : Shared} {l : Addr} {xs : Array (Int × Tok)} {its : List Value} {ns : List Int}
theorem iter_intTup {Q : Value → Shared → Prop} (hl : s.heap.IsTuple l (intItems xs))
    (h : ∀ s₂ : Shared, s₂ = { s with heap := s.heap.push { cls := .type "tuple_iterator", data := .fields #[.ref l, .int 0 0] } } →
      (s₂.heap.IsTupleIter s.heap.objs.size l 0 ∧ s₂.heap.IsTuple l (intItems xs)) → (∀ b ∈ [s.heap.objs.size, l], b < s₂.heap.objs.size) → l ≠ s.heap.objs.size → Q (.ref s.heap.objs.size) s₂) :
    wpAny (model prog w) A (pyIter (.ref l)) Q E s := by
  have hlt : l < s.heap.objs.size := by obtain ⟨_, e, _⟩ := hl; exact Heap.lt_size e
  refine wpAny_pyIter_tuple hl (h _ rfl ⟨⟨_, Heap.get?_push_size _ rfl, rfl, rfl⟩, hl.at fun o e => Heap.get?_push_of_some _ e⟩ (fun b hb => ?_) (Nat.ne_of_lt hlt))
  show b < (s.heap.push _).objs.size
  rw [Heap.size_push]
  rcases List.mem_cons.mp hb with rfl | hb
  · exact Nat.lt_succ_self _
  · rcases List.mem_cons.mp hb with rfl | hb
    · exact Nat.lt_succ_of_lt hlt
    · cases hb
theorem old_keptT {h' : Heap} (hk : ∀ b o, b ∉ [s.heap.objs.size] → (s.heap.push { cls := .type "tuple_iterator", data := .fields #[.ref l, .int 0 0] }).get? b = some o → h'.get? b = some o) :
    ∀ b o, s.heap.get? b = some o → h'.get? b = some o := fun b o e => by
  refine hk b o (fun hm => ?_) (Heap.get?_push_of_some _ e)
  rcases List.mem_cons.mp hm with e1 | hm
  · exact absurd (e1 ▸ Heap.lt_size e) (Nat.lt_irrefl _)
  · cases hm
theorem max_intTup {Q : Value → Shared → Prop} (hh : A.handled = none) (hl : s.heap.IsTuple l (intItems xs)) (hne : 0 < xs.size)
    (h : ∀ v h' tk, (intItems xs)[argBest (fun i j => decide (numAt xs i > numAt xs j)) (xs.size - 1)]? = some v → (∀ b o, s.heap.get? b = some o → h'.get? b = some o) → Q v { s with heap := h', toks := tk }) :
    wpAny (model prog w) A (call (.builtin "max") [.ref l]) Q E s := by
  refine call_max_walk (iter_intTup hl fun s₂ e st hfp hlI => ?_)
  subst e
  refine ⟨_, _, _, _, _, _, _, rfl, Walks.tuple (A := A.in1) hh _ l hlI (intItems xs), st, hfp, by simpa [intItems] using hne, CmpOf.ints_gt (numAt xs) (fun _ _ => intItems_at), fun v h' tk hP hk => ?_⟩
  exact h v h' tk (by simpa [intItems] using hP) (old_keptT hk)
theorem min_intTup {Q : Value → Shared → Prop} (hh : A.handled = none) (hl : s.heap.IsTuple l (intItems xs)) (hne : 0 < xs.size)
    (h : ∀ v h' tk, (intItems xs)[argBest (fun i j => decide (numAt xs i < numAt xs j)) (xs.size - 1)]? = some v → (∀ b o, s.heap.get? b = some o → h'.get? b = some o) → Q v { s with heap := h', toks := tk }) :
    wpAny (model prog w) A (call (.builtin "min") [.ref l]) Q E s := by
  refine call_min_walk (iter_intTup hl fun s₂ e st hfp hlI => ?_)
  subst e
  refine ⟨_, _, _, _, _, _, _, rfl, Walks.tuple (A := A.in1) hh _ l hlI (intItems xs), st, hfp, by simpa [intItems] using hne, CmpOf.ints_lt (numAt xs) (fun _ _ => intItems_at), fun v h' tk hP hk => ?_⟩
  exact h v h' tk (by simpa [intItems] using hP) (old_keptT hk)
theorem max_rawT {Q : Value → Shared → Prop} (hh : A.handled = none) (hl : s.heap.IsTuple l its.toArray) (hi : IntsAre its ns) (hne : 0 < ns.length)
    (h : ∀ h' tk M t', (∀ b o, s.heap.get? b = some o → h'.get? b = some o) → M ∈ ns → (∀ a, a ∈ ns → a ≤ M) → Q (.int M t') { s with heap := h', toks := tk }) : wpAny (model prog w) A (call (.builtin "max") [.ref l]) Q E s := by
  obtain ⟨xs, e⟩ := hi.allInts.items
  have hn : numsOf (intItems xs).toList = ns := by rw [← e]; exact hi.numsOf
  rw [nums_intItems] at hn
  subst hn
  rw [e] at hl
  have hsz : 0 < xs.size := by simpa using hne
  refine max_intTup hh hl hsz fun v h' tk hv hk => ?_
  obtain ⟨t, rfl⟩ := intItems_at hv
  obtain ⟨h1, h2⟩ := argBest_gt (numAt xs) (xs.size - 1)
  refine h h' tk _ t hk ?_ fun a ha => ?_
  · rw [numAt_eq]; exact PySem.getD_mem (by rw [List.length_map, Array.length_toList]; omega)
  · obtain ⟨j, hj, rfl⟩ := mem_getD ha
    rw [List.length_map, Array.length_toList] at hj
    rw [← numAt_eq]; exact h2 j (by omega)
theorem min_rawT {Q : Value → Shared → Prop} (hh : A.handled = none) (hl : s.heap.IsTuple l its.toArray) (hi : IntsAre its ns) (hne : 0 < ns.length)
    (h : ∀ h' tk M t', (∀ b o, s.heap.get? b = some o → h'.get? b = some o) → M ∈ ns → (∀ a, a ∈ ns → M ≤ a) → Q (.int M t') { s with heap := h', toks := tk }) : wpAny (model prog w) A (call (.builtin "min") [.ref l]) Q E s := by
  obtain ⟨xs, e⟩ := hi.allInts.items
  have hn : numsOf (intItems xs).toList = ns := by rw [← e]; exact hi.numsOf
  rw [nums_intItems] at hn
  subst hn
  rw [e] at hl
  have hsz : 0 < xs.size := by simpa using hne
  refine min_intTup hh hl hsz fun v h' tk hv hk => ?_
  obtain ⟨t, rfl⟩ := intItems_at hv
  obtain ⟨h1, h2⟩ := argBest_lt (numAt xs) (xs.size - 1)
  refine h h' tk _ t hk ?_ fun a ha => ?_
  · rw [numAt_eq]; exact PySem.getD_mem (by rw [List.length_map, Array.length_toList]; omega)
  · obtain ⟨j, hj, rfl⟩ := mem_getD ha
    rw [List.length_map, Array.length_toList] at hj
    rw [← numAt_eq]; exact h2 j (by omega)
end
section
variable {X : Cx}
def rMaxT (K : PySem.W.Frag) : List V → Hp → VK → Prop := fun vs H Q => ∃ (a : Addr) (ns : List Int), vs = [V.ref a] ∧ SqT K H a (ns.map V.int) ∧ 0 < ns.length ∧ ∀ m, m ∈ ns → (∀ y, y ∈ ns → y ≤ m) → Q (.int m) H
def rMinT (K : PySem.W.Frag) : List V → Hp → VK → Prop := fun vs H Q => ∃ (a : Addr) (ns : List Int), vs = [V.ref a] ∧ SqT K H a (ns.map V.int) ∧ 0 < ns.length ∧ ∀ m, m ∈ ns → (∀ y, y ∈ ns → m ≤ y) → Q (.int m) H
theorem cr_maxT (hc : X.calm = true) : CallR X (.builtin "max") (rMaxT X.K) := by
  intro pins s σ H vs us Q I r h
  obtain ⟨a, ns, rfl, hs, hne, q⟩ := h
  obtain ⟨its, rv, hl, _⟩ := I.tuple hs
  rw [Vals.ref1 r]
  exact max_rawT (I.ok.hd hc) hl rv.ints hne fun h' tk m t' hk h1 h2 => ⟨.int _, H, I.kept hk, ⟨_, rfl⟩, q m h1 h2⟩
theorem cr_minT (hc : X.calm = true) : CallR X (.builtin "min") (rMinT X.K) := by
  intro pins s σ H vs us Q I r h
  obtain ⟨a, ns, rfl, hs, hne, q⟩ := h
  obtain ⟨its, rv, hl, _⟩ := I.tuple hs
  rw [Vals.ref1 r]
  exact min_rawT (I.ok.hd hc) hl rv.ints hne fun h' tk m t' hk h1 h2 => ⟨.int _, H, I.kept hk, ⟨_, rfl⟩, q m h1 h2⟩
end
section
variable {X : Cx} {W : Fx} {G G1 G2 G3 : Gm} {e a b c tg : Expr} {es : List Expr} {α β : Type} {R : Rp α} {T : Rp β} {x : α} {y : β} {pos p p2 : Pos} {D : Ends} {rest : List Stmt} {n : Str} {i : Nat} {l : Addr}
theorem ev_maxV {xs : List Int} {m : Int} (h : maxL xs = some m) (hm : X.mg "max" = none) (ha : Ev X W a G (RV X.K RI) xs G1) (hc : X.calm = true := by rfl) (hg : Gl X "max" := by rfl) (hs : starEach [a] X.env = (false, eval a X.env) :: starEach [] X.env := by rfl) : Ev X W (.Call (.Name "max" p) [a] [] pos) G RI m G1 :=
  ev_cb1 (cr_maxT hc) hm (by decide +kernel) ha (fun F H v Q e r q => by
    obtain ⟨pa, vs, rfl, h1, h2⟩ := r
    obtain ⟨g1, g2⟩ := List.max?_eq_some_iff.mp h
    refine ⟨pa, xs, rfl, by rw [← all2_I h2]; exact ex_sqt e h1, List.length_pos_of_mem g1, fun k k1 k2 => ?_⟩
    have e1 : m = k := Int.le_antisymm (k2 m g1) (g2 k k1)
    subst e1
    exact q _ rfl) hg (by decide) (by decide) hs
theorem ev_minV {xs : List Int} {m : Int} (h : minL xs = some m) (hm : X.mg "min" = none) (ha : Ev X W a G (RV X.K RI) xs G1) (hc : X.calm = true := by rfl) (hg : Gl X "min" := by rfl) (hs : starEach [a] X.env = (false, eval a X.env) :: starEach [] X.env := by rfl) : Ev X W (.Call (.Name "min" p) [a] [] pos) G RI m G1 :=
  ev_cb1 (cr_minT hc) hm (by decide +kernel) ha (fun F H v Q e r q => by
    obtain ⟨pa, vs, rfl, h1, h2⟩ := r
    obtain ⟨g1, g2⟩ := List.min?_eq_some_iff.mp h
    refine ⟨pa, xs, rfl, by rw [← all2_I h2]; exact ex_sqt e h1, List.length_pos_of_mem g1, fun k k1 k2 => ?_⟩
    have e1 : m = k := Int.le_antisymm (g2 k k1) (k2 m g1)
    subst e1
    exact q _ rfl) hg (by decide) (by decide) hs
end
end Mz

namespace Mz
open PySem PySem.Spec PyProof.Rows L2
/-! ### lists lent to an expression that changes other things, or whose value is a tuple -/
/-- no tuple -/
def NTp : HO → Prop
  | .tup _ => False
  | .frz _ (.tup _) => False
  | _ => True
/-- F2 is F' without some things that are no tuples -/
def Less (F' F2 : Hp) : Prop := Ex F2 F' ∧ ∀ a o, F' a = some o → F2 a = none → NTp o
/-- a datum that hangs on no list of the heap -/
def Dn {α : Type} (R : Rp α) : Prop := ∀ F' F2 v x, Less F' F2 → R.r F' v x → R.r F2 v x
def DnR {α : Type} (T : Rs α) : Prop := ∀ F' F2 v x, Less F' F2 → T.r F' v x → T.r F2 v x
theorem dn_flat {α : Type} {R : Rp α} (h : Flat R) : Dn R := fun _ _ _ _ _ q => h _ _ _ _ q
theorem less_at {F' F2 : Hp} {p : Addr} {u : HO} (h : Less F' F2) (q : F' p = some u) (n : ¬ NTp u) : F2 p = some u := by
  cases e : F2 p with
  | none => exact absurd (h.2 p _ q e) n
  | some o =>
    have := h.1 p o e
    rw [q] at this
    exact this.symm
theorem less_sqt {K : PySem.W.Frag} {F' F2 : Hp} {p : Addr} {vs : List V} (h : Less F' F2) (q : SqT K F' p vs) : SqT K F2 p vs := by
  rcases q with (q | ⟨o, q⟩) | q
  · exact .inl (.inl (less_at h q fun z => z))
  · exact .inl (.inr ⟨o, less_at h q fun z => z⟩)
  · exact .inr q
theorem dn_all {α : Type} {R : Rp α} (hR : Dn R) {F' F2 : Hp} (h : Less F' F2) : ∀ {vs : List V} {as : List α}, All2 R F' vs as → All2 R F2 vs as := fun {vs as} q => by
  have q' : Paired (fun v a => R.r F' v a) vs as := q
  show Paired (fun v a => R.r F2 v a) vs as
  clear q
  induction q' with
  | nil => exact .nil
  | cons r t ih => exact .cons (hR _ _ _ _ h r) ih
theorem dn_O {α : Type} {R : Rp α} (h : Dn R) : Dn (RO R) := fun F F' v a l q => by
  cases a with
  | none => exact q
  | some a => exact ⟨h F F' v a l q.1, q.2⟩
theorem dn_V {α : Type} {R : Rp α} {K : PySem.W.Frag} (h : Dn R) : Dn (RV K R) := fun F F' v a l q => by
  obtain ⟨p, vs, h1, h2, h3⟩ := q
  exact ⟨p, vs, h1, less_sqt l h2, dn_all h l h3⟩
theorem dn_T {α : Type} {T : Rs α} {K : PySem.W.Frag} (h : DnR T) : Dn (RT K T) := fun F F' v a l q => by
  obtain ⟨p, vs, h1, h2, h3⟩ := q
  exact ⟨p, vs, h1, less_sqt l h2, h _ _ _ _ l h3⟩
theorem dnr_1 {α : Type} {R : Rp α} (h : Dn R) : DnR (R1 R) := fun F F' v a l q => by
  obtain ⟨u, h1, h2⟩ := q
  exact ⟨u, h1, h _ _ _ _ l h2⟩
theorem dnr_C {α β : Type} {R : Rp α} {T : Rs β} (h : Dn R) (h' : DnR T) : DnR (RC R T) := fun F F' v a l q => by
  obtain ⟨u, ws, h1, h2, h3⟩ := q
  exact ⟨u, ws, h1, h _ _ _ _ l h2, h' _ _ _ _ l h3⟩
def DnS (P : Sd) : Prop := ∀ F' F2 H v, Less F' F2 → P.p F' H v → P.p F2 H v
theorem ds_imm {α : Type} {R : Rp α} {x : α} (h : Dn R) : DnS (imm R x) := fun F' F2 H v l q => h F' F2 v x l q
theorem ds_QL {α : Type} {R : Rp α} {as : List α} {l l' : Addr} (h : Dn R) : DnS (own l (QL l' R as)) := fun F' F2 H v z q => by
  obtain ⟨h1, vs, h2, h3⟩ := q
  exact ⟨h1, vs, h2, dn_all h z h3⟩
theorem ds_QS {α : Type} {T : Rs α} {a : α} {l l' : Addr} (h : DnR T) : DnS (own l (QS l' T a)) := fun F' F2 H v z q => by
  obtain ⟨h1, vs, h2, h3⟩ := q
  exact ⟨h1, vs, h2, h _ _ _ _ z h3⟩
structure Fz2 (P P0 : Sd) : Prop extends Fzd P P0 where
  ls : ∀ F H v a, P.p F H v → a ∈ P.fp → ∃ o, H a = some o ∧ NTp o
theorem fz2_list {α : Type} {l : Addr} {R : Rp α} {as : List α} {K : PySem.W.Frag} : Fz2 (own l (QL l R as)) (imm (RL K R) as) :=
  ⟨fz_list, fun F H v a q m => by
    obtain ⟨_, vs, h1, _⟩ := q
    cases List.mem_singleton.mp m
    exact ⟨_, h1, trivial⟩⟩
theorem fz2_listS {α : Type} {l : Addr} {T : Rs α} {a : α} {K : PySem.W.Frag} : Fz2 (own l (QS l T a)) (imm (RLs K T) a) :=
  ⟨fz_listS, fun F H v a q m => by
    obtain ⟨_, vs, h1, _⟩ := q
    cases List.mem_singleton.mp m
    exact ⟨_, h1, trivial⟩⟩
/-- what is lent (L); the slots ahead of it, while it is lent, behind the change, behind the change while it is lent -/
inductive Lx : Gm → Gm → Gm → Gm → Gm → Prop where
  | nil : Lx [] [] [] [] []
  | no {L A B C D : Gm} : Lx L A B C D → Lx (none :: L) (none :: A) (none :: B) (none :: C) (none :: D)
  | im {P : Sd} {L A B C D : Gm} (h : P.fp = []) : Lx L A B C D → Lx (none :: L) (some P :: A) (some P :: B) (some P :: C) (some P :: D)
  | ch {P Q : Sd} {L A B C D : Gm} (h : DnS Q) : Lx L A B C D → Lx (none :: L) (some P :: A) (some P :: B) (some Q :: C) (some Q :: D)
  | fz {P P0 : Sd} {z : Option Sd} {L A B C D : Gm} (h : Fz2 P P0) : Lx L A B C D → Lx (some P :: L) (some P :: A) (some P0 :: B) (some P :: C) (z :: D)
theorem Lx.len : ∀ {L A B C D : Gm}, Lx L A B C D → A.length = L.length ∧ B.length = L.length ∧ C.length = L.length ∧ D.length = L.length
  | _, _, _, _, _, .nil => ⟨rfl, rfl, rfl, rfl⟩
  | _, _, _, _, _, .no t => by simp [t.len]
  | _, _, _, _, _, .im _ t => by simp [t.len]
  | _, _, _, _, _, .ch _ t => by simp [t.len]
  | _, _, _, _, _, .fz _ t => by simp [t.len]
theorem Lx.at : ∀ {L A B C D : Gm}, Lx L A B C D → ∀ i : Nat, (∀ P : Sd, L[i]? = some (some P) → A[i]? = some (some P) ∧ C[i]? = some (some P) ∧ ∃ P0, B[i]? = some (some P0) ∧ Fz2 P P0) ∧
    ((∀ P : Sd, L[i]? ≠ some (some P)) → B[i]? = A[i]? ∧ D[i]? = C[i]? ∧ ∀ P : Sd, C[i]? = some (some P) → (P.fp = [] ∧ A[i]? = some (some P)) ∨ DnS P)
  | _, _, _, _, _, .nil, i => ⟨fun P h => (by simp at h), fun _ => ⟨rfl, rfl, fun P h => (by simp at h)⟩⟩
  | _, _, _, _, _, .no t, 0 => ⟨fun P h => (by simp at h), fun _ => ⟨rfl, rfl, fun P h => (by simp at h)⟩⟩
  | _, _, _, _, _, .no t, i + 1 => t.at i
  | _, _, _, _, _, .im hf t, 0 => ⟨fun P h => (by simp at h), fun _ => ⟨rfl, rfl, fun P h => by
      have e := Option.some.inj (Option.some.inj h)
      subst e
      exact .inl ⟨hf, rfl⟩⟩⟩
  | _, _, _, _, _, .im _ t, i + 1 => t.at i
  | _, _, _, _, _, .ch hd t, 0 => ⟨fun P h => (by simp at h), fun _ => ⟨rfl, rfl, fun P h => by
      have e := Option.some.inj (Option.some.inj h)
      subst e
      exact .inr hd⟩⟩
  | _, _, _, _, _, .ch _ t, i + 1 => t.at i
  | _, _, _, _, _, .fz hz t, 0 => ⟨fun P h => by
      have e := Option.some.inj (Option.some.inj h)
      subst e
      exact ⟨rfl, rfl, _, rfl, hz⟩, fun h => absurd rfl (h _)⟩
  | _, _, _, _, _, .fz _ t, i + 1 => t.at i
open Classical in
theorem lend2_go {W : Fx} {L G G0 G1 G01 : Gm} {σ : L2.St} {F H : Hp} (hl : Lx L G G0 G1 G01) (S : Sat W G σ F H) :
    ∃ F0, Ex F F0 ∧ Sat W G0 σ F0 H ∧ ∀ F' H', Ex F0 F' → Sat W G01 σ F' H' → (∃ F2, Ex F F2 ∧ Less F' F2 ∧ Sat W G1 σ F2 H') ∧ ∀ (i : Nat) (P : Sd) (a : Addr), L[i]? = some (some P) → a ∈ P.fp → F' a ≠ none := by
  let own? : Addr → Prop := fun a => ∃ (i : Nat) (P : Sd), L[i]? = some (some P) ∧ a ∈ P.fp
  have own_fr : ∀ a, own? a → F a = none ∧ W.w a = none ∧ H a ≠ none := fun a ⟨i, P, h1, h2⟩ => S.fr i P a ((hl.at i).1 P h1).1 h2
  have own_ls : ∀ a, own? a → ∃ o, H a = some o ∧ NTp o := fun a ⟨i, P, h1, h2⟩ => by
    obtain ⟨g1, _, P0, _, g3⟩ := (hl.at i).1 P h1
    obtain ⟨v, _, q⟩ := S.sl i P g1
    exact g3.ls F H v a q h2
  have e0 : Ex F (fun a => if own? a then H a else F a) := fun a o h => by
    show (if own? a then H a else F a) = some o
    rw [if_neg fun z => by rw [(own_fr a z).1] at h; cases h]
    exact h
  have lentOr : ∀ i : Nat, (∃ P : Sd, L[i]? = some (some P)) ∨ ∀ P : Sd, L[i]? ≠ some (some P) := fun i => by
    by_cases z : ∃ P : Sd, L[i]? = some (some P)
    · exact .inl z
    · exact .inr fun P h => z ⟨P, h⟩
  refine ⟨fun a => if own? a then H a else F a, e0, ⟨S.len.trans (hl.len.1.trans hl.len.2.1.symm), fun a o h => ?_, S.f0.trans e0, S.wx, fun a h => ?_, fun i P0 h => ?_, fun i j P Q a h1 h2 m1 m2 => ?_, fun i P a h m => ?_, S.tt.go S.tt.w0 (fun p hp => ?_) (fun p hp i P h m => ?_) (fun p _ o h => h) fun c q h => e0 _ _ h⟩, fun F' H' e1 T => ⟨?_, fun i P a z1 z2 => ?_⟩⟩
  · have h' : (if own? a then H a else F a) = some o := h
    by_cases z : own? a
    · rw [if_pos z] at h'; exact h'
    · rw [if_neg z] at h'; exact S.ex a o h'
  · show (if own? a then H a else F a) = none ∨ _
    rw [if_neg fun z => h (own_fr a z).2.1]
    exact S.wf a h
  · rcases lentOr i with ⟨P, z⟩ | z
    · obtain ⟨g1, _, P0', g2, g3⟩ := (hl.at i).1 P z
      have ee := Option.some.inj (Option.some.inj (g2.symm.trans h))
      subst ee
      obtain ⟨v, h4, h5⟩ := S.sl i P g1
      exact ⟨v, h4, g3.to F _ H v e0 (fun a ha => if_pos ⟨i, P, z, ha⟩) h5⟩
    · rw [((hl.at i).2 z).1] at h
      obtain ⟨v, h4, h5⟩ := S.sl i P0 h
      exact ⟨v, h4, P0.st e0 (fun _ _ => rfl) h5⟩
  · have cl : ∀ (i : Nat) (P : Sd), G0[i]? = some (some P) → a ∈ P.fp → G[i]? = some (some P) := fun i P h m => by
      rcases lentOr i with ⟨P', z⟩ | z
      · obtain ⟨_, _, P0', g2, g3⟩ := (hl.at i).1 P' z
        have ee := Option.some.inj (Option.some.inj (g2.symm.trans h))
        rw [← ee, g3.fp0] at m; exact nomatch m
      · rw [((hl.at i).2 z).1] at h; exact h
    exact S.dj i j P Q a (cl i P h1 m1) (cl j Q h2 m2) m1 m2
  · rcases lentOr i with ⟨P', z⟩ | z
    · obtain ⟨_, _, P0', g2, g3⟩ := (hl.at i).1 P' z
      have ee := Option.some.inj (Option.some.inj (g2.symm.trans h))
      rw [← ee, g3.fp0] at m; exact nomatch m
    · rw [((hl.at i).2 z).1] at h
      obtain ⟨q1, q2, q3⟩ := S.fr i P a h m
      refine ⟨?_, q2, q3⟩
      show (if own? a then H a else F a) = none
      rw [if_neg fun ⟨j, Q, y1, y2⟩ => by
        have := S.dj i j P Q a h ((hl.at j).1 Q y1).1 m y2
        subst this
        exact z Q y1]
      exact q1
  · show (if own? p.1 then H p.1 else F p.1) = none
    rw [if_neg fun ⟨i, P, h1, h2⟩ => S.tt.G0 p hp i P ((hl.at i).1 P h1).1 h2]
    exact S.tt.F0 p hp
  · rcases lentOr i with ⟨P', z⟩ | z
    · obtain ⟨_, _, P0', g2, g3⟩ := (hl.at i).1 P' z
      have ee := Option.some.inj (Option.some.inj (g2.symm.trans h))
      rw [← ee, g3.fp0] at m; exact nomatch m
    · rw [((hl.at i).2 z).1] at h
      exact S.tt.G0 p hp i P h m
  · have e2 : Ex F (fun a => if own? a then none else F' a) := fun a o h => by
      show (if own? a then none else F' a) = some o
      rw [if_neg fun z => by rw [(own_fr a z).1] at h; cases h]
      exact e1 a o (e0 a o h)
    have ownF : ∀ a, own? a → F' a = H a ∧ H' a = H a := fun a z => by
      cases q : H a with
      | none => exact absurd q (own_fr a z).2.2
      | some o =>
        have f := e1 a o (by show (if own? a then H a else F a) = some o; rw [if_pos z]; exact q)
        exact ⟨f, T.ex a o f⟩
    have less : Less F' (fun a => if own? a then none else F' a) := by
      refine ⟨fun a o h => ?_, fun a o h1 h2 => ?_⟩
      · have h' : (if own? a then none else F' a) = some o := h
        by_cases z : own? a
        · rw [if_pos z] at h'; cases h'
        · rw [if_neg z] at h'; exact h'
      · have h' : (if own? a then none else F' a) = none := h2
        by_cases z : own? a
        · obtain ⟨o', q, q2⟩ := own_ls a z
          rw [(ownF a z).1, q] at h1
          cases h1
          exact q2
        · rw [if_neg z, h1] at h'; cases h'
    refine ⟨fun a => if own? a then none else F' a, e2, less, ⟨S.len.trans (hl.len.1.trans hl.len.2.2.1.symm), fun a o h => T.ex a o (less.1 a o h), S.f0.trans e2, T.wx, fun a h => ?_, fun i P h => ?_, fun i j P Q a h1 h2 m1 m2 => ?_, fun i P a h m => ?_, T.tt.go T.tt.w0 (fun p hp => ?_) (fun p hp i P h m => ?_) (fun p _ o h => h) fun c q h => ?_⟩⟩
    · show (if own? a then none else F' a) = none ∨ _
      by_cases z : own? a
      · exact .inl (if_pos z)
      · rw [if_neg z]; exact T.wf a h
    · rcases lentOr i with ⟨P', z⟩ | z
      · obtain ⟨g1, g2, _⟩ := (hl.at i).1 P' z
        have ee := Option.some.inj (Option.some.inj (g2.symm.trans h))
        rw [← ee]
        obtain ⟨v, h4, h5⟩ := S.sl i _ g1
        exact ⟨v, h4, P'.st e2 (fun a ha => (ownF a ⟨i, P', z, ha⟩).2) h5⟩
      · obtain ⟨_, g2, g3⟩ := (hl.at i).2 z
        rcases g3 P h with ⟨g4, g5⟩ | g4
        · obtain ⟨v, h4, h5⟩ := S.sl i P g5
          exact ⟨v, h4, P.st e2 (fun a ha => absurd ha (by rw [g4]; exact List.not_mem_nil)) h5⟩
        · rw [← g2] at h
          obtain ⟨v, h4, h5⟩ := T.sl i P h
          exact ⟨v, h4, g4 _ _ H' v less h5⟩
    · have side : ∀ (i : Nat) (P : Sd), G1[i]? = some (some P) → a ∈ P.fp → (L[i]? = some (some P) ∧ G[i]? = some (some P)) ∨ G01[i]? = some (some P) := fun i P h m => by
        rcases lentOr i with ⟨P', z⟩ | z
        · obtain ⟨g1, g2, _⟩ := (hl.at i).1 P' z
          have ee := Option.some.inj (Option.some.inj (g2.symm.trans h))
          rw [← ee]
          exact .inl ⟨z, g1⟩
        · rw [((hl.at i).2 z).2.1]; exact .inr h
      have non : ∀ (i : Nat) (P : Sd), G01[i]? = some (some P) → a ∈ P.fp → ¬ own? a := fun i P h m z => by
        have := (T.fr i P a h m).1
        rw [(ownF a z).1] at this
        exact (own_fr a z).2.2 this
      rcases side i P h1 m1 with ⟨y1, x1⟩ | x1 <;> rcases side j Q h2 m2 with ⟨y2, x2⟩ | x2
      · exact S.dj i j P Q a x1 x2 m1 m2
      · exact absurd ⟨i, P, y1, m1⟩ (non j Q x2 m2)
      · exact absurd ⟨j, Q, y2, m2⟩ (non i P x1 m1)
      · exact T.dj i j P Q a x1 x2 m1 m2
    · rcases lentOr i with ⟨P', z⟩ | z
      · obtain ⟨g1, g2, _⟩ := (hl.at i).1 P' z
        have ee := Option.some.inj (Option.some.inj (g2.symm.trans h))
        rw [← ee] at m
        have o : own? a := ⟨i, P', z, m⟩
        exact ⟨if_pos o, (own_fr a o).2.1, by rw [(ownF a o).2]; exact (own_fr a o).2.2⟩
      · rw [← ((hl.at i).2 z).2.1] at h
        obtain ⟨q1, q2, q3⟩ := T.fr i P a h m
        refine ⟨?_, q2, q3⟩
        show (if own? a then none else F' a) = none
        by_cases y : own? a
        · rw [if_pos y]
        · rw [if_neg y]; exact q1
    · show (if own? p.1 then none else F' p.1) = none
      by_cases y : own? p.1
      · rw [if_pos y]
      · rw [if_neg y]; exact T.tt.F0 p hp
    · rcases lentOr i with ⟨P', z⟩ | z
      · obtain ⟨g1, g2, _⟩ := (hl.at i).1 P' z
        have ee := Option.some.inj (Option.some.inj (g2.symm.trans h))
        rw [← ee] at m
        exact S.tt.G0 p hp i P' g1 m
      · rw [← ((hl.at i).2 z).2.1] at h
        exact T.tt.G0 p hp i P h m
    · show (if own? c then none else F' c) = _
      rw [if_neg fun z => by
        obtain ⟨o, h1, h2⟩ := own_ls c z
        obtain ⟨i, P, h3, h4⟩ := z
        obtain ⟨g1, _⟩ := (hl.at i).1 P h3
        obtain ⟨v, _, p⟩ := S.sl i P g1
        obtain ⟨o', h5, h6⟩ := P.nt p c h4
        rw [(ownF c ⟨i, P, h3, h4⟩).1, h5] at h
        cases h
        exact pl_code h6]
      exact h
  · have z : own? a := ⟨i, P, z1, z2⟩
    intro no
    cases q : H a with
    | none => exact (own_fr a z).2.2 q
    | some o =>
      have := e1 a o (by show (if own? a then H a else F a) = some o; rw [if_pos z]; exact q)
      rw [no] at this
      cases this
section
variable {X : Cx} {W : Fx} {L G G0 G1 G01 G2 : Gm} {D : Ends} {e a b : Expr} {rest : List Stmt} {α β : Type} {R : Rp α} {x : α} {pos p p' : Pos} {n : Str} {i : Nat} {l : Addr}
theorem ev_lend2 (hl : Lx L G G0 G1 G01) (hf : Dn R) (h : Ev X W e G0 R x G01) : Ev X W e G R x G1 := .mk fun σ F H Q S q => by
  obtain ⟨F0, e0, S0, bk⟩ := lend2_go hl S
  refine h.out σ F0 H Q S0 fun v F' H' e1 S' r => ?_
  obtain ⟨⟨F2, e2, l2, S2⟩, _⟩ := bk F' H' e1 S'
  exact q v F2 H' e2 S2 (hf _ _ _ _ l2 r)
theorem eo_lend2 {xs : List α} (hl : Lx L G G0 G1 G01) (hf : Dn R) (h : EvO X W e G0 (fun l => QL l R xs) G01) : EvO X W e G (fun l => QL l R xs) G1 := .mk fun σ F H Q S q => by
  obtain ⟨F0, e0, S0, bk⟩ := lend2_go hl S
  refine h.out σ F0 H Q S0 fun l F' H' e1 S' n1 => ?_
  obtain ⟨⟨F2, e2, l2, S2⟩, own⟩ := bk F' H' e1 S'
  obtain ⟨⟨vs, k1, k2⟩, k3⟩ := n1
  refine q l F2 H' e2 S2 ⟨⟨vs, k1, dn_all hf l2 k2⟩, fun a ha => ?_⟩
  obtain ⟨m1, m2, m3, m4⟩ := k3 a ha
  refine ⟨?_, m2, m3, fun j P hj hm => ?_⟩
  · cases z : F2 a with
    | none => rfl
    | some o => exact absurd (l2.1 a o z) (by rw [m1]; intro w; cases w)
  · by_cases z : ∃ P : Sd, L[j]? = some (some P)
    · obtain ⟨P', z⟩ := z
      obtain ⟨_, g2, _⟩ := (hl.at j).1 P' z
      have ee := Option.some.inj (Option.some.inj (g2.symm.trans hj))
      rw [← ee] at hm
      exact own j P' a z hm m1
    · have := ((hl.at j).2 fun P w => z ⟨P, w⟩).2.1
      rw [← this] at hj
      exact m4 j P hj hm
theorem et_lend2 {k : Bool} (hl : Lx L G G0 G1 G01) (h : EvT X W e G0 k G01) : EvT X W e G k G1 := .mk fun σ F H Q S q => by
  obtain ⟨F0, e0, S0, bk⟩ := lend2_go hl S
  refine h.out σ F0 H Q S0 fun F' H' e1 S' => ?_
  obtain ⟨⟨F2, e2, l2, S2⟩, _⟩ := bk F' H' e1 S'
  exact q F2 H' e2 S2
/-- a tuple of alike items as a tuple of any length -/
inductive Ht {β : Type} (R : Rp β) : {α : Type} → Rs α → (α → List β) → Prop where
  | one : Ht R (R1 R) fun a => [a]
  | cons {α : Type} {T : Rs α} {f : α → List β} (h : Ht R T f) : Ht R (RC R T) fun a => a.1 :: f a.2
theorem Ht.all {β : Type} {R : Rp β} : ∀ {α : Type} {T : Rs α} {f : α → List β}, Ht R T f → ∀ {F : Hp} {vs : List V} {a : α}, T.r F vs a → All2 R F vs (f a)
  | _, _, _, .one, F, vs, a, h => by
    obtain ⟨v, rfl, h2⟩ := h
    exact Paired.cons h2 .nil
  | _, _, _, .cons t, F, vs, a, h => by
    obtain ⟨v, ws, rfl, h2, h3⟩ := h
    exact Paired.cons h2 (t.all h3)
theorem ev_toV {β : Type} {R : Rp β} {T : Rs α} {f : α → List β} (hh : Ht R T f) (h : Ev X W e G (RT X.K T) x G1) : Ev X W e G (RV X.K R) (f x) G1 := .mk fun σ F H Q S q =>
  h.out σ F H Q S fun v F' H' e1 S' r => by
    obtain ⟨p, vs, h1, h2, h3⟩ := r
    exact q v F' H' e1 S' ⟨p, vs, h1, h2, hh.all h3⟩
variable {rs : List Expr} {k m : Bool} {c : Expr}
theorem ew_andS (h : EvT X W a G k G1) (h2 : k = true → EvW X W (.BoolOp .And (b :: rs) pos) G1 m G2) (h3 : k = false → m = false ∧ G2 = G1) : EvW X W (.BoolOp .And (a :: b :: rs) pos) G m G2 := .mk fun σ F H Q S q =>
  toW (pw_and wT_pt wW_pw) (h.out σ F H _ S fun F1 H1 e1 S1 => by
    cases k with
    | true => exact (h2 rfl).out σ F1 H1 _ S1 fun F2 H2 e2 S2 => q F2 H2 (e1.trans e2) S2
    | false =>
      obtain ⟨e, e2⟩ := h3 rfl
      subst e e2
      exact q F1 H1 e1 S1)
theorem ew_orS (h : EvT X W a G k G1) (h2 : k = false → EvW X W (.BoolOp .Or (b :: rs) pos) G1 m G2) (h3 : k = true → m = true ∧ G2 = G1) : EvW X W (.BoolOp .Or (a :: b :: rs) pos) G m G2 := .mk fun σ F H Q S q =>
  toW (pw_or wT_pt wW_pw) (h.out σ F H _ S fun F1 H1 e1 S1 => by
    cases k with
    | false => exact (h2 rfl).out σ F1 H1 _ S1 fun F2 H2 e2 S2 => q F2 H2 (e1.trans e2) S2
    | true =>
      obtain ⟨e, e2⟩ := h3 rfl
      subst e e2
      exact q F1 H1 e1 S1)
theorem ev_andS (h : Ev X W a G RB k G1) (h2 : k = true → Ev X W (.BoolOp .And (b :: rs) pos) G1 RB m G2) (h3 : k = false → m = false ∧ G2 = G1) : Ev X W (.BoolOp .And (a :: b :: rs) pos) G RB m G2 := .mk fun σ F H Q S q =>
  toE (pe_and wE_pe wE_pe) (h.out σ F H _ S fun v F1 H1 e1 S1 r1 => ⟨k, r1, by
    cases k with
    | true => exact (h2 rfl).out σ F1 H1 _ S1 fun v F2 H2 e2 S2 r2 => q v F2 H2 (e1.trans e2) S2 r2
    | false =>
      obtain ⟨e, e2⟩ := h3 rfl
      subst e e2
      exact q _ F1 H1 e1 S1 rfl⟩)
theorem ev_orS (h : Ev X W a G RB k G1) (h2 : k = false → Ev X W (.BoolOp .Or (b :: rs) pos) G1 RB m G2) (h3 : k = true → m = true ∧ G2 = G1) : Ev X W (.BoolOp .Or (a :: b :: rs) pos) G RB m G2 := .mk fun σ F H Q S q =>
  toE (pe_or wE_pe wE_pe) (h.out σ F H _ S fun v F1 H1 e1 S1 r1 => ⟨k, r1, by
    cases k with
    | false => exact (h2 rfl).out σ F1 H1 _ S1 fun v F2 H2 e2 S2 r2 => q v F2 H2 (e1.trans e2) S2 r2
    | true =>
      obtain ⟨e, e2⟩ := h3 rfl
      subst e e2
      exact q _ F1 H1 e1 S1 rfl⟩)
/-- an item of an own list -/
theorem ev_ixOwn {xs : List α} {j : Int} {p0 : Pos} (h : ix xs j = some x) (hN : X.N[i]? = some n) (hv : Vis X.env.scope n) (hG : G[i]? = some (some (own l (QL l R xs)))) (hb : Ev X W b G RI j G1) (hG1 : G1[i]? = some (some (own l (QL l R xs)))) (hs : PlainIx b := by exact fun _ _ => rfl)
    (hd : (n == ("__debug__" : Str)) = false := by decide) (hcd : (n == ("__classdict__" : Str)) = false := by decide) : Ev X W (.Subscript (.Name n p0) b pos) G R x G1 := .mk fun σ F H Q S q => by
  obtain ⟨v, h1, rfl, _⟩ := S.sl i _ hG
  refine toE (pe_ix ix_list (pe_var hN hv hd hcd) wE_pe hs) ⟨.ref l, h1, hb.out σ F H _ S fun u F' H' e S' r2 => ?_⟩
  obtain ⟨v', h1', _, vs, h2, h3⟩ := S'.sl i _ hG1
  obtain ⟨j', h5, h6, h7, h8, h9⟩ := atI_get h
  obtain ⟨w, h10, h11⟩ := h3.get h6
  refine ⟨l, vs, j, w, rfl, r2, .inl (.inl h2), ?_, q w F' H' e S' h11⟩
  show atI vs j = some w
  unfold atI
  rw [h3.len]
  unfold ix atI at h
  cases hn : ixN xs.length j with
  | none => rw [hn] at h; cases h
  | some k' =>
    rw [hn] at h
    have hk : xs[k']? = some x := h
    obtain ⟨w', h8', h9'⟩ := h3.get hk
    have : k' = j' := by
      have := (ixN_seq hn).1
      rw [this] at h5
      exact Option.some.inj h5
    subst this
    exact h10
end
/-! ### a list taken apart -/
def un1 {α : Type} (xs : List α) : Option α := match xs with | [a] => some a | _ => none
def un2 {α : Type} (xs : List α) : Option (α × α) := match xs with | [a, b] => some (a, b) | _ => none
def un3 {α : Type} (xs : List α) : Option (α × α × α) := match xs with | [a, b, c] => some (a, b, c) | _ => none
def un4 {α : Type} (xs : List α) : Option (α × α × α × α) := match xs with | [a, b, c, d] => some (a, b, c, d) | _ => none
def un5 {α : Type} (xs : List α) : Option (α × α × α × α × α) := match xs with | [a, b, c, d, e] => some (a, b, c, d, e) | _ => none
theorem un2_eq {α : Type} {xs : List α} {t : α × α} (h : un2 xs = some t) : xs = [t.1, t.2] := by
  unfold un2 at h
  split at h
  · cases h; rfl
  · cases h
theorem un3_eq {α : Type} {xs : List α} {t : α × α × α} (h : un3 xs = some t) : xs = [t.1, t.2.1, t.2.2] := by
  unfold un3 at h
  split at h
  · cases h; rfl
  · cases h
theorem un4_eq {α : Type} {xs : List α} {t : α × α × α × α} (h : un4 xs = some t) : xs = [t.1, t.2.1, t.2.2.1, t.2.2.2] := by
  unfold un4 at h
  split at h
  · cases h; rfl
  · cases h
theorem un5_eq {α : Type} {xs : List α} {t : α × α × α × α × α} (h : un5 xs = some t) : xs = [t.1, t.2.1, t.2.2.1, t.2.2.2.1, t.2.2.2.2] := by
  unfold un5 at h
  split at h
  · cases h; rfl
  · cases h
theorem Ht.back {β : Type} {R : Rp β} : ∀ {α : Type} {T : Rs α} {f : α → List β}, Ht R T f → ∀ {F : Hp} {vs : List V} {a : α}, All2 R F vs (f a) → T.r F vs a
  | _, _, _, .one, F, vs, a, h => by
    have h' : Paired (fun v a => R.r F v a) vs [a] := h
    cases h' with
    | cons r t => cases t; exact ⟨_, rfl, r⟩
  | _, _, _, .cons (f := f) t, F, vs, a, h => by
    have h' : Paired (fun v a => R.r F v a) vs (a.1 :: f a.2) := h
    cases h' with
    | cons r u => exact ⟨_, _, rfl, r, t.back u⟩
section
variable {X : Cx} {W : Fx} {L G G0 G1 G01 G2 : Gm} {D : Ends} {e a b : Expr} {rest : List Stmt} {α β : Type} {R : Rp α} {x : α} {pos p p' : Pos} {n : Str} {i : Nat} {l : Addr}
theorem ev_toLs {β : Type} {R : Rp β} {T : Rs α} {f : α → List β} {xs : List β} (hh : Ht R T f) (hx : xs = f x) (h : Ev X W e G (RL X.K R) xs G1) : Ev X W e G (RLs X.K T) x G1 := .mk fun σ F H Q S q =>
  h.out σ F H Q S fun v F' H' e1 S' r => by
    obtain ⟨p, vs, h1, h2, h3⟩ := r
    exact q v F' H' e1 S' ⟨p, vs, h1, h2, hh.back (hx ▸ h3)⟩
theorem tg_lst {τ : Type} {K : Rs τ} {t : τ} {k} {ts : List Expr} {ss : List Nat} (h : TgR X W ts ss G K t G1) (hn : (assignEach ts X.env).length = K.n := by rfl) (hc : X.calm = true := by rfl) (hst : (assignEach ts X.env).findIdx? (·.1) = none := by rfl) : Tg X W (.Tuple ts k pos) ss G (RLs X.K K) t G1 := .mk fun σ F H v Q S r q => by
  obtain ⟨p, vs, rfl, h1, h2⟩ := r
  exact toG (pg_unl hc wGs_pgs hn hst) ⟨p, vs, rfl, ex_sql S.ex h1, K.len h2, h.out σ F H vs Q S h2 q⟩
theorem tr_runW {body : List Stmt} {D : Ends} {σ : L2.St} {H : Hp} (h : Tr W G (wS X body D)) (F : Hp) (S : Sat W G σ F H) : wS X body D σ H := h.out σ F H S
end
end Mz

namespace Mz
open PySem PySem.Spec PyProof.Rows L2
/-! ### two things handed over to a def -/
open Classical in
noncomputable def Fx.rest2 (W : Fx) (F H : Hp) (fp fp2 : List Addr) : Fx := ⟨fun a => if F a = none ∧ a ∉ fp ∧ a ∉ fp2 ∧ ∀ p ∈ W.tb, a ≠ p.1 then H a else none, F, W.tb⟩
theorem rest2_in {W : Fx} {F H : Hp} {fp fp2 : List Addr} {a : Addr} (h : F a = none) (k : a ∉ fp) (k2 : a ∉ fp2) (n : ∀ p ∈ W.tb, a ≠ p.1) : (W.rest2 F H fp fp2).w a = H a := if_pos ⟨h, k, k2, n⟩
theorem rest2_out {W : Fx} {F H : Hp} {fp fp2 : List Addr} {a : Addr} (h : ¬ (F a = none ∧ a ∉ fp ∧ a ∉ fp2 ∧ ∀ p ∈ W.tb, a ≠ p.1)) : (W.rest2 F H fp fp2).w a = none := if_neg h
theorem Sat.args2 {W : Fx} {G : Gm} {σ : L2.St} {F H : Hp} {vs : List V} {Ps : List Sd} {i i2 j j2 : Nat} {l l2 : Addr} {Q Q2 : Qd} (S : Sat W G σ F H) (h : Avs F H vs Ps) (hi : G[i]? = some (some (own l Q))) (hi2 : G[i2]? = some (some (own l2 Q2))) (hne : i ≠ i2) (hj : Ps[j]? = some (bare l)) (hj2 : Ps[j2]? = some (bare l2)) (hjn : j ≠ j2) :
    Sat (W.rest2 F H Q.fp Q2.fp) (((Ps.set j (own l Q)).set j2 (own l2 Q2)).map some) (vs.map some) F H := by
  have old : ∀ (m : Nat) (P : Sd), (((Ps.set j (own l Q)).set j2 (own l2 Q2)).map some)[m]? = some (some P) → (m = j ∧ P = own l Q) ∨ (m = j2 ∧ P = own l2 Q2) ∨ (∃ v, vs[m]? = some v ∧ P.fp = [] ∧ P.p F H v) := fun m P e => by
    rw [List.getElem?_map] at e
    cases q : ((Ps.set j (own l Q)).set j2 (own l2 Q2))[m]? with
    | none => rw [q] at e; cases e
    | some P' =>
      rw [q] at e
      cases Option.some.inj (Option.some.inj e)
      rcases get_set q with ⟨e1, e2⟩ | ⟨n, e2⟩
      · exact .inr (.inl ⟨e1, e2⟩)
      · rcases get_set e2 with ⟨e3, e4⟩ | ⟨n2, e4⟩
        · exact .inl ⟨e3, e4⟩
        · exact .inr (.inr (p2_get h e4))
  have slot : ∀ {k k2 : Nat} {a : Addr} {U : Qd}, G[k]? = some (some (own a U)) → Ps[k2]? = some (bare a) → ∃ v, (vs.map some)[k2]? = some (some v) ∧ (own a U).p F H v := fun {k k2 a U} g p => by
    obtain ⟨v, h1, h2, h3⟩ := p2_get h p
    obtain ⟨w, h4, h5⟩ := S.sl k _ g
    have e' : v = .ref a := h3
    subst e'
    exact ⟨.ref a, by rw [List.getElem?_map, h1]; rfl, rfl, h5.2⟩
  refine ⟨by rw [List.length_map, List.length_map, List.length_set, List.length_set, Paired.length h], S.ex, Ex.refl F, fun a o e => ?_, fun a e => ?_, fun m P e => ?_, fun m k P T a e1 e2 m1 m2 => ?_, fun m P a e hm => ?_, S.tt.go (fun p hp => rest2_out fun z => z.2.2.2 p hp rfl) S.tt.F0 (fun p hp m P e hm => ?_) (fun p _ o h => h) fun c q h => h⟩
  · by_cases z : F a = none ∧ a ∉ Q.fp ∧ a ∉ Q2.fp ∧ ∀ p ∈ W.tb, a ≠ p.1
    · rw [rest2_in z.1 z.2.1 z.2.2.1 z.2.2.2] at e; exact e
    · rw [rest2_out z] at e; cases e
  · by_cases z : F a = none ∧ a ∉ Q.fp ∧ a ∉ Q2.fp ∧ ∀ p ∈ W.tb, a ≠ p.1
    · exact .inl z.1
    · rw [rest2_out z] at e; exact absurd rfl e
  · rcases old m P e with ⟨rfl, rfl⟩ | ⟨rfl, rfl⟩ | ⟨v, h1, h2, h3⟩
    · exact slot hi hj
    · exact slot hi2 hj2
    · exact ⟨v, by rw [List.getElem?_map, h1]; rfl, h3⟩
  · rcases old m P e1 with ⟨rfl, rfl⟩ | ⟨rfl, rfl⟩ | ⟨v, h1, h2, h3⟩
    · rcases old k T e2 with ⟨rfl, rfl⟩ | ⟨rfl, rfl⟩ | ⟨v2, h12, h22, h32⟩
      · rfl
      · exact absurd (S.dj i i2 _ _ a hi hi2 m1 m2) hne
      · rw [h22] at m2; exact nomatch m2
    · rcases old k T e2 with ⟨rfl, rfl⟩ | ⟨rfl, rfl⟩ | ⟨v2, h12, h22, h32⟩
      · exact absurd (S.dj i i2 _ _ a hi hi2 m2 m1) hne
      · rfl
      · rw [h22] at m2; exact nomatch m2
    · rw [h2] at m1; exact nomatch m1
  · rcases old m P e with ⟨rfl, rfl⟩ | ⟨rfl, rfl⟩ | ⟨v, h1, h2, h3⟩
    · obtain ⟨q1, q2, q3⟩ := S.fr i _ a hi hm
      exact ⟨q1, rest2_out fun z => z.2.1 hm, q3⟩
    · obtain ⟨q1, q2, q3⟩ := S.fr i2 _ a hi2 hm
      exact ⟨q1, rest2_out fun z => z.2.2.1 hm, q3⟩
    · rw [h2] at hm; exact nomatch hm
  · rcases old m P e with ⟨rfl, rfl⟩ | ⟨rfl, rfl⟩ | ⟨v, h1, h2, h3⟩
    · exact S.tt.G0 p hp i _ hi hm
    · exact S.tt.G0 p hp i2 _ hi2 hm
    · rw [h2] at hm; exact nomatch hm
theorem back2 {W : Fx} {G : Gm} {σ : L2.St} {F H : Hp} {i i2 : Nat} {l l2 : Addr} {Q Q' Q2 Q2' : Qd} {P : Sd} {v : V} {vs' : L2.St} {F' H' : Hp} (S : Sat W G σ F H) (hi : G[i]? = some (some (own l Q))) (hi2 : G[i2]? = some (some (own l2 Q2))) (hne : i ≠ i2)
    (S' : Sat (W.rest2 F H Q.fp Q2.fp) (some P :: [some (own l Q'), some (own l2 Q2')]) (some v :: vs') F' H') :
    Sat W ((G.set i (some (own l Q'))).set i2 (some (own l2 Q2'))) σ F' H' ∧ P.p F' H' v := by
  have kp : ∀ a, a ∉ Q.fp → a ∉ Q2.fp → (∀ p ∈ W.tb, a ≠ p.1) → H a ≠ none → H' a = H a ∧ (F' a = F a ∨ ∃ xs, H a = some (.tup xs)) := fun a n n2 nt h => by
    by_cases z : F a = none
    · have w := rest2_in (W := W) (H := H) z n n2 nt
      constructor
      · cases q : H a with
        | none => exact absurd q h
        | some o => exact S'.wx a o (w.trans q)
      · rcases S'.wf a (by rw [w]; exact h) with e | ⟨xs, e⟩
        · rw [z]; exact .inl e
        · rw [w] at e; exact .inr ⟨xs, e⟩
    · cases q : F a with
      | none => exact absurd q z
      | some u =>
        have f1 := S'.f0 a u q
        rw [S.ex a u q, f1]
        exact ⟨S'.ex a u f1, .inl rfl⟩
  have ww : ∀ a, W.w a ≠ none → H a ≠ none ∧ a ∉ Q.fp ∧ a ∉ Q2.fp ∧ ∀ p ∈ W.tb, a ≠ p.1 := fun a h => by
    refine ⟨fun z => ?_, fun z => h (S.fr i _ a hi z).2.1, fun z => h (S.fr i2 _ a hi2 z).2.1, fun p hp z => h (by rw [z]; exact S.tt.w0 p hp)⟩
    cases q : W.w a with
    | none => exact h q
    | some o => rw [S.wx a o q] at z; cases z
  have q1 := S'.sl 1 _ rfl
  have q2 := S'.sl 2 _ rfl
  have fr1 := fun a => S'.fr 1 (own l Q') a rfl
  have fr2 := fun a => S'.fr 2 (own l2 Q2') a rfl
  have gt : ∀ (j : Nat) (B : Sd) (a : Addr), G[j]? = some (some B) → a ∈ B.fp → ∀ p ∈ W.tb, a ≠ p.1 := fun j B a e m p hp z => S.tt.G0 p hp j B e (z ▸ m)
  -- a slot behind the call: one of the two, or as before
  have cs : ∀ (j : Nat) (T : Sd), ((G.set i (some (own l Q'))).set i2 (some (own l2 Q2')))[j]? = some (some T) → (j = i ∧ T = own l Q') ∨ (j = i2 ∧ T = own l2 Q2') ∨ (j ≠ i ∧ j ≠ i2 ∧ G[j]? = some (some T)) := fun j T e => by
    rcases get_set e with ⟨e1, e2⟩ | ⟨n, e2⟩
    · exact .inr (.inl ⟨e1, Option.some.inj e2⟩)
    · rcases get_set e2 with ⟨e3, e4⟩ | ⟨n2, e4⟩
      · exact .inl ⟨e3, Option.some.inj e4⟩
      · exact .inr (.inr ⟨n2, n, e4⟩)
  -- what other slots own is not of the two
  have oth : ∀ (b : Nat) (B : Sd) (a : Addr), b ≠ i → b ≠ i2 → G[b]? = some (some B) → a ∈ B.fp → (a ∉ Q.fp ∧ a ∉ Q2.fp) ∧ F a = none ∧ W.w a = none ∧ H a ≠ none := fun b B a n n2 e m =>
    ⟨⟨fun z => n (S.dj b i B _ a e hi m z), fun z => n2 (S.dj b i2 B _ a e hi2 m z)⟩, S.fr b B a e m⟩
  have clash : ∀ (b : Nat) (B : Sd) (a : Addr), b ≠ i → b ≠ i2 → G[b]? = some (some B) → a ∈ B.fp → (a ∈ Q'.fp ∨ a ∈ Q2'.fp) → False := fun b B a n n2 e m k => by
    obtain ⟨⟨o1, o2⟩, o3, _, o5⟩ := oth b B a n n2 e m
    have w : (W.rest2 F H Q.fp Q2.fp).w a = none := by
      rcases k with k | k
      · exact (fr1 a k).2.1
      · exact (fr2 a k).2.1
    rw [rest2_in o3 o1 o2 (gt b B a e m)] at w
    exact o5 w
  have wnone : ∀ a, (∀ xs, H' a ≠ some (.tup xs)) → (W.rest2 F H Q.fp Q2.fp).w a = none → W.w a = none := fun a nt w => by
    cases q : W.w a with
    | none => rfl
    | some o =>
      obtain ⟨w1, w2, w3, w4⟩ := ww a (by rw [q]; intro z; cases z)
      rcases S.wf a (by rw [q]; intro z; cases z) with e | ⟨xs, e⟩
      · rw [rest2_in e w2 w3 w4] at w
        exact absurd w w1
      · exact absurd (by rw [(kp a w2 w3 w4 w1).1]; exact S.wx a _ e) (nt xs)
  refine ⟨⟨by rw [List.length_set, List.length_set]; exact S.len, S'.ex, S.f0.trans S'.f0, fun a o h => ?_, fun a h => ?_, fun j T e => ?_, fun j k T U a e1 e2 m1 m2 => ?_, fun j T a e m => ?_, S'.tt.go S.tt.w0 S'.tt.F0 (fun p hp j T e m => ?_) (fun p _ o h => h) fun c q h => h⟩, ?_⟩
  · obtain ⟨w1, w2, w3, w4⟩ := ww a (by rw [h]; intro z; cases z)
    rw [(kp a w2 w3 w4 w1).1]; exact S.wx a o h
  · obtain ⟨w1, w2, w3, w4⟩ := ww a h
    rcases (kp a w2 w3 w4 w1).2 with e | ⟨xs, e⟩
    · rw [e]; exact S.wf a h
    · cases q : W.w a with
      | none => exact absurd q h
      | some o => rw [S.wx a o q] at e; exact .inr ⟨xs, e⟩
  · rcases cs j T e with ⟨rfl, rfl⟩ | ⟨rfl, rfl⟩ | ⟨n, n2, e⟩
    · obtain ⟨w, h3, h4⟩ := S.sl _ _ hi
      obtain ⟨w', h5, h6⟩ := q1
      exact ⟨w, h3, h4.1, h6.2⟩
    · obtain ⟨w, h3, h4⟩ := S.sl _ _ hi2
      obtain ⟨w', h5, h6⟩ := q2
      exact ⟨w, h3, h4.1, h6.2⟩
    · obtain ⟨w, h3, h4⟩ := S.sl j T e
      exact ⟨w, h3, T.st S'.f0 (fun a m => by
        obtain ⟨⟨o1, o2⟩, _, _, o5⟩ := oth j T a n n2 e m
        exact (kp a o1 o2 (gt j T a e m) o5).1) h4⟩
  · rcases cs j T e1 with ⟨rfl, rfl⟩ | ⟨rfl, rfl⟩ | ⟨n, n2, g1⟩
    · rcases cs k U e2 with ⟨rfl, rfl⟩ | ⟨rfl, rfl⟩ | ⟨n3, n4, e2⟩
      · rfl
      · exact nomatch S'.dj 1 2 _ _ a rfl rfl m1 m2
      · exact (clash k U a n3 n4 e2 m2 (.inl m1)).elim
    · rcases cs k U e2 with ⟨rfl, rfl⟩ | ⟨rfl, rfl⟩ | ⟨n3, n4, e2⟩
      · exact nomatch S'.dj 1 2 _ _ a rfl rfl m2 m1
      · rfl
      · exact (clash k U a n3 n4 e2 m2 (.inr m1)).elim
    · rcases cs k U e2 with ⟨rfl, rfl⟩ | ⟨rfl, rfl⟩ | ⟨n3, n4, e2⟩
      · exact (clash j T a n n2 g1 m1 (.inl m2)).elim
      · exact (clash j T a n n2 g1 m1 (.inr m2)).elim
      · exact S.dj j k T U a g1 e2 m1 m2
  · rcases cs j T e with ⟨rfl, rfl⟩ | ⟨rfl, rfl⟩ | ⟨n, n2, e⟩
    · obtain ⟨c1, c2, c3⟩ := fr1 a m
      obtain ⟨_, _, p⟩ := q1
      exact ⟨c1, wnone a (Sd.nT (P := own l Q') p a m) c2, c3⟩
    · obtain ⟨c1, c2, c3⟩ := fr2 a m
      obtain ⟨_, _, p⟩ := q2
      exact ⟨c1, wnone a (Sd.nT (P := own l2 Q2') p a m) c2, c3⟩
    · obtain ⟨⟨o1, o2⟩, o3, o4, o5⟩ := oth j T a n n2 e m
      obtain ⟨k1, k2⟩ := kp a o1 o2 (gt j T a e m) o5
      refine ⟨?_, o4, by rw [k1]; exact o5⟩
      rcases k2 with k2 | ⟨xs, k2⟩
      · rw [k2]; exact o3
      · obtain ⟨v, _, p⟩ := S.sl j T e
        exact absurd k2 (Sd.nT p a m xs)
  · rcases cs j T e with ⟨rfl, rfl⟩ | ⟨rfl, rfl⟩ | ⟨n, n2, e⟩
    · exact S'.tt.G0 p hp 1 _ rfl m
    · exact S'.tt.G0 p hp 2 _ rfl m
    · exact S.tt.G0 p hp j T e m
  · obtain ⟨w, h1, h2⟩ := S'.sl 0 _ rfl
    cases Option.some.inj (Option.some.inj h1)
    exact h2
theorem pick_2 {G : Gm} {i j : Nat} {P Q : Sd} (h : G[i]? = some (some P)) (h2 : G[j]? = some (some Q)) (hne : i ≠ j) : Pick G [P, Q] := fun W σ F H S => by
  obtain ⟨v, h3, h4⟩ := S.sl i P h
  obtain ⟨u, h5, h6⟩ := S.sl j Q h2
  have at' : ∀ (m : Nat) (T : Sd), (([P, Q] : List Sd).map some)[m]? = some (some T) → (m = 0 ∧ T = P) ∨ (m = 1 ∧ T = Q) := fun m T e => by
    match m, e with
    | 0, e => exact .inl ⟨rfl, (Option.some.inj (Option.some.inj e)).symm⟩
    | 1, e => exact .inr ⟨rfl, (Option.some.inj (Option.some.inj e)).symm⟩
    | m + 2, e => simp at e
  refine ⟨[some v, some u], rfl, S.ex, S.f0, S.wx, S.wf, fun m T e => ?_, fun m k T U a e1 e2 m1 m2 => ?_, fun m T a e hm => ?_, S.tt.go S.tt.w0 S.tt.F0 (fun p hp m T e hm => ?_) (fun p _ o h => h) fun c q h => h⟩
  · rcases at' m T e with ⟨rfl, rfl⟩ | ⟨rfl, rfl⟩
    · exact ⟨v, rfl, h4⟩
    · exact ⟨u, rfl, h6⟩
  · rcases at' m T e1 with ⟨rfl, rfl⟩ | ⟨rfl, rfl⟩ <;> rcases at' k U e2 with ⟨rfl, rfl⟩ | ⟨rfl, rfl⟩
    · rfl
    · exact absurd (S.dj i j _ _ a h h2 m1 m2) hne
    · exact absurd (S.dj i j _ _ a h h2 m2 m1) hne
    · rfl
  · rcases at' m T e with ⟨rfl, rfl⟩ | ⟨rfl, rfl⟩
    · exact S.fr i _ a h hm
    · exact S.fr j _ a h2 hm
  · rcases at' m T e with ⟨rfl, rfl⟩ | ⟨rfl, rfl⟩
    · exact S.tt.G0 p hp i _ h hm
    · exact S.tt.G0 p hp j _ h2 hm
section
variable {X : Cx} {W : Fx} {G G1 G2 : Gm} {a e : Expr} {es : List Expr} {pos p : Pos} {n : Str} {k : Nat} {f : Addr} {fd : FuncData} {ps : List Str} {sp : Sp} {Ps : List Sd} {β τ : Type} {R : Rp β} {r : τ} {Or : τ → Sd → Prop} {x : β}
/-- two arguments are handed over, changed or not -/
theorem ev_callM2 {i i2 j j2 : Nat} {l l2 : Addr} {Q Q' Q2 Q2' : Qd} {Or : τ → Sd → Prop} {Outs : τ → List Sd} (Fn : FnOk X.prog X.w X.K X.mg X.base CX0 k f fd ps sp) (hr : Room k X.A) (hm : X.mg n = some (.ref f)) (hk : PySem.W.keepIn X.K (.ref f) = true) (hb : Binds X.K fd ps []) (ha : EvA X W (e :: es) G Ps G1)
    (hi : G1[i]? = some (some (own l Q))) (hi2 : G1[i2]? = some (some (own l2 Q2))) (hne : i ≠ i2) (hj : Ps[j]? = some (bare l)) (hj2 : Ps[j2]? = some (bare l2)) (hjn : j ≠ j2)
    (hsp : ∀ vs H (Qk : VK) W' F', W'.tb = W.tb → Sat W' (((Ps.set j (own l Q)).set j2 (own l2 Q2)).map some) (vs.map some) F' H → (∀ v H', Rt W' Or Outs r v H' → Qk v H') → sp vs H Qk E0) (hO : ∀ P, Or r P → P = imm R x) (hOut : Outs r = [own l Q', own l2 Q2']) (hg : Gl X n := by rfl)
    (hdb : (n == ("__debug__" : Str)) = false := by decide) (he : starEach (e :: es) X.env = (false, eval e X.env) :: starEach es X.env := by rfl) (hpl : (backTo pos (starEach es X.env)).any (·.1) = false := by rfl) :
    Ev X W (.Call (.Name n p) (e :: es) [] pos) G R x ((G1.set i (some (own l Q'))).set i2 (some (own l2 Q2'))) := .mk fun σ F H Qk S q =>
  toE (pe_call Fn hr hg hm hk hb .nil pass0 wA_pa hdb he hpl) (ha.out σ F H _ S fun vs F1 H1 e1 S1 r1 => by
    rw [List.append_nil]
    refine hsp vs H1 Qk (W.rest2 F1 H1 Q.fp Q2.fp) F1 rfl (S1.args2 r1 hi hi2 hne hj hj2 hjn) fun v H' hv => ?_
    obtain ⟨P, F', vs', hP, S'⟩ := hv
    cases hO P hP
    rw [hOut] at S'
    obtain ⟨b1, b2⟩ := back2 S1 hi hi2 hne S'
    exact q v F' H' (e1.trans S'.f0) b1 b2)
theorem ev_set2 {P P2 : Option Sd} {i i2 : Nat} {G' G2' : Gm} (h : Ev X W a G R x ((G1.set i P).set i2 P2)) (s1 : SetAt P i G1 G') (s2 : SetAt P2 i2 G' G2') : Ev X W a G R x G2' := by
  rw [s2.eq, s1.eq]; exact h
theorem outs_at2 {Os : List Sd} {l l2 : Addr} (Q Q2 : Qd) (h : Os = [own l Q, own l2 Q2]) : Os = [own l Q, own l2 Q2] := h
end
end Mz

namespace Mz
open PySem PySem.Spec PyProof.Rows L2
/-! ### texts -/
def strZ (i : Int) : Str := toString i
def strO (i : Int) : Option Str := if i.natAbs.log2 < 1920 then some (strZ i) else none
def catO (a b : Str) : Option Str := if a.length + b.length ≤ sizeLine then some (a ++ b) else none
def lenS (a : Str) : Option Int := if a.length ≤ sizeLine then some (a.length : Int) else none
def ixS (a : Str) (i : Int) : Option Str := if a.length ≤ sizeLine then (atI a.cps.toList i).map fun c => ⟨#[c]⟩ else none
def fmtS (a : Str) : Option Str := if a.length ≤ sizeLine then some a else none
/-- texts one behind the other -/
def jnO : List Str → Str → Option Str
  | [], acc => some acc
  | z :: zs, acc => if (acc ++ z).length ≤ sizeLine then jnO zs (acc ++ z) else none
section
variable {X : Cx} {W : Fx} {G G1 G2 : Gm} {a b e : Expr} {es : List Expr} {pos p : Pos}
theorem op2_cat {u v z : Str} (h : catO u v = some z) : Op2 X (binaryOp .Add) RS u RS v RS z := by
  unfold catO at h
  split at h
  · rename_i c
    cases h
    exact ⟨_, op_add_str, fun F H x y Q _ r1 r2 q => ⟨u, v, r1, r2, c, q _ rfl⟩⟩
  · cases h
theorem iop2_cat {u v z : Str} (h : catO u v = some z) : Op2 X (inplaceOp .Add) RS u RS v RS z := by
  unfold catO at h
  split at h
  · rename_i c
    cases h
    exact ⟨_, iop_add_str, fun F H x y Q _ r1 r2 q => ⟨u, v, r1, r2, c, q _ rfl⟩⟩
  · cases h
theorem ev_cat {u v z : Str} (h : catO u v = some z) (ha : Ev X W a G RS u G1) (hb : Ev X W b G1 RS v G2) : Ev X W (.BinOp a .Add b pos) G RS z G2 := ev_op (op2_cat h) ha hb
theorem ev_strI {i : Int} {z : Str} (h : strO i = some z) (hm : X.mg "str" = none) (ha : Ev X W a G RI i G1) (hg : Gl X "str" := by rfl) (hs : starEach [a] X.env = (false, eval a X.env) :: starEach [] X.env := by rfl) : Ev X W (.Call (.Name "str" p) [a] [] pos) G RS z G1 := by
  unfold strO at h
  split at h
  · rename_i c
    cases h
    exact ev_ct1 call_str_int hm (by decide +kernel) ha (fun F H v Q e r q => ⟨i, by rw [show v = V.int i from r], c, q _ rfl⟩) hg (by decide) (by decide) hs
  · cases h
theorem ev_lenS {u : Str} {k : Int} (h : lenS u = some k) (hm : X.mg "len" = none) (ha : Ev X W a G RS u G1) (hg : Gl X "len" := by rfl) (hs : starEach [a] X.env = (false, eval a X.env) :: starEach [] X.env := by rfl) : Ev X W (.Call (.Name "len" p) [a] [] pos) G RI k G1 := by
  unfold lenS at h
  split at h
  · rename_i c
    cases h
    exact ev_cb1 call_len_str hm PySem.boot_len ha (fun F H v Q e r q => ⟨u, by rw [show v = V.str u from r], c, q _ rfl⟩) hg (by decide) (by decide) hs
  · cases h
theorem ev_ixS {u z : Str} {i : Int} (h : ixS u i = some z) (ha : Ev X W a G RS u G1) (hb : Ev X W b G1 RI i G2) (hs : PlainIx b := by exact fun _ _ => rfl) : Ev X W (.Subscript a b pos) G RS z G2 := by
  unfold ixS at h
  split at h
  · rename_i c
    obtain ⟨d, h1, h2⟩ := Option.map_eq_some_iff.mp h
    cases h2
    exact .mk fun σ F H Q S q => toE (pe_ix ix_str wE_pe wE_pe hs) (two ha hb S fun v w F' H' e S' r1 r2 => ⟨u, i, d, r1, r2, c, h1, q _ F' H' e S' rfl⟩)
  · cases h
theorem ev_fmtI {i : Int} {z : Str} (h : strO i = some z) (ha : Ev X W a G RI i G1) : Ev X W (.FormattedValue a (-1) none pos) G RS z G1 := by
  unfold strO at h
  split at h
  · rename_i c
    cases h
    exact .mk fun σ F H Q S q => toE (pe_fmt wE_pe) (ha.out σ F H _ S fun v F' H' e S' r => .inr ⟨i, r, c, q _ F' H' e S' rfl⟩)
  · cases h
theorem ev_fmtS {u z : Str} (h : fmtS u = some z) (ha : Ev X W a G RS u G1) : Ev X W (.FormattedValue a (-1) none pos) G RS z G1 := by
  unfold fmtS at h
  split at h
  · rename_i c
    cases h
    exact .mk fun σ F H Q S q => toE (pe_fmt wE_pe) (ha.out σ F H _ S fun v F' H' e S' r => .inl ⟨u, r, c, q _ F' H' e S' rfl⟩)
  · cases h
/-- the parts of an f-string -/
inductive EJ (X : Cx) (W : Fx) : List Expr → Gm → List Str → Gm → Prop where
  | nil {G : Gm} : EJ X W [] G [] G
  | cons {e : Expr} {es : List Expr} {G G1 G2 : Gm} {z : Str} {zs : List Str} (h : Ev X W e G RS z G1) (r : EJ X W es G1 zs G2) : EJ X W (e :: es) G (z :: zs) G2
theorem ej_pj : ∀ (es : List Expr), PJ X es (es.map (wE X))
  | [] => .nil
  | _ :: es => .cons wE_pe (ej_pj es)
theorem ej_run {es : List Expr} {zs : List Str} {G' : Gm} (h : EJ X W es G zs G') : ∀ {acc z : Str} {σ : L2.St} {F H : Hp} {Q : Str → Hp → Prop}, jnO zs acc = some z → Sat W G σ F H → (∀ F' H', Ex F F' → Sat W G' σ F' H' → Q z H') → tJs (es.map (wE X)) acc σ H Q := by
  induction h with
  | nil =>
    intro acc z σ F H Q hj S q
    cases hj
    exact q F H (Ex.refl F) S
  | @cons e es G G1 G2 y ys h r ih =>
    intro acc z σ F H Q hj S q
    have hj' : (if (acc ++ y).length ≤ sizeLine then jnO ys (acc ++ y) else none) = some z := hj
    split at hj'
    · rename_i c
      exact h.out σ F H _ S fun v F1 H1 e1 S1 r1 => ⟨y, r1, c, ih hj' S1 fun F2 H2 e2 S2 => q F2 H2 (e1.trans e2) S2⟩
    · cases hj'
theorem ev_joined {e1 e2 : Expr} {zs : List Str} {z : Str} (hj : jnO zs Str.empty = some z) (h : EJ X W (e1 :: e2 :: es) G zs G1) : Ev X W (.JoinedStr (e1 :: e2 :: es) pos) G RS z G1 := .mk fun σ F H Q S q =>
  toE (pe_joined (ej_pj (e1 :: e2 :: es))) (ej_run h hj S fun F' H' e S' => q _ F' H' e S' rfl)
end
end Mz

namespace Mz
open PySem PySem.Spec PyProof.Rows L2
/-- x.pop(i) -/
def popAt {α : Type} (as : List α) (i : Int) : Option (List α × α) := if as.length ≤ 16000000 then (match ixN as.length i with
  | some k => as[k]?.map fun x => (as.eraseIdx k, x)
  | none => none) else none
theorem All2.erase {α : Type} {R : Rp α} {F : Hp} : ∀ {vs : List V} {as : List α} (k : Nat), All2 R F vs as → All2 R F (vs.eraseIdx k) (as.eraseIdx k) := fun {vs as} k h => by
  have h' : Paired (fun v a => R.r F v a) vs as := h
  show Paired (fun v a => R.r F v a) _ _
  clear h
  induction h' generalizing k with
  | nil => exact .nil
  | cons r t ih =>
    cases k with
    | zero => exact t
    | succ k => exact .cons r (ih k)
section
variable {X : Cx} {W : Fx} {G G1 G2 : Gm} {e a b : Expr} {α : Type} {R : Rp α} {pos : Pos} {n : Str} {i : Nat} {l : Addr}
theorem ev_popAt {as : List α} {r : List α × α} {j : Int} {apos cpos p0 : Pos} (hO : popAt as j = some r) (hN : X.N[i]? = some n) (hv : Vis X.env.scope n) (hG : G[i]? = some (some (own l (QL l R as)))) (he : Ev X W e G RI j G1) (hG1 : G1[i]? = some (some (own l (QL l R as))))
    (hs : starEach [e] X.env = (false, eval e X.env) :: starEach [] X.env := by rfl) (hbase : attributeBase (.Name n p0) "pop" X.env (eval (.Name n p0) X.env) = eval (.Name n p0) X.env := by rfl)
    (hfew : ((backTo cpos (starEach [e] X.env)).all (fun x => !x.1) && (backToKw cpos (keywordEach [] X.env)).all (fun x => x.1.isSome)
      && decide ([e].length + ([] : List Keyword).length + (if ([] : List Keyword).isEmpty then 0 else 1) < 30)) = true := by rfl)
    (hline : (apos.endLine == cpos.line) = true := by rfl) (hd : (n == ("__debug__" : Str)) = false := by decide) (hcd : (n == ("__classdict__" : Str)) = false := by decide) :
    Ev X W (.Call (.Attribute (.Name n p0) "pop" apos) [e] [] cpos) G R r.2 (G1.set i (some (own l (QL l R r.1)))) := .mk fun σ F H Q S q => by
  obtain ⟨v, h1, rfl, vs, h2, h3⟩ := S.sl i _ hG
  refine toE (pe_bm PySem.F.plainAttrs_list PySem.F.slot_list_pop PySem.F.type_list_pop mt_popAt (pe_var hN hv hd hcd) (pa_cons wE_pe pa_nil hs) hbase hfew hline hs (by rfl)) ?_
  refine ⟨.ref l, h1, .inl ⟨rfl, vs, .inl (.inl h2)⟩, he.out σ F H _ S fun w F1 H1 e1 S1 r1 => ?_⟩
  obtain ⟨v', k1, k2, vs', k3, k4⟩ := S1.sl i _ hG1
  unfold popAt at hO
  split at hO
  · rename_i hlen
    cases hx : ixN as.length j with
    | none => rw [hx] at hO; cases hO
    | some k =>
      rw [hx] at hO
      obtain ⟨x, e2, e3⟩ := Option.map_eq_some_iff.mp hO
      cases e3
      obtain ⟨y, hy, ry⟩ := k4.get e2
      obtain ⟨q1, q2, q3, q4⟩ := ixN_seq hx
      refine ⟨l, vs', j, k, y, rfl, by rw [show w = V.int j from r1], k3, by omega, by omega, by rw [k4.len]; exact q1, hy, ?_⟩
      exact q y F1 _ e1 (S1.mut hG1 (fun a ha => upd_ne fun z => ha (by rw [z]; exact List.mem_singleton.mpr rfl)) ⟨vs'.eraseIdx k, upd_same, k4.erase k⟩ fun a ha => ⟨ha, by rw [List.mem_singleton.mp ha, upd_same]; intro z; cases z⟩) ry
  · cases hO
end
end Mz

namespace Mz
open PySem PySem.Spec PyProof.Rows L2
open PySem.W (alike alikeAll dataLt dataLe AllAlike Sortable EachIs minD maxD)
/-! ### data in an order -/
structure Od {α : Type} {K : PySem.W.Frag} {R : Rp α} (D : Dd K R) : Prop where
  al : ∀ a b, alike (D.e a) (D.e b) = true
  nn : ∀ a, D.e a ≠ .none
  kd : (∀ a, ∃ x r, D.e a = .tuple (x :: r)) ∨ (∀ a xs, D.e a ≠ .tuple xs)
structure Or_ {α : Type} {K : PySem.W.Frag} {T : Rs α} (D : Dr K T) : Prop where
  al : ∀ a b, alikeAll (D.e a) (D.e b) = true
  ne : ∀ a, ∃ x r, D.e a = x :: r
section
variable {K : PySem.W.Frag} {α β : Type} {R : Rp α} {T : Rs β}
theorem od_I : Od (d_I (K := K)) := ⟨fun a b => by simp [d_I, alike], fun a h => (by cases h), .inr fun a xs h => (by cases h)⟩
theorem od_one {D : Dd K R} (h : Od D) : Or_ (d_one D) := ⟨fun a b => by simp [d_one, alikeAll, h.al], fun a => ⟨_, _, rfl⟩⟩
theorem od_cons {D : Dd K R} {E : Dr K T} (h : Od D) (g : Or_ E) : Or_ (d_cons D E) := ⟨fun a b => by simp [d_cons, alikeAll, h.al, g.al], fun a => ⟨_, _, rfl⟩⟩
theorem od_T {E : Dr K T} (g : Or_ E) : Od (d_T E) := ⟨fun a b => by simp [d_T, alike, g.al], fun a h => (by cases h), .inl fun a => by
  obtain ⟨x, r, h⟩ := g.ne a
  exact ⟨x, r, by show PyData.tuple (E.e a) = _; rw [h]⟩⟩
theorem alikeAll_map {e : α → PyData} (h : ∀ a b, alike (e a) (e b) = true) : ∀ xs ys : List α, alikeAll (xs.map e) (ys.map e) = true
  | [], _ => by simp [alikeAll]
  | _ :: _, [] => by simp [alikeAll]
  | x :: xs, y :: ys => by simp [alikeAll, h, alikeAll_map h xs ys]
theorem od_L {D : Dd K R} (h : Od D) : Od (d_L D) := ⟨fun a b => by simp [d_L, alike, alikeAll_map h.al], fun a h => (by cases h), .inr fun a xs h => (by cases h)⟩
end
def enI : Int → PyData := .int
def en1 {α : Type} (f : α → PyData) : α → List PyData := fun a => [f a]
def enC {α β : Type} (f : α → PyData) (g : β → List PyData) : α × β → List PyData := fun a => f a.1 :: g a.2
def enT {α : Type} (f : α → List PyData) : α → PyData := fun a => .tuple (f a)
def enL {α : Type} (f : α → PyData) : List α → PyData := fun l => .list (l.map f)
/-- sorted, by the data that a function tells -/
def srtE {α : Type} (e : α → PyData) (xs : List α) : List α := xs.mergeSort (dataLe false e)
def minE {α : Type} (e : α → PyData) : List α → Option α
  | [] => none
  | x :: t => some (t.foldl (fun a y => if dataLt (e y) (e a) = true then y else a) x)
def maxE {α : Type} (e : α → PyData) : List α → Option α
  | [] => none
  | x :: t => some (t.foldl (fun a y => if dataLt (e a) (e y) = true then y else a) x)
theorem minD_map {α : Type} (e : α → PyData) : ∀ (t : List α) (x : α), minD (e x) (t.map e) = e (t.foldl (fun a y => if dataLt (e y) (e a) = true then y else a) x)
  | [], _ => rfl
  | y :: t, x => by
    show minD (if dataLt (e y) (e x) = true then e y else e x) (t.map e) = e (t.foldl _ (if dataLt (e y) (e x) = true then y else x))
    by_cases h : dataLt (e y) (e x) = true
    · rw [if_pos h, if_pos h]; exact minD_map e t y
    · rw [if_neg h, if_neg h]; exact minD_map e t x
theorem maxD_map {α : Type} (e : α → PyData) : ∀ (t : List α) (x : α), maxD (e x) (t.map e) = e (t.foldl (fun a y => if dataLt (e a) (e y) = true then y else a) x)
  | [], _ => rfl
  | y :: t, x => by
    show maxD (if dataLt (e x) (e y) = true then e y else e x) (t.map e) = e (t.foldl _ (if dataLt (e x) (e y) = true then y else x))
    by_cases h : dataLt (e x) (e y) = true
    · rw [if_pos h, if_pos h]; exact maxD_map e t y
    · rw [if_neg h, if_neg h]; exact maxD_map e t x
theorem dpAll_p {α : Type} {K : PySem.W.Frag} {H : Hp} {P : V → α → Prop} {e : α → PyData} (h : ∀ x b, P x b → Dp K H x (e b)) : ∀ {xs : List V} {as : List α}, Paired P xs as → DpAll K H xs (as.map e)
  | _, _, .nil => .nil
  | _, _, .cons r t => .cons (h _ _ r) (dpAll_p h t)
section
variable {X : Cx}
/-- of a list of data: the items' values and what they stand for -/
structure DatL (X : Cx) (H : Hp) {α : Type} (e : α → PyData) (v : V) (P : V → α → Prop) (as : List α) : Prop where
  ex : ∃ (a : Addr) (xs : List V), v = .ref a ∧ SqL X.K H a xs ∧ Paired P xs as
  dp : ∀ x b, P x b → Dp X.K H x (e b)
  al : ∀ a b, alike (e a) (e b) = true
  nn : ∀ a, e a ≠ .none
  kd : (∀ a, ∃ x r, e a = .tuple (x :: r)) ∨ (∀ a xs, e a ≠ .tuple xs)
  d : ∀ a, (e a).depth ≤ 60
  inj : ∀ a b, e a = e b → a = b
theorem each_of {α : Type} {s : Shared} {pins : List (Addr × Obj)} {σ : L2.St} {H : Hp} (I : Inv X pins σ H s) {e : α → PyData} {P : V → α → Prop} (h : ∀ x b, P x b → Dp X.K H x (e b)) : ∀ {xs : List V} {us : List Value} {as : List α}, Vals xs us → Paired P xs as → EachIs (fun v b => (∃ x, RelV x v ∧ P x b) ∧ ∃ z, Reads s.heap v (e b) z) us as
  | _, _, _, .nil, .nil => .nil
  | _, _, _, .cons r t, .cons q u => .cons ⟨⟨_, r, q⟩, Dp.reads I _ _ _ (h _ _ q) r⟩ (each_of I h t u)
theorem each_back {α : Type} {P : V → α → Prop} : ∀ {us : List Value} {as : List α}, EachIs (fun v b => ∃ x, RelV x v ∧ P x b) us as → ∃ xs, Vals xs us ∧ Paired P xs as
  | _, _, .nil => ⟨[], .nil, .nil⟩
  | _, _, .cons ⟨x, r, q⟩ t => by
    obtain ⟨xs, h1, h2⟩ := each_back t
    exact ⟨x :: xs, .cons r h1, .cons q h2⟩
def rSrtE (X : Cx) {α : Type} (e : α → PyData) : List V → Hp → VK → Prop := fun vs H Q => ∃ (v : V) (P : V → α → Prop) (as : List α), vs = [v] ∧ DatL X H e v P as ∧ ∀ ys p, Paired P ys (srtE e as) → H p = none → Q (.ref p) (upd H p (.lst ys))
theorem cr_srtE {α : Type} {e : α → PyData} (hu : X.A.units + 65 < cLine) : CallR X (.builtin "sorted") (rSrtE X e) := by
  intro pins s σ H vs us Q I r h
  obtain ⟨v, P, as, rfl, D, q⟩ := h
  obtain ⟨a, xs, rfl, hs, pa⟩ := D.ex
  obtain ⟨its, rv, hl, hz⟩ := I.list hs
  rw [Vals.ref1 r]
  have er := each_of I D.dp rv pa
  have hlen : as.length = xs.length := (Paired.length pa).symm
  refine PySem.W.sorted_data (R := fun v b => ∃ x, RelV x v ∧ P x b) (enc := e) (bs := as) hl.isList (er.mono fun _ _ h => h.1) (er.mono fun _ _ h => h.2) (AllAlike.of fun b b' => D.al b b') ?_ (by rw [hlen]; exact hz) (fun b _ => by have := D.d b; omega) fun out h1 h2 => ?_
  · rcases D.kd with k | k
    · exact Sortable.tuples k
    · exact Sortable.others fun b => ⟨D.nn b, k b⟩
  · obtain ⟨ys, k1, k2⟩ := each_back h2
    obtain ⟨ep, he'⟩ := PyProof.Rows.sortedAll_at s.heap its (List.toArray out)
    have hy : ys.length ≤ sizeLine := by
      rw [k1.length, h1, hlen]; exact hz
    exact ⟨.ref _, upd H (s.heap.objs.size + 1) (.lst ys), I.laid (t' := s.toks) (fun _ _ => PyProof.Rows.sortedAll_old) (Nat.le_succ _) ⟨hy, out, ep, k1, he'⟩, rfl, q ys _ k2 (I.hok.fresh (Nat.le_succ _))⟩
theorem depthAll_le {α : Type} {e : α → PyData} {n : Nat} (h : ∀ a, (e a).depth ≤ n) : ∀ as : List α, PyData.depthAll (as.map e) ≤ n
  | [] => by simp [PyData.depthAll]
  | a :: t => by
    have h1 := h a
    have h2 := depthAll_le h t
    simp only [List.map_cons, PyData.depthAll]
    omega
theorem vals_at : ∀ {xs : List V} {us : List Value} {i : Nat} {u : Value}, Vals xs us → us[i]? = some u → ∃ x, xs[i]? = some x ∧ RelV x u
  | _, _, _, _, .nil, e => by simp at e
  | _, _, 0, _, .cons r _, e => by simp at e; subst e; exact ⟨_, rfl, r⟩
  | _, _, i + 1, u, .cons _ t, e => by
    obtain ⟨v, h1, h2⟩ := vals_at (i := i) (u := u) t (by simpa using e)
    exact ⟨v, by simpa using h1, h2⟩
def rMinE (X : Cx) {α : Type} (e : α → PyData) : List V → Hp → VK → Prop := fun vs H Q => ∃ (v : V) (P : V → α → Prop) (as : List α) (m : α), vs = [v] ∧ DatL X H e v P as ∧ minE e as = some m ∧ ∀ x, P x m → Q x H
theorem cr_minE {α : Type} {e : α → PyData} (hc : X.calm = true) (hu : X.A.units + 65 < cLine) : CallR X (.builtin "min") (rMinE X e) := by
  intro pins s σ H vs us Q I r h
  obtain ⟨v, P, as, m, rfl, D, hm, q⟩ := h
  obtain ⟨a, xs, rfl, hs, pa⟩ := D.ex
  obtain ⟨its, rv, hl, hz⟩ := I.list hs
  rw [Vals.ref1 r]
  cases as with
  | nil => cases hm
  | cons b t =>
    have hm' := Option.some.inj hm
    obtain ⟨z, hr⟩ := Dp.readsAll I _ _ _ (dpAll_p D.dp pa) rv
    have hd := depthAll_le D.d (b :: t)
    refine PySem.W.min_list_data (x := e b) (xs := t.map e) (as := z) (I.ok.hd hc) hl.isList (by simpa using hr) ⟨fun x hx y hy => ?_, fun x hx => ?_⟩ (by
      have h2 : PyData.depthAll (e b :: t.map e) ≤ 60 := hd
      omega) fun i v h' tk bs hv rd hk => ?_
    · rw [← List.map_cons] at hx hy
      obtain ⟨x', _, rfl⟩ := List.mem_map.mp hx
      obtain ⟨y', _, rfl⟩ := List.mem_map.mp hy
      exact D.al _ _
    · rw [← List.map_cons] at hx
      obtain ⟨x', _, rfl⟩ := List.mem_map.mp hx
      exact D.nn _
    · obtain ⟨x, hx, rx⟩ := vals_at rv (by simpa using hv)
      obtain ⟨c, hc', px⟩ := p2_getV pa hx
      obtain ⟨z2, r2⟩ := Dp.reads I _ _ _ (D.dp _ _ px) rx
      have r3 := PySem.W.reads_keeps hk r2
      rw [minD_map] at rd
      have eq := PySem.W.alike_unique _ _ _ _ _ (D.al _ _) r3 rd
      have := D.inj _ _ eq
      rw [hm'] at this
      subst this
      exact ⟨x, H, I.kept hk, rx, q x px⟩
def rMaxE (X : Cx) {α : Type} (e : α → PyData) : List V → Hp → VK → Prop := fun vs H Q => ∃ (v : V) (P : V → α → Prop) (as : List α) (m : α), vs = [v] ∧ DatL X H e v P as ∧ maxE e as = some m ∧ ∀ x, P x m → Q x H
theorem cr_maxE {α : Type} {e : α → PyData} (hc : X.calm = true) (hu : X.A.units + 65 < cLine) : CallR X (.builtin "max") (rMaxE X e) := by
  intro pins s σ H vs us Q I r h
  obtain ⟨v, P, as, m, rfl, D, hm, q⟩ := h
  obtain ⟨a, xs, rfl, hs, pa⟩ := D.ex
  obtain ⟨its, rv, hl, hz⟩ := I.list hs
  rw [Vals.ref1 r]
  cases as with
  | nil => cases hm
  | cons b t =>
    have hm' := Option.some.inj hm
    obtain ⟨z, hr⟩ := Dp.readsAll I _ _ _ (dpAll_p D.dp pa) rv
    have hd := depthAll_le D.d (b :: t)
    refine PySem.W.max_list_data (x := e b) (xs := t.map e) (as := z) (I.ok.hd hc) hl.isList (by simpa using hr) ⟨fun x hx y hy => ?_, fun x hx => ?_⟩ (by
      have h2 : PyData.depthAll (e b :: t.map e) ≤ 60 := hd
      omega) fun i v h' tk bs hv rd hk => ?_
    · rw [← List.map_cons] at hx hy
      obtain ⟨x', _, rfl⟩ := List.mem_map.mp hx
      obtain ⟨y', _, rfl⟩ := List.mem_map.mp hy
      exact D.al _ _
    · rw [← List.map_cons] at hx
      obtain ⟨x', _, rfl⟩ := List.mem_map.mp hx
      exact D.nn _
    · obtain ⟨x, hx, rx⟩ := vals_at rv (by simpa using hv)
      obtain ⟨c, hc', px⟩ := p2_getV pa hx
      obtain ⟨z2, r2⟩ := Dp.reads I _ _ _ (D.dp _ _ px) rx
      have r3 := PySem.W.reads_keeps hk r2
      rw [maxD_map] at rd
      have eq := PySem.W.alike_unique _ _ _ _ _ (D.al _ _) r3 rd
      have := D.inj _ _ eq
      rw [hm'] at this
      subst this
      exact ⟨x, H, I.kept hk, rx, q x px⟩
/-! the four tests -/
def rOrdE (K : PySem.W.Frag) (f : PyData → PyData → Bool) : R2 := fun x y H Q => ∃ d e, Dp K H x d ∧ Dp K H y e ∧ alike d e = true ∧ d ≠ .none ∧ d.depth ≤ 60 ∧ Q (.bl (f d e)) H
theorem op_ltE (hu : X.A.units + 65 < cLine) : OpR X (compareOp .Lt) (rOrdE X.K fun d e => dataLt d e) := by
  intro pins s σ H x y v u Q I rx ry h
  obtain ⟨d, e, hd, he, ha, hn, hz, q⟩ := h
  obtain ⟨as, r1⟩ := Dp.reads I d x v hd rx
  obtain ⟨bs, r2⟩ := Dp.reads I e y u he ry
  exact PySem.W.lt_data r1 r2 ha hn (by omega) ⟨.bl _, H, I, rfl, q⟩
theorem op_gtE (hu : X.A.units + 65 < cLine) : OpR X (compareOp .Gt) (rOrdE X.K fun d e => dataLt e d) := by
  intro pins s σ H x y v u Q I rx ry h
  obtain ⟨d, e, hd, he, ha, hn, hz, q⟩ := h
  obtain ⟨as, r1⟩ := Dp.reads I d x v hd rx
  obtain ⟨bs, r2⟩ := Dp.reads I e y u he ry
  exact PySem.W.gt_data r1 r2 ha hn (by omega) ⟨.bl _, H, I, rfl, q⟩
theorem op_leE (hu : X.A.units + 65 < cLine) : OpR X (compareOp .LtE) (rOrdE X.K fun d e => !dataLt e d) := by
  intro pins s σ H x y v u Q I rx ry h
  obtain ⟨d, e, hd, he, ha, hn, hz, q⟩ := h
  obtain ⟨as, r1⟩ := Dp.reads I d x v hd rx
  obtain ⟨bs, r2⟩ := Dp.reads I e y u he ry
  exact PySem.W.le_data r1 r2 ha hn (by omega) ⟨.bl _, H, I, rfl, q⟩
theorem op_geE (hu : X.A.units + 65 < cLine) : OpR X (compareOp .GtE) (rOrdE X.K fun d e => !dataLt d e) := by
  intro pins s σ H x y v u Q I rx ry h
  obtain ⟨d, e, hd, he, ha, hn, hz, q⟩ := h
  obtain ⟨as, r1⟩ := Dp.reads I d x v hd rx
  obtain ⟨bs, r2⟩ := Dp.reads I e y u he ry
  exact PySem.W.ge_data r1 r2 ha hn (by omega) ⟨.bl _, H, I, rfl, q⟩
end
section
variable {X : Cx} {W : Fx} {G G1 G2 : Gm} {e a b : Expr} {α : Type} {R : Rp α} {pos p : Pos} {n : Str} {k : Nat}
theorem datL_of {D : Dd X.K R} (O : Od D) (hd : D.n ≤ 60) {F H : Hp} {v : V} {xs : List α} (e : Ex F H) (r : (RL X.K R).r F v xs) : DatL X H D.e v (fun x b => R.r F x b) xs := by
  obtain ⟨pa, vs, rfl, h1, h2⟩ := r
  exact ⟨⟨pa, vs, rfl, ex_sql e h1, h2⟩, fun x b h => ex_dp e (D.r F x b h), O.al, O.nn, O.kd, fun a => Nat.le_trans (D.d a) hd, fun a b h => (D.q a b).mp (by rw [← h]; exact (D.q a a).mpr rfl)⟩
theorem eo_sortedE {xs : List α} {D : Dd X.K R} (en : α → PyData) (O : Od D) (he : D.e = en) (hr : Room k X.A) (hd : D.n ≤ 60) (hm : X.mg "sorted" = none) (ha : Ev X W a G (RL X.K R) xs G1) (hg : Gl X "sorted" := by rfl) (hs : starEach [a] X.env = (false, eval a X.env) :: starEach [] X.env := by rfl) : EvO X W (.Call (.Name "sorted" p) [a] [] pos) G (fun l => QL l R (srtE en xs)) G1 := .mk fun σ F H Q S q => by
  subst he
  exact toE (pe_callB (cr_srtE (room64 hr)) hg hm (by decide +kernel) (pa_cons wE_pe pa_nil hs) (by decide) (by decide) hs rfl) (ha.out σ F H _ S fun v F' H' e S' r1 =>
    ⟨v, _, xs, rfl, datL_of O hd S'.ex r1, fun ys l hp hl => by
      obtain ⟨s1, s2⟩ := NewO.list (R := R) (as := srtE D.e xs) S' hl hp
      exact q l F' _ e s1 s2⟩)
theorem ev_minE {xs : List α} {m : α} {D : Dd X.K R} (en : α → PyData) (O : Od D) (he : D.e = en) (hr : Room k X.A) (hd : D.n ≤ 60) (h : minE en xs = some m) (hm : X.mg "min" = none) (ha : Ev X W a G (RL X.K R) xs G1) (hc : X.calm = true := by rfl) (hg : Gl X "min" := by rfl) (hs : starEach [a] X.env = (false, eval a X.env) :: starEach [] X.env := by rfl) : Ev X W (.Call (.Name "min" p) [a] [] pos) G R m G1 := by
  subst he
  exact .mk fun σ F H Q S q => toE (pe_callB (cr_minE (e := D.e) hc (room64 hr)) hg hm (by decide +kernel) (pa_cons wE_pe pa_nil hs) (by decide) (by decide) hs rfl) (ha.out σ F H _ S fun v F' H' e S' r1 =>
    ⟨v, _, xs, m, rfl, datL_of O hd S'.ex r1, h, fun x hx => q x F' H' e S' hx⟩)
theorem ev_maxE {xs : List α} {m : α} {D : Dd X.K R} (en : α → PyData) (O : Od D) (he : D.e = en) (hr : Room k X.A) (hd : D.n ≤ 60) (h : maxE en xs = some m) (hm : X.mg "max" = none) (ha : Ev X W a G (RL X.K R) xs G1) (hc : X.calm = true := by rfl) (hg : Gl X "max" := by rfl) (hs : starEach [a] X.env = (false, eval a X.env) :: starEach [] X.env := by rfl) : Ev X W (.Call (.Name "max" p) [a] [] pos) G R m G1 := by
  subst he
  exact .mk fun σ F H Q S q => toE (pe_callB (cr_maxE (e := D.e) hc (room64 hr)) hg hm (by decide +kernel) (pa_cons wE_pe pa_nil hs) (by decide) (by decide) hs rfl) (ha.out σ F H _ S fun v F' H' e S' r1 =>
    ⟨v, _, xs, m, rfl, datL_of O hd S'.ex r1, h, fun x hx => q x F' H' e S' hx⟩)
theorem cmp_ltE {x y : α} (en : α → PyData) {E : Dd X.K R} (O : Od E) (he : E.e = en) (hr : Room k X.A) (h : E.n ≤ 60) : Cmp X .Lt R x R y (dataLt (en x) (en y)) := by subst he; exact ⟨_, op_ltE (room64 hr), fun F H v u Q e r1 r2 q => ⟨E.e x, E.e y, ex_dp e (E.r F v x r1), ex_dp e (E.r F u y r2), O.al _ _, O.nn _, Nat.le_trans (E.d x) h, q _ rfl⟩⟩
theorem cmp_gtE {x y : α} (en : α → PyData) {E : Dd X.K R} (O : Od E) (he : E.e = en) (hr : Room k X.A) (h : E.n ≤ 60) : Cmp X .Gt R x R y (dataLt (en y) (en x)) := by subst he; exact ⟨_, op_gtE (room64 hr), fun F H v u Q e r1 r2 q => ⟨E.e x, E.e y, ex_dp e (E.r F v x r1), ex_dp e (E.r F u y r2), O.al _ _, O.nn _, Nat.le_trans (E.d x) h, q _ rfl⟩⟩
theorem cmp_leE {x y : α} (en : α → PyData) {E : Dd X.K R} (O : Od E) (he : E.e = en) (hr : Room k X.A) (h : E.n ≤ 60) : Cmp X .LtE R x R y (!dataLt (en y) (en x)) := by subst he; exact ⟨_, op_leE (room64 hr), fun F H v u Q e r1 r2 q => ⟨E.e x, E.e y, ex_dp e (E.r F v x r1), ex_dp e (E.r F u y r2), O.al _ _, O.nn _, Nat.le_trans (E.d x) h, q _ rfl⟩⟩
theorem cmp_geE {x y : α} (en : α → PyData) {E : Dd X.K R} (O : Od E) (he : E.e = en) (hr : Room k X.A) (h : E.n ≤ 60) : Cmp X .GtE R x R y (!dataLt (en x) (en y)) := by subst he; exact ⟨_, op_geE (room64 hr), fun F H v u Q e r1 r2 q => ⟨E.e x, E.e y, ex_dp e (E.r F v x r1), ex_dp e (E.r F u y r2), O.al _ _, O.nn _, Nat.le_trans (E.d x) h, q _ rfl⟩⟩
end
end Mz

namespace Mz
open PySem PySem.Spec PyProof.Rows L2
section
variable {X : Cx} {W : Fx} {G G1 G2 G3 : Gm} {e a b : Expr} {α β γ : Type} {R : Rp α} {T : Rp β} {pos p p2 : Pos} {n : Str} {k : Nat}
theorem isn_b {j k : Bool} : Op2 X (compareOp .IsNot) RB j RB k RB (!decide (j = k)) := ⟨_, op_isnot_bl, fun F H v u Q _ r1 r2 q => ⟨j, k, r1, r2, q _ rfl⟩⟩
theorem et_isn {x : α} {y : β} {c : Bool} (ho : Op2 X (compareOp .IsNot) R x T y RB c) (ha : Ev X W a G R x G1) (hb : Ev X W b G1 T y G2) (hm : behindInMarks .IsNot b = false := by first | exact nomark _ | rfl) : EvT X W (.Compare a [.IsNot] [b] pos) G c G2 := et_cmp ho ha hb hm
theorem ev_isn {x : α} {y : β} {c : Bool} (ho : Op2 X (compareOp .IsNot) R x T y RB c) (ha : Ev X W a G R x G1) (hb : Ev X W b G1 T y G2) (hm : behindInMarks .IsNot b = false := by first | exact nomark _ | rfl) : Ev X W (.Compare a [.IsNot] [b] pos) G RB c G2 := ev_cmp ho ha hb hm
/-- t[l:h], t a tuple of several kinds, written bounds -/
theorem ev_sliceT {τ υ : Type} {S : Rs τ} {U : Rs υ} {t : τ} {u : υ} {lo hi : Option Expr} {l h : Option Int} (hw : ¬ (HT.sIx S.n 0 l = 0 ∧ HT.sIx S.n S.n h = S.n)) (hk : ∀ F vs, S.r F vs t → U.r F (cutV vs l h) u) (ha : Ev X W a G (RT X.K S) t G1) (hl : EvP X W lo G1 l G2) (hh : EvP X W hi G2 h G3) : Ev X W (.Subscript a (.Slice lo hi none p2) pos) G (RT X.K U) u G3 := .mk fun σ F H Q S0 q => by
  obtain ⟨t1, p1, k1⟩ := hl
  obtain ⟨t2, p2', k2⟩ := hh
  refine toE (pe_slice sl_tup wE_pe p1 p2') (ha.out σ F H _ S0 fun v F1 H1 e1 S1 r1 => k1 σ F1 H1 _ S1 fun F2 H2 e2 S2 => k2 σ F2 H2 _ S2 fun F3 H3 e3 S3 => ?_)
  obtain ⟨pa, vs, rfl, h1, h2⟩ := r1
  have e := e2.trans e3
  refine ⟨pa, vs, rfl, ex_sqt (e.trans S3.ex) h1, by rw [S.len h2]; exact hw, fun w hwn => ?_⟩
  have nF : F3 w = none := S3.ex.back hwn
  exact q (.ref w) (upd F3 w (.tup (cutV vs l h))) _ ((e1.trans e).trans (Ex.new nF)) (S3.new hwn) ⟨w, cutV vs l h, rfl, .inl (.inl upd_same), U.mono (e.trans (Ex.new nF)) (hk _ _ h2)⟩
end
end Mz

namespace Mz
open PySem PySem.Spec PyProof.Rows L2
/-! ### loops that set an own list anew: where it stands is not known beforehand -/
def AtE {ι : Type} (W : Fx) (A : ι → Gm) : L2.St → Hp → Prop := fun σ H => ∃ j F, Sat W (A j) σ F H
theorem tr_atE {ι : Type} {W : Fx} {A : ι → Gm} {B : Gm} (j : ι) (h : Wk (A j) B) : Tr W B (AtE W A) := .mk fun σ F H S => ⟨j, F, S.wk h⟩
section
variable {X : Cx} {W : Fx} {G G1 G2 : Gm} {D : Ends} {rest body : List Stmt} {tg iter : Expr} {α S τ ι : Type} {R : Rp α} {as : List α} {r : τ} {pos : Pos}
theorem s_forE {k : S → Option τ} {f : α → S → Option S} (s0 : S) (j0 : ι) (Gs : S → ι → Gm) (hsrc : Src X W tg iter G R as G1) (h0 : Wk (Gs s0 j0) G1) (hm : (lp f as s0).bind k = some r)
    (bd : ∀ W', W.le W' → ∀ a s j s', a ∈ as → f a s = some s' → ∃ ss G2, Tg X W' tg ss (Gs s j) R a G2 ∧ Tr W' G2 (wS X body { D with nx := AtE W' (Gs s'), ct := AtE W' (Gs s'), bk := fun _ _ => False }))
    (nx : ∀ s j, k s = some r → Tr W (Gs s j) (wS X rest D)) (hx : X.xe = fun _ _ => False := by rfl) (hc : X.calm = true := by rfl) (hs : ∀ x, foldedSetIterable iter X.env x = pure x := by intro _; rfl) : Tr W G (wS X (.For tg iter body [] pos :: rest) D) := by
  obtain ⟨sE, m1, m2⟩ := Option.bind_eq_some_iff.mp hm
  obtain ⟨z, zA, zB, zC⟩ := lp_get m1
  obtain ⟨wi, hi, hrun⟩ := hsrc
  refine .mk fun σ F H S0 => toS (pss_cons (ps_for (xm hx) hc hi wG_pg (wS_ps (st := body)) hs) wS_ps) (hrun σ F H _ S0 fun J F1 H1 f1 S1 w => ?_)
  refine for_core (D := { D with nx := wS X rest D }) (fun i σ H => ∃ j F, Ex F1 F ∧ Sat W (Gs (z i) j) σ F H) w (fun i σ H ⟨_, F, a, b⟩ => ⟨F, a, b.ex⟩) ⟨j0, F1, Ex.refl F1, by rw [zA]; exact S1.wk h0⟩ ?_ ?_
  · rintro i a σ2 H2 ha ⟨j, F2, f2, S2⟩ v H' hy
    obtain ⟨F3, y1, y2, y3, y4, y5⟩ := w.yld i a F2 H2 v H' f2 S2.ex ha hy
    have S3 := S2.stepT y1 y2 y3 y4
    have hle : W.le ⟨W.w, F3, W.tb⟩ := ⟨rfl, S3.f0, rfl⟩
    obtain ⟨ss, Gt, t1, t2⟩ := bd ⟨W.w, F3, W.tb⟩ hle a (z i) j (z (i + 1)) (List.mem_of_getElem? ha) (zC i a ha)
    refine t1.out σ2 F3 H' v _ S3.pin y5 fun σ3 _ S4 => ?_
    have hb := t2.out σ3 F3 H' S4
    refine fun pins s1 I => thn (hb pins s1 I) fun fl s2 hf => ?_
    cases fl with
    | next =>
      obtain ⟨σ', Hn, In, jn, Fn, Sn⟩ := hf
      exact ⟨σ', Hn, In, jn, Fn, (f2.trans y1).trans Sn.f0, Sn.le hle⟩
    | cont =>
      obtain ⟨σ', Hn, In, jn, Fn, Sn⟩ := hf
      exact ⟨σ', Hn, In, jn, Fn, (f2.trans y1).trans Sn.f0, Sn.le hle⟩
    | brk =>
      obtain ⟨σ', Hn, In, no⟩ := hf
      exact no.elim
    | ret v => exact hf
  · rintro σ2 H2 ⟨j, F2, f2, S2⟩
    exact (nx (z as.length) j (by rw [zB]; exact m2)).out σ2 F2 H2 S2
theorem ev_negI (c : Int) {i : Int} {a : Expr} {W : Fx} (h : -i = c) (ha : Ev X W a G RI i G1) : Ev X W (.UnaryOp .USub a pos) G RI c G1 := Ev.eq (ev_neg ha) h
end
end Mz

namespace MzT
open PySem PySem.W PySem.Calls PyProof.Rows
section
variable {prog : Program} {w : World} {A : Around} {E : Value → Shared → Prop} {s : Shared}
/-- the items of a tuple, brought into a new list -/
theorem gatherT {q : Addr} {us : List Value} {Q : List Value → Shared → Prop} (hq : s.heap.IsTuple q us.toArray) (hz : us.length ≤ sizeLine)
    (k : Q us { s with heap := (s.heap.push (seqObj "list" #[] 0)).update s.heap.objs.size (Obj.mapSeq (· ++ us.toArray)) }) :
    wpAny (model prog w) A (collect (.ref q)) Q E s := by
  obtain ⟨ob, hob, hcl, ep, hda⟩ := id hq
  unfold collect; refine wpAny_bind (wpAny_runValue (codeAny_builtin entry_proto_collect' ?_))
  show wpAny _ _ (do again (.builtin "list.__iadd__" ⟨[← newList [], .ref q], []⟩)) _ _ s
  refine wpAny_bind (wpAny_newList (wpAny_pure ⟨Code.quiet_builtin _ (by decide +kernel), codeAny_builtin entry_list_iadd' ?_⟩))
  show wpAny _ _ (Builtin.List.listExtendWith (.ref s.heap.objs.size) (.ref q) (.ref s.heap.objs.size)) _ _ { s with heap := s.heap.push (seqObj "list" #[] 0) }
  unfold Builtin.List.listExtendWith
  have hob' : (s.heap.push (seqObj "list" #[] 0)).get? q = some ob := Heap.get?_push_of_some _ hob
  refine wpAny_bind (wpAny_typeOf (T := "tuple") ⟨ob, hob', hcl⟩ ?_)
  have tt : (Value.type "tuple" == Value.type "tuple") = true := by rfl
  rw [if_pos (by rw [tt]; simp)]
  refine wpAny_bind (listItems_at hob' hda ?_); refine wpAny_bind (listItems_at (xs := #[]) (n := 0) (Heap.get?_push_size _ rfl) rfl ?_)
  rw [if_neg (by simp)]
  refine wpAny_bind (listUpdate_at (xs := #[]) (n := 0) (Heap.get?_push_size _ rfl) rfl ?_ (Nat.zero_le _) (by show (#[] ++ us.toArray).size ≤ sizeLine + 1; simp only [Array.size_append, List.size_toArray, List.length_nil]; omega))
  refine wpAny_pure ?_
  show wpAny (model prog w) A (do { let o ← load s.heap.objs.size; match o.data with | .seq xs _ => pure xs.toList | _ => unsupported "internal:collect" }) Q E { s with heap := (s.heap.push (seqObj "list" #[] 0)).update s.heap.objs.size (Obj.mapSeq (· ++ us.toArray)) }
  refine wpAny_bind (wpAny_load (get?_update_seq (Heap.get?_push_size _ rfl) _) ?_)
  show wpAny _ _ (pure ((#[] : Array Value) ++ us.toArray).toList) Q E _
  rw [show ((#[] : Array Value) ++ us.toArray).toList = us by simp]; exact wpAny_pure k
theorem sortedT {q : Addr} {us : List Value} {κ : KeyKind} {Q : Value → Shared → Prop} (hq : s.heap.IsTuple q us.toArray) (hz : us.length ≤ sizeLine) (S : SortsAt prog w A.in1.in1 { s with heap := sortingHeap (copyHeap s.heap us) (s.heap.objs.size + 1) us } κ us)
    (k : Q (.ref (s.heap.objs.size + 1)) { s with heap := sortedAll s.heap us (sortVals κ false us us).toArray }) : wpAny (model prog w) A (call (.builtin "sorted") [.ref q]) Q E s := by
  refine call_function_entry_kw kind_sorted plain_sorted entry_sorted (args_sorted1 _) ?_
  unfold Builtin.«sorted»; refine wpAny_bind (m := checkCount "sorted" 1 1 _) (wpAny_pure ?_)
  refine wpAny_bind (gatherT hq hz ?_); refine wpAny_bind (wpAny_newList ?_ hz)
  have hsize : ((s.heap.push (seqObj "list" #[] 0)).update s.heap.objs.size (Obj.mapSeq (· ++ us.toArray))).objs.size = s.heap.objs.size + 1 := by rw [Heap.size_update, size_push']
  show wpAny _ _ _ _ _ { s with heap := copyHeap s.heap us }
  rw [hsize]
  refine wpAny_bind (wpAny_holding (wpAny_call_entry_kw slot_list_sort ⟨_, copyHeap_at s.heap us, rfl⟩ entry_list_sort ?goB (args_list_sort _)))
  case goB =>
    show wpAny (model prog w) A.in1.in1 (Builtin.«list.sort» ⟨[.ref (s.heap.objs.size + 1)], []⟩) _ _ _
    exact list_sort_vals (s := { s with heap := copyHeap s.heap us }) (copyHeap_at s.heap us) S hz ⟨_, rfl, wpAny_pure ⟨_, rfl, k⟩⟩
theorem sorted_dataT {β : Type} {us : List Value} {bs : List β} {en : β → PyData} {R : Value → β → Prop} {q : Addr} {Q : Value → Shared → Prop} (hq : s.heap.IsTuple q us.toArray) (e : EachIs R us bs) (er : EachIs (fun v b => ∃ as, Reads s.heap v (en b) as) us bs) (hal : AllAlike (bs.map en)) (hk : Sortable (bs.map en)) (hL : bs.length ≤ sizeLine)
    (hu : ∀ b, b ∈ bs → A.units + 2 + (en b).depth < cLine) (h : ∀ out, out.length = bs.length → EachIs R out (bs.mergeSort (dataLe false en)) → Q (.ref (s.heap.objs.size + 1)) { s with heap := sortedAll s.heap us (List.toArray out) }) :
    wpAny (model prog w) A (call (.builtin "sorted") [.ref q]) Q E s := by
  have er2 : EachIs (fun v b => ∃ as, Reads (sortingHeap (copyHeap s.heap us) (s.heap.objs.size + 1) us) v (en b) as) us bs := er.mono fun _ _ ⟨as, r⟩ => ⟨as, PyProof.Rows.Reads.keeps (fun _ _ => sorting_copy_old) r⟩
  exact sortedT hq (by rw [e.length]; exact hL) (SortsAt.data (s := { s with heap := sortingHeap (copyHeap s.heap us) (s.heap.objs.size + 1) us }) (each_map (R := fun v d => ∃ as, Reads (sortingHeap (copyHeap s.heap us) (s.heap.objs.size + 1) us) v d as) en er2) hal hk (bound_map hu))
    (h _ (by rw [sortVals_length false rfl]; exact e.length) (sortVals_data false e er2 hal))
end
end MzT
namespace Mz
open PySem PySem.Spec PyProof.Rows L2
open PySem.W (alike alikeAll dataLt dataLe AllAlike Sortable EachIs minD maxD)
section
variable {X : Cx}
structure DatT (X : Cx) (H : Hp) {α : Type} (e : α → PyData) (v : V) (P : V → α → Prop) (as : List α) : Prop where
  ex : ∃ (a : Addr) (xs : List V), v = .ref a ∧ SqT X.K H a xs ∧ Paired P xs as
  dp : ∀ x b, P x b → Dp X.K H x (e b)
  al : ∀ a b, alike (e a) (e b) = true
  nn : ∀ a, e a ≠ .none
  kd : (∀ a, ∃ x r, e a = .tuple (x :: r)) ∨ (∀ a xs, e a ≠ .tuple xs)
  d : ∀ a, (e a).depth ≤ 60
def rSrtT (X : Cx) {α : Type} (e : α → PyData) : List V → Hp → VK → Prop := fun vs H Q => ∃ (v : V) (P : V → α → Prop) (as : List α), vs = [v] ∧ DatT X H e v P as ∧ ∀ ys p, Paired P ys (srtE e as) → H p = none → Q (.ref p) (upd H p (.lst ys))
theorem cr_srtT {α : Type} {e : α → PyData} (hu : X.A.units + 65 < cLine) : CallR X (.builtin "sorted") (rSrtT X e) := by
  intro pins s σ H vs us Q I r h
  obtain ⟨v, P, as, rfl, D, q⟩ := h
  obtain ⟨a, xs, rfl, hs, pa⟩ := D.ex
  obtain ⟨its, rv, hl, hz⟩ := I.tuple hs
  rw [Vals.ref1 r]
  have er := each_of I D.dp rv pa
  have hlen : as.length = xs.length := (Paired.length pa).symm
  refine MzT.sorted_dataT (R := fun v b => ∃ x, RelV x v ∧ P x b) (en := e) (bs := as) hl (er.mono fun _ _ h => h.1) (er.mono fun _ _ h => h.2) (AllAlike.of fun b b' => D.al b b') ?_ (by rw [hlen]; exact hz) (fun b _ => by have := D.d b; omega) fun out h1 h2 => ?_
  · rcases D.kd with k | k
    · exact Sortable.tuples k
    · exact Sortable.others fun b => ⟨D.nn b, k b⟩
  · obtain ⟨ys, k1, k2⟩ := each_back h2
    obtain ⟨ep, he'⟩ := PyProof.Rows.sortedAll_at s.heap its (List.toArray out)
    have hy : ys.length ≤ sizeLine := by rw [k1.length, h1, hlen]; exact hz
    exact ⟨.ref _, upd H (s.heap.objs.size + 1) (.lst ys), I.laid (t' := s.toks) (fun _ _ => PyProof.Rows.sortedAll_old) (Nat.le_succ _) ⟨hy, out, ep, k1, he'⟩, rfl, q ys _ k2 (I.hok.fresh (Nat.le_succ _))⟩
end
section
variable {X : Cx} {W : Fx} {G G1 G2 : Gm} {e a b c d : Expr} {α : Type} {R : Rp α} {pos p : Pos} {n : Str} {k : Nat} {t : Bool} {x : α}
theorem eo_sortedEV {xs : List α} {D : Dd X.K R} (en : α → PyData) (O : Od D) (he : D.e = en) (hr : Room k X.A) (hd : D.n ≤ 60) (hm : X.mg "sorted" = none) (ha : Ev X W a G (RV X.K R) xs G1) (hg : Gl X "sorted" := by rfl) (hs : starEach [a] X.env = (false, eval a X.env) :: starEach [] X.env := by rfl) : EvO X W (.Call (.Name "sorted" p) [a] [] pos) G (fun l => QL l R (srtE en xs)) G1 := .mk fun σ F H Q S q => by
  subst he
  exact toE (pe_callB (cr_srtT (room64 hr)) hg hm (by decide +kernel) (pa_cons wE_pe pa_nil hs) (by decide) (by decide) hs rfl) (ha.out σ F H _ S fun v F' H' e S' r1 => by
    obtain ⟨pa, vs, rfl, h1, h2⟩ := r1
    exact ⟨.ref pa, _, xs, rfl, ⟨⟨pa, vs, rfl, ex_sqt S'.ex h1, h2⟩, fun x b h => ex_dp S'.ex (D.r F' x b h), O.al, O.nn, O.kd, fun a => Nat.le_trans (D.d a) hd⟩, fun ys l hp hl => by
      obtain ⟨s1, s2⟩ := NewO.list (R := R) (as := srtE D.e xs) S' hl hp
      exact q l F' _ e s1 s2⟩)
/-- a if c else b, where c's answer is known -/
theorem ev_ifY (hc : EvT X W c G t G1) (ht : t = true) (ha : Ev X W a G1 R x G2) : Ev X W (.IfExp c a b pos) G R x G2 := by
  subst ht
  exact ev_if hc (fun _ => ha) (fun h => nomatch h)
theorem ev_ifN (hc : EvT X W c G t G1) (ht : t = false) (hb : Ev X W b G1 R x G2) : Ev X W (.IfExp c a b pos) G R x G2 := by
  subst ht
  exact ev_if hc (fun h => nomatch h) (fun _ => hb)
end
section
variable {X : Cx} {W : Fx} {G G1 : Gm} {e : Expr} {α : Type} {x : α}
/-- how the value is borne is said ahead -/
theorem ev_R (R : Rp α) (x : α) (h : Ev X W e G R x G1) : Ev X W e G R x G1 := h
end
theorem srtE_I (xs : List Int) : srtE enI xs = srtI xs := by
  unfold srtE srtI
  rw [show dataLe false enI = fun a b : Int => decide (a ≤ b) from PySem.W.dataLe_int (fun b : Int => b)]
end Mz

namespace Mz
open PySem PySem.Spec PyProof.Rows L2
/-! ### own lists set anew: in loops with ways out, in whiles, on the ways of an if -/
section
variable {ι S ρ : Type}
def LDE {β : Type} (W : Fx) (Gs : S → ι → Gm) (RQ : β → V → Hp → Prop) (c : Ctl S β) : Ends :=
  { nx := fun σ H => ∃ s, c = .next s ∧ AtE W (Gs s) σ H, ct := fun σ H => ∃ s, c = .next s ∧ AtE W (Gs s) σ H, bk := fun σ H => ∃ s, c = .brk s ∧ AtE W (Gs s) σ H, rt := fun v H => ∃ q, c = .ret q ∧ RQ q v H }
variable {W' : Fx} {G : Gm} {Gs : S → ι → Gm} {RQ : ρ → V → Hp → Prop} {s : S}
theorem tr_nxE {W : Fx} (h : Tr W' G (AtE W (Gs s))) : Tr W' G (LDE W Gs RQ (Ctl.next s)).nx := .mk fun σ F H S => ⟨_, rfl, h.out σ F H S⟩
theorem tr_ctE {W : Fx} (h : Tr W' G (AtE W (Gs s))) : Tr W' G (LDE W Gs RQ (Ctl.next s)).ct := .mk fun σ F H S => ⟨_, rfl, h.out σ F H S⟩
theorem tr_bkE {W : Fx} (h : Tr W' G (AtE W (Gs s))) : Tr W' G (LDE W Gs RQ (Ctl.brk s)).bk := .mk fun σ F H S => ⟨_, rfl, h.out σ F H S⟩
theorem ld_retE {W : Fx} {Or : ρ → Sd → Prop} {Outs : ρ → List Sd} {c : Ctl S ρ} {q : ρ} {v : V} {H : Hp} {W0 : Fx} (l : W0.le W) (e : some (Ctl.ret q) = some c) (h : Rt W Or Outs q v H) : (LDE W Gs (Rt W0 Or Outs) c).rt v H := ⟨q, (Option.some.inj e).symm, h.le l⟩
end
section
variable {X : Cx} {W : Fx} {G G1 G2 : Gm} {D : Ends} {rest body t u : List Stmt} {tg iter c : Expr} {α S τ ι ρ : Type} {R : Rp α} {as : List α} {r : τ} {pos : Pos}
theorem s_forCE {k : S → Option τ} {f : α → S → Option (Ctl S ρ)} {ro : ρ → Option τ} (s0 : S) (j0 : ι) (Gs : S → ι → Gm) (RQ : ρ → V → Hp → Prop) (hsrc : Src X W tg iter G R as G1) (h0 : Wk (Gs s0 j0) G1) (hm : ((lpC f as s0).bind fun c => c.on k ro) = some r)
    (bd : ∀ W', W.le W' → ∀ a s j c, a ∈ as → f a s = some c → ∃ ss G2, Tg X W' tg ss (Gs s j) R a G2 ∧ Tr W' G2 (wS X body (LDE W' Gs RQ c)))
    (nx : ∀ s j, k s = some r → Tr W (Gs s j) (wS X rest D)) (hq : ∀ q, ro q = some r → ∀ v H, RQ q v H → D.rt v H) (hx : X.xe = fun _ _ => False := by rfl) (hc : X.calm = true := by rfl) (hs : ∀ x, foldedSetIterable iter X.env x = pure x := by intro _; rfl) :
    Tr W G (wS X (.For tg iter body [] pos :: rest) D) := by
  obtain ⟨cE, e1, e2⟩ := Option.bind_eq_some_iff.mp hm
  obtain ⟨n, z, z0, zn, z1, z2⟩ := lpC_get e1
  obtain ⟨wi, hpi, hw⟩ := hsrc
  refine .mk fun σ F H S => toS (pss_cons (ps_for (xm hx) hc hpi wG_pg (wS_ps (st := body)) hs) wS_ps) (hw σ F H _ S fun J F1 H1 f1 S1 w => ?_)
  refine for_core (D := { D with nx := wS X rest D }) (fun i σ H => i ≤ n ∧ ∃ j F, Ex F1 F ∧ Sat W (Gs (z i) j) σ F H) w (fun i σ H ⟨_, _, F, a, b⟩ => ⟨F, a, b.ex⟩) ⟨Nat.zero_le _, j0, F1, Ex.refl F1, by rw [z0]; exact S1.wk h0⟩ ?_ ?_
  · rintro i a σ2 H2 ha ⟨hi, j, F2, f2, S2⟩ v H' hy
    obtain ⟨F3, g1, g2, g3, g4, g5⟩ := w.yld i a F2 H2 v H' f2 S2.ex ha hy
    have S3 := S2.stepT g1 g2 g3 g4
    have le : W.le ⟨W.w, F3, W.tb⟩ := ⟨rfl, S3.f0, rfl⟩
    have hfa : ∃ c, f a (z i) = some c ∧ (∀ s, c = .next s → i < n ∧ s = z (i + 1)) ∧ (∀ s, c = .brk s → cE = .next s) ∧ ∀ q, c = .ret q → cE = .ret q := by
      by_cases hlt : i < n
      · exact ⟨_, z1 i a hlt ha, (fun s e => ⟨hlt, by cases e; rfl⟩), (fun s e => nomatch e), (fun q e => nomatch e)⟩
      · have e : i = n := by omega
        subst e
        rcases z2 with ⟨q1, q2⟩ | ⟨b, q1, q2⟩
        · rw [q1] at ha
          simp at ha
        · rw [q1] at ha
          cases Option.some.inj ha
          rcases q2 with ⟨s', q2, q3⟩ | ⟨q, q2, q3⟩
          · exact ⟨_, q2, (fun s e => nomatch e), (fun s e => by cases e; exact q3), (fun q e => nomatch e)⟩
          · exact ⟨_, q2, (fun s e => nomatch e), (fun s e => nomatch e), (fun q e => by cases e; exact q3)⟩
    obtain ⟨c, hf1, hf2, hf3, hf4⟩ := hfa
    obtain ⟨ss, G2, t1, t2⟩ := bd ⟨W.w, F3, W.tb⟩ le a (z i) j c (List.mem_of_getElem? ha) hf1
    refine t1.out σ2 F3 H' v _ S3.pin g5 fun σ3 _ S4 => ?_
    have h5 := t2.out σ3 F3 H' S4
    refine fun pins s1 I => thn (h5 pins s1 I) fun fl s2 hf => ?_
    cases fl with
    | next =>
      obtain ⟨σ', H5, I5, s, es, j5, F5, S5⟩ := hf
      obtain ⟨l1, l2⟩ := hf2 s es
      subst l2
      exact ⟨σ', H5, I5, l1, j5, F5, (f2.trans g1).trans S5.f0, S5.le le⟩
    | cont =>
      obtain ⟨σ', H5, I5, s, es, j5, F5, S5⟩ := hf
      obtain ⟨l1, l2⟩ := hf2 s es
      subst l2
      exact ⟨σ', H5, I5, l1, j5, F5, (f2.trans g1).trans S5.f0, S5.le le⟩
    | brk =>
      obtain ⟨σ', H5, I5, s, es, j5, F5, S5⟩ := hf
      have e3 := hf3 s es
      subst e3
      exact ⟨σ', H5, I5, (nx s j5 e2).out σ' F5 H5 (S5.le le)⟩
    | ret v =>
      obtain ⟨v', σ', H5, I5, rv, q, eq, hq'⟩ := hf
      have e3 := hf4 q eq
      subst e3
      exact ⟨v', σ', H5, I5, rv, hq q e2 v' H5 hq'⟩
  · rintro σ2 H2 ⟨hi, j, F2, f2, S2⟩
    rcases z2 with ⟨q1, q2⟩ | ⟨b, q1, q2⟩
    · subst q2
      exact (nx _ j e2).out σ2 F2 H2 (by rw [q1]; exact S2)
    · have := (List.getElem?_eq_some_iff.mp q1).1
      omega
theorem s_whileE {k : S → Option τ} {cf : S → Option Bool} {f : S → Option (Ctl S ρ)} {ro : ρ → Option τ} (s0 : S) (j0 : ι) (Gs : S → ι → Gm) (RQ : ρ → V → Hp → Prop) (h0 : Wk (Gs s0 j0) G) (hm : ((wh cf f s0).bind fun c => c.on k ro) = some r)
    (cd : ∀ s j t, cf s = some t → EvT X W c (Gs s j) t (Gs s j)) (bd : ∀ s j d, f s = some d → Tr W (Gs s j) (wS X body (LDE W Gs RQ d)))
    (nx : ∀ s j, k s = some r → Tr W (Gs s j) (wS X rest D)) (hq : ∀ q, ro q = some r → ∀ v H, RQ q v H → D.rt v H) (hx : X.xe = fun _ _ => False := by rfl) : Tr W G (wS X (.While c body [] pos :: rest) D) := by
  obtain ⟨cE, e1, e2⟩ := Option.bind_eq_some_iff.mp hm
  obtain ⟨n, hn⟩ := wh_get e1
  refine .mk fun σ F H S => toS (pss_cons (ps_while (xm hx) wT_pt (wS_ps (st := body))) wS_ps) ?_
  refine ⟨fun m σ H => ∃ s j F, whl cf f m s = some cE ∧ Sat W (Gs s j) σ F H, ⟨n, s0, j0, F, hn, S.wk h0⟩, ?_⟩
  rintro m σ1 H1 ⟨s, j, F1, h1, S1⟩
  cases m with
  | zero => exact nomatch h1
  | succ m =>
    obtain ⟨t, h2, h3⟩ := Option.bind_eq_some_iff.mp h1
    refine (cd s j t h2).out σ1 F1 H1 _ S1 fun F2 H2 _ S2 => ?_
    cases t with
    | false =>
      rw [if_neg Bool.false_ne_true] at h3 ⊢
      cases h3
      exact (nx s j e2).out σ1 F2 H2 S2
    | true =>
      rw [if_pos rfl] at h3 ⊢
      obtain ⟨d, h4, h5⟩ := Option.bind_eq_some_iff.mp h3
      refine ⟨fun σ' H' => ∃ s' j' F', d = .next s' ∧ Sat W (Gs s' j') σ' F' H', fun σ' H' ⟨s', j', F', e, S'⟩ => ⟨m, Nat.lt_succ_self _, s', j', F', by subst e; exact h5, S'⟩, ?_⟩
      have h6 := (bd s j d h4).out σ1 F2 H2 S2
      refine fun pins s1 I => thn (h6 pins s1 I) fun fl s2 hf => ?_
      cases fl with
      | next =>
        obtain ⟨σ', H5, I5, s', es, j5, F5, S5⟩ := hf
        exact ⟨σ', H5, I5, s', j5, F5, es, S5⟩
      | cont =>
        obtain ⟨σ', H5, I5, s', es, j5, F5, S5⟩ := hf
        exact ⟨σ', H5, I5, s', j5, F5, es, S5⟩
      | brk =>
        obtain ⟨σ', H5, I5, s', es, j5, F5, S5⟩ := hf
        subst es
        cases h5
        exact ⟨σ', H5, I5, (nx s' j5 e2).out σ' F5 H5 S5⟩
      | ret v =>
        obtain ⟨v', σ', H5, I5, rv, q, eq, hq'⟩ := hf
        subst eq
        cases h5
        exact ⟨v', σ', H5, I5, rv, hq q e2 v' H5 hq'⟩
theorem s_joinE {β : Type} {b : Bool} {m1 m2 : Option β} {k : β → Option τ} (A : β → ι → Gm) (hc : EvT X W c G b G1) (hm : (if b = true then m1 else m2).bind k = some r) (h1 : ∀ s, b = true → m1 = some s → Tr W G1 (wS X t { D with nx := AtE W (A s) }))
    (h2 : ∀ s, b = false → m2 = some s → Tr W G1 (wS X u { D with nx := AtE W (A s) })) (q : ∀ s j, k s = some r → Tr W (A s j) (wS X rest D)) : Tr W G (wS X (.If c t u pos :: rest) D) := by
  obtain ⟨s, e1, e2⟩ := Option.bind_eq_some_iff.mp hm
  refine .mk fun σ F H S => toS (pss_cons (ps_if wT_pt wS_ps wS_ps) wS_ps) (hc.out σ F H _ S fun F' H' _ S' => ?_)
  have go : ∀ {st : List Stmt}, Tr W G1 (wS X st { D with nx := AtE W (A s) }) → wS X st { D with nx := wS X rest D } σ H' := fun {st} hh => by
    have h3 := hh.out σ F' H' S'
    refine fun pins s1 I => thn (h3 pins s1 I) fun f s2 hf => ?_
    cases f with
    | next =>
      obtain ⟨σ', H2, I2, ⟨j2, F2, S2⟩⟩ := hf
      exact ⟨σ', H2, I2, (q s j2 e2).out σ' F2 H2 S2⟩
    | brk => exact hf
    | cont => exact hf
    | ret v => exact hf
  cases b with
  | true => exact go (h1 s rfl (by rw [if_pos rfl] at e1; exact e1))
  | false => exact go (h2 s rfl (by rw [if_neg Bool.false_ne_true] at e1; exact e1))
end
section
variable {X : Cx} {W : Fx} {G G1 G2 : Gm} {a b e : Expr} {α : Type} {R : Rp α} {pos p apos : Pos}
/-- tuple + tuple -/
theorem ev_addV {xs ys zs : List α} (h : addO xs ys = some zs) (ha : Ev X W a G (RV X.K R) xs G1) (hb : Ev X W b G1 (RV X.K R) ys G2) : Ev X W (.BinOp a .Add b pos) G (RV X.K R) zs G2 := .mk fun σ F H Q S q => by
  unfold addO at h
  split at h
  · rename_i hlen
    cases h
    refine toE (pe_op op_catA wE_pe wE_pe) (two ha hb S fun v u F' H' e S' r1 r2 => ?_)
    obtain ⟨p1, vs, rfl, h1, h2⟩ := r1
    obtain ⟨p2, ws, rfl, h3, h4⟩ := r2
    refine ⟨p1, p2, vs, ws, rfl, rfl, ex_sqt S'.ex h1, ex_sqt S'.ex h3, by rw [h2.len, h4.len, sizeLine_eq]; omega, fun e0 => ?_, fun _ e0 => ?_, fun _ _ t ht => ?_⟩
    · subst e0
      have ex : xs = [] := List.length_eq_zero_iff.mp h2.len.symm
      exact q (.ref p2) F' H' e S' ⟨p2, ws, rfl, h3, by rw [ex]; exact h4⟩
    · subst e0
      have ey : ys = [] := List.length_eq_zero_iff.mp h4.len.symm
      exact q (.ref p1) F' H' e S' ⟨p1, vs, rfl, h1, by rw [ey, List.append_nil]; exact h2⟩
    · have nF : F' t = none := S'.ex.back ht
      exact q (.ref t) (upd F' t (.tup (vs ++ ws))) _ (e.trans (Ex.new nF)) (S'.new ht) ⟨t, vs ++ ws, rfl, .inl (.inl upd_same), (h2.app h4).mono (Ex.new nF)⟩
  · cases h
theorem all2_str {F : Hp} : ∀ {vs : List V} {zs : List Str}, All2 RS F vs zs → vs = zs.map V.str
  | [], [], _ => rfl
  | v :: vs, z :: zs, h => by
    cases h with
    | cons h1 h2 => rw [List.map_cons, show v = V.str z from h1, all2_str h2]
  | [], _ :: _, h => nomatch h
  | _ :: _, [], h => nomatch h
/-- t.join(texts) -/
def joinO (t : Str) (ys : List Str) : Option Str := if (ys.map (·.length)).sum + ys.length * t.length ≤ 16777216 then some (Txt.join t ys) else none
theorem ev_join {t z : Str} {ys : List Str} (h : joinO t ys = some z) (ha : Ev X W a G RS t G1) (hb : Ev X W e G1 (RL X.K RS) ys G2)
    (hs : starEach [e] X.env = (false, eval e X.env) :: starEach [] X.env := by rfl) (hbase : attributeBase a "join" X.env (eval a X.env) = eval a X.env := by rfl) (hline : (apos.endLine == pos.line) = true := by rfl) : Ev X W (.Call (.Attribute a "join" apos) [e] [] pos) G RS z G2 := .mk fun σ F H Q S q => by
  unfold joinO at h
  split at h
  · rename_i hc
    cases h
    refine toE (pe_join wE_pe wE_pe hs hbase hline) ?_
    refine ha.out σ F H _ S fun v F1 H1 e1 S1 r1 => ⟨⟨t, r1⟩, hb.out σ F1 H1 _ S1 fun u F2 H2 e2 S2 r2 => ?_⟩
    obtain ⟨pa, vs, rfl, h1, h2⟩ := r2
    obtain rfl := all2_str h2
    exact ⟨t, pa, ys, r1, rfl, .inl (ex_sql S2.ex h1), hc, q _ F2 H2 (e1.trans e2) S2 rfl⟩
  · cases h
theorem ev_joinV {t z : Str} {ys : List Str} (h : joinO t ys = some z) (ha : Ev X W a G RS t G1) (hb : Ev X W e G1 (RV X.K RS) ys G2)
    (hs : starEach [e] X.env = (false, eval e X.env) :: starEach [] X.env := by rfl) (hbase : attributeBase a "join" X.env (eval a X.env) = eval a X.env := by rfl) (hline : (apos.endLine == pos.line) = true := by rfl) : Ev X W (.Call (.Attribute a "join" apos) [e] [] pos) G RS z G2 := .mk fun σ F H Q S q => by
  unfold joinO at h
  split at h
  · rename_i hc
    cases h
    refine toE (pe_join wE_pe wE_pe hs hbase hline) ?_
    refine ha.out σ F H _ S fun v F1 H1 e1 S1 r1 => ⟨⟨t, r1⟩, hb.out σ F1 H1 _ S1 fun u F2 H2 e2 S2 r2 => ?_⟩
    obtain ⟨pa, vs, rfl, h1, h2⟩ := r2
    obtain rfl := all2_str h2
    exact ⟨t, pa, ys, r1, rfl, .inr (ex_sqt S2.ex h1), hc, q _ F2 H2 (e1.trans e2) S2 rfl⟩
  · cases h
theorem all2_strs {F : Hp} : ∀ (zs : List Str), All2 RS F (zs.map V.str) zs
  | [] => .nil
  | z :: zs => .cons rfl (all2_strs zs)
/-- t.split(u) -/
def splitO (t u : Str) : Option (List Str) := if (u.length == 0) = false ∧ t.length + 2 ≤ sizeLine then some (Txt.split t u) else none
theorem eo_split {t u : Str} {zs : List Str} (h : splitO t u = some zs) (ha : Ev X W a G RS t G1) (hb : Ev X W e G1 RS u G2)
    (hs : starEach [e] X.env = (false, eval e X.env) :: starEach [] X.env := by rfl) (hbase : attributeBase a "split" X.env (eval a X.env) = eval a X.env := by rfl) (hline : (apos.endLine == pos.line) = true := by rfl) : EvO X W (.Call (.Attribute a "split" apos) [e] [] pos) G (fun l => QL l RS zs) G2 := .mk fun σ F H Q S q => by
  unfold splitO at h
  split at h
  · rename_i hc
    cases h
    refine toE (pe_split wE_pe wE_pe hs hbase hline) ?_
    refine ha.out σ F H _ S fun v F1 H1 e1 S1 r1 => ⟨⟨t, r1⟩, hb.out σ F1 H1 _ S1 fun y F2 H2 e2 S2 r2 => ⟨t, u, r1, by rw [show y = V.str u from r2], hc.1, hc.2, ?_⟩⟩
    intro l hl
    obtain ⟨s1, s2⟩ := NewO.list S2 hl (all2_strs (F := F2) (Txt.split t u))
    exact q l F2 _ (e1.trans e2) s1 s2
  · cases h
end
end Mz

namespace Mz
open PySem PySem.Spec PyProof.Rows L2
/-! ### a def that changes a lent thing and returns a new list; items set by open places; x[k] op= e; reversed tuples -/
theorem backO1 {W : Fx} {G : Gm} {σ : L2.St} {F H : Hp} {i : Nat} {l l2 : Addr} {Q Q' Q2 : Qd} {v : V} {vs' : L2.St} {F' H' : Hp} (S : Sat W G σ F H) (hi : G[i]? = some (some (own l Q)))
    (S' : Sat (W.restQ F H Q.fp) (some (own l2 Q2) :: [some (own l Q')]) (some v :: vs') F' H') :
    Sat W (G.set i (some (own l Q'))) σ F' H' ∧ v = .ref l2 ∧ NewO W (G.set i (some (own l Q'))) F' H' Q2 := by
  obtain ⟨b1, b2⟩ := back1 S hi S'
  refine ⟨b1, b2.1, b2.2, fun a ha => ?_⟩
  obtain ⟨c1, c2, c3⟩ := S'.fr 0 _ a rfl ha
  have nt : ∀ p ∈ W.tb, a ≠ p.1 := fun p hp z => S'.tt.G0 p hp 0 (own l2 Q2) rfl (z ▸ ha)
  refine ⟨c1, ?_, c3, fun j P hj hm => ?_⟩
  · cases q : W.w a with
    | none => rfl
    | some o =>
      have n1 := S.wx a o q
      have n0 : F a = none ∨ ∃ xs, W.w a = some (.tup xs) := S.wf a (by rw [q]; intro z; cases z)
      have n3 : a ∉ Q.fp := fun z => by
        have := (S.fr i _ a hi z).2.1
        rw [q] at this; cases this
      rcases n0 with n2 | ⟨xs, n2⟩
      · rw [restQ_in n2 n3 nt, n1] at c2
        cases c2
      · obtain ⟨_, _, p⟩ := S'.sl 0 _ rfl
        exact absurd (b1.wx a _ n2) (Sd.nT (P := own l2 Q2) p a ha xs)
  · by_cases e : j = i
    · subst e
      have hl : j < G.length := (List.getElem?_eq_some_iff.mp hi).1
      rw [List.getElem?_set_self hl] at hj
      cases Option.some.inj hj
      exact absurd (S'.dj 0 1 _ _ a rfl rfl ha hm) (by decide)
    · rw [List.getElem?_set_ne (fun z => e z.symm)] at hj
      obtain ⟨d1, d2, d3⟩ := S.fr j P a hj hm
      have n3 : a ∉ Q.fp := fun z => e (S.dj j i P _ a hj hi hm z)
      rw [restQ_in d1 n3 nt] at c2
      exact d3 c2
section
variable {X : Cx} {W : Fx} {G G1 G2 : Gm} {a e : Expr} {es : List Expr} {pos p : Pos} {n : Str} {k : Nat} {f : Addr} {fd : FuncData} {ps : List Str} {sp : Sp} {Ps : List Sd} {β τ : Type} {R : Rp β} {r : τ} {x : List β}
theorem eo_callM {i j : Nat} {l : Addr} {Q Q' : Qd} {Or : τ → Sd → Prop} {Outs : τ → List Sd} (Fn : FnOk X.prog X.w X.K X.mg X.base CX0 k f fd ps sp) (hr : Room k X.A) (hm : X.mg n = some (.ref f)) (hk : PySem.W.keepIn X.K (.ref f) = true) (hb : Binds X.K fd ps []) (ha : EvA X W (e :: es) G Ps G1)
    (hi : G1[i]? = some (some (own l Q))) (hj : Ps[j]? = some (bare l))
    (hsp : ∀ vs H (Qk : VK) W' F', W'.tb = W.tb → Sat W' ((Ps.set j (own l Q)).map some) (vs.map some) F' H → (∀ v H', Rt W' Or Outs r v H' → Qk v H') → sp vs H Qk E0) (hO : ∀ P, Or r P → ∃ l2, P = own l2 (QL l2 R x)) (hOut : Outs r = [own l Q']) (hg : Gl X n := by rfl)
    (hdb : (n == ("__debug__" : Str)) = false := by decide) (he : starEach (e :: es) X.env = (false, eval e X.env) :: starEach es X.env := by rfl) (hpl : (backTo pos (starEach es X.env)).any (·.1) = false := by rfl) :
    EvO X W (.Call (.Name n p) (e :: es) [] pos) G (fun l2 => QL l2 R x) (G1.set i (some (own l Q'))) := .mk fun σ F H Qk S q =>
  toE (pe_call Fn hr hg hm hk hb .nil pass0 wA_pa hdb he hpl) (ha.out σ F H _ S fun vs F1 H1 e1 S1 r1 => by
    rw [List.append_nil]
    refine hsp vs H1 Qk (W.restQ F1 H1 Q.fp) F1 rfl (S1.args1 r1 hi hj) fun v H' hv => ?_
    obtain ⟨P, F', vs', hP, S'⟩ := hv
    obtain ⟨l2, rfl⟩ := hO P hP
    rw [hOut] at S'
    obtain ⟨b1, rfl, b2⟩ := backO1 S1 hi S'
    exact q l2 F' H' (e1.trans S'.f0) b1 b2)
end
theorem eo_set {X : Cx} {W : Fx} {e : Expr} {O : Addr → Qd} {G G1 G' : Gm} {i : Nat} {P : Option Sd} (h : EvO X W e G O (G1.set i P)) (k : SetAt P i G1 G') : EvO X W e G O G' := k.eq ▸ h
section
variable {X : Cx} {W : Fx} {G G0 G1 G2 : Gm} {D : Ends} {e a b : Expr} {rest : List Stmt} {α β : Type} {R : Rp α} {T : Rp β} {x : α} {pos p p' : Pos} {n : Str} {i : Nat} {l : Addr}
/-- x[f(..)] = e, where the place may change states -/
theorem s_setLS {as bs : List α} {k : Int} {Q1 : Qd} {spos p0 : Pos} (hO : setO as k x = some bs) (hN : X.N[i]? = some n) (hv : Vis X.env.scope n) (he : Ev X W e G R x G1) (hG1 : G1[i]? = some (some (own l Q1))) (hb : Ev X W b G1 RI k G2) (hG2 : G2[i]? = some (some (own l (QL l R as))))
    (q : Tr W (G2.set i (some (own l (QL l R bs)))) (wS X rest D)) (hd : (n == ("__debug__" : Str)) = false := by decide) (hcd : (n == ("__classdict__" : Str)) = false := by decide)
    (ha : ∀ v, assign (.Subscript (.Name n p0) b pos) X.env v = (do
      let ov ← holding [v] (eval (.Name n p0) X.env)
      let iv ← holding [v, ov] (eval b X.env)
      standAt pos
      holding [v, ov, iv] (setItem ov iv v)
      release [v, ov, iv] []) := by intro _; rfl) (hs : swapsWithSole [.Subscript (.Name n p0) b pos] e spos.line X.env = pure false := by rfl) (hw : swappedStores [.Subscript (.Name n p0) b pos] e X.env = pure none := by rfl)
    (h1 : (assignEach [.Subscript (.Name n p0) b pos] X.env).map (·.2) = [assign (.Subscript (.Name n p0) b pos) X.env] := by rfl) :
    Tr W G (wS X (.Assign [.Subscript (.Name n p0) b pos] e spos :: rest) D) := .mk fun σ F H S => by
  unfold setO at hO
  split at hO
  · rename_i j hj
    cases hO
    refine toS (pss_cons (ps_asg wE_pe (pg_sub (pe_var hN hv hd hcd) wE_pe set_list ha) hs hw h1) wS_ps) (he.out σ F H _ S fun w F1 H1 e1 S1 r1 => ?_)
    obtain ⟨v', k1, k2, _⟩ := S1.sl i _ hG1
    subst k2
    refine ⟨.ref l, k1, hb.out σ F1 H1 _ S1 fun u F2 H2 e2 S2 r2 => ?_⟩
    obtain ⟨v2, _, k2, vs', k3, k4⟩ := S2.sl i _ hG2
    refine ⟨l, vs', k, j, rfl, r2, k3, by rw [k4.len]; exact hj, ?_⟩
    exact q.out σ F2 _ (S2.mut hG2 (fun a ha => upd_ne fun z => ha (by rw [z]; exact List.mem_singleton.mpr rfl)) ⟨vs'.set j w, upd_same, All2.set (R.mono e2 r1) j k4⟩ fun a ha => ⟨ha, by rw [List.mem_singleton.mp ha, upd_same]; intro z; cases z⟩)
  · cases hO
theorem get_listR : PGet X (rIxL X.K) := by
  intro pins sh σ H o iV ov iv Q I ro ri hh
  obtain ⟨pl, vs, c, z, rfl, rfl, hS, hAt, hQ⟩ := hh
  cases ro
  obtain ⟨tk, rfl⟩ := ri
  obtain ⟨us, rv, pL, hsz⟩ := I.list hS
  obtain ⟨m, m1, m2, m3, m4, m5⟩ := atI_get hAt
  obtain ⟨u, gu, ru⟩ := rv.get m2
  have lenE := rv.length
  have lim := sizeLine_eq
  have done : EP X pins σ Q u sh := ⟨z, H, I, ru, hQ⟩
  by_cases pos0 : 0 ≤ c
  · have cm : c.toNat = m := by
      rw [seqIndex_of pos0 m5] at m1
      exact Option.some.inj m1
    exact wpAny_getItem_list pL.isList pos0 (by omega) (by rw [cm]; simpa using gu) done
  · have cm : (c + (us.toArray.size : Int)).toNat = m := by
      rw [seqIndex_neg (by omega) m4] at m1
      rw [List.size_toArray, ← lenE]
      exact Option.some.inj m1
    exact wpAny_getItem_list_neg pL.isList (by omega) (by rw [List.size_toArray] <;> omega) (by omega) (by rw [cm]; simpa using gu) done
/-- x[k] op= e -/
theorem s_augL {op : Operator} {as bs : List α} {k : Int} {y : β} {z : α} {tpos p0 : Pos} (hg : ix as k = some x) (hO : setO as k z = some bs) (ho : Op2 X (inplaceOp op) R x T y R z) (hN : X.N[i]? = some n) (hv : Vis X.env.scope n) (hG : G[i]? = some (some (own l (QL l R as)))) (hb : Ev X W b G RI k G)
    (he : Ev X W e G T y G) (q : Tr W (G.set i (some (own l (QL l R bs)))) (wS X rest D)) (hd : (n == ("__debug__" : Str)) = false := by decide) (hcd : (n == ("__classdict__" : Str)) = false := by decide)
    (ha : ∀ ov iv new, augStore b ov iv new = (do holding [new, ov, iv] (setItem ov iv new); release [new, ov, iv] []; pure .next) := by intros; rfl) :
    Tr W G (wS X (.AugAssign (.Subscript (.Name n p0) b tpos) op e pos :: rest) D) := .mk fun σ F H S => by
  obtain ⟨rr, h1, h2⟩ := ho
  unfold setO at hO
  split at hO
  · rename_i j hj
    cases hO
    refine toS (pss_cons (ps_augS (pe_var hN hv hd hcd) wE_pe get_listR wE_pe h1 set_list ha) wS_ps) ?_
    obtain ⟨v, k1, rfl, _⟩ := S.sl i _ hG
    refine ⟨.ref l, k1, hb.out σ F H _ S fun u F1 H1 e1 S1 r1 => ?_⟩
    obtain ⟨v1, _, _, vs, k3, k4⟩ := S1.sl i _ hG
    have hx : as[j]? = some x := by
      unfold ix atI at hg
      rw [hj] at hg
      exact hg
    obtain ⟨w, g1, g2⟩ := k4.get hx
    refine ⟨l, vs, k, w, rfl, r1, .inl (.inl k3), ?_, he.out σ F1 H1 _ S1 fun u2 F2 H2 e2 S2 r2 => h2 F2 H2 w u2 _ S2.ex (R.mono e2 g2) r2 fun w2 rw2 => ?_⟩
    · show atI vs k = some w
      unfold atI
      rw [k4.len, hj]
      exact g1
    · obtain ⟨v2, _, _, vs', k5, k6⟩ := S2.sl i _ hG
      refine ⟨l, vs', k, j, rfl, r1, k5, by rw [k6.len]; exact hj, ?_⟩
      exact q.out σ F2 _ (S2.mut hG (fun a ha => upd_ne fun z => ha (by rw [z]; exact List.mem_singleton.mpr rfl)) ⟨vs'.set j w2, upd_same, All2.set rw2 j k6⟩ fun a ha => ⟨ha, by rw [List.mem_singleton.mp ha, upd_same]; intro z; cases z⟩)
  · cases hO
end
section
variable {X : Cx} {W : Fx} {G G1 G2 : Gm} {α : Type} {R : Rp α} {tg e : Expr} {pos p : Pos}
theorem src_revV {as : List α} (hm : X.mg "reversed" = none) (h : Ev X W e G (RV X.K R) as G1) (hg : Gl X "reversed" := by rfl) (hs : starEach [e] X.env = [(false, eval e X.env)] := by rfl) : Src X W tg (.Call (.Name "reversed" p) [e] [] pos) G R as.reverse G1 := ⟨_, RT.pi_revA hg hm wE_pe hs, fun σ F H P S q => h.out σ F H _ S fun v F1 H1 e1 S1 r1 => by
  obtain ⟨p, vs, rfl, h1, h2⟩ := r1
  have at' : ∀ {F H : Hp}, Ex F1 F → Ex F H → SqT X.K H p vs := fun a b => ex_sqt (a.trans b) h1
  have ix : ∀ {i : Nat} {x : α}, as.reverse[i]? = some x → i < as.length ∧ as[as.length - 1 - i]? = some x := fun {i x} h => by
    have hl := (List.getElem?_eq_some_iff.mp h).1
    rw [List.length_reverse] at hl
    rw [List.getElem?_reverse hl] at h
    exact ⟨hl, h⟩
  refine ⟨p, vs, rfl, .inr ⟨ex_sqt S1.ex h1, q _ F1 H1 e1 S1 ⟨fun i F H a b hi => ?_, fun F H a b hb => by rw [List.length_reverse, ← h2.len]; exact hb p vs (.inr (at' a b)), fun i x F H a b hx => ?_, fun i x F H v H' a b hx hy => ?_⟩⟩⟩
  · rw [List.length_reverse, ← h2.len] at hi; exact hi
  · obtain ⟨k1, k2⟩ := ix hx
    obtain ⟨w, h3, _⟩ := h2.get k2
    exact ⟨by rw [h2.len]; exact k1, vs, w, at' a b, by rw [h2.len]; exact h3⟩
  · obtain ⟨k1, k2⟩ := ix hx
    obtain ⟨w, h3, h4⟩ := h2.get k2
    obtain ⟨e3, h5⟩ := hy
    subst e3
    have e4 := h5 vs (at' a b)
    rw [h2.len, h3] at e4; cases e4
    exact ⟨F, Ex.refl F, b, Ex.refl _, fun _ _ => .inl rfl, R.mono a h4⟩⟩
end
section
variable {X : Cx} {W : Fx} {G G1 G2 : Gm} {α : Type} {R : Rp α} {a e : Expr} {pos p : Pos}
theorem All2.rep {F : Hp} {vs : List V} {as : List α} (h : All2 R F vs as) : ∀ m : Nat, All2 R F (List.replicate m vs).flatten (List.replicate m as).flatten
  | 0 => .nil
  | m + 1 => by
    rw [List.replicate_succ, List.replicate_succ, List.flatten_cons, List.flatten_cons]
    exact h.app (All2.rep h m)
/-- [..] * a written number -/
def repL (xs : List α) (k : Int) : List α := (List.replicate k.toNat xs).flatten
def repOk (xs : List α) (k : Int) : Bool := decide (0 ≤ k ∧ k ≤ 1000000 ∧ xs.length * k.toNat ≤ 16000000)
theorem eo_mulC {xs : List α} {k : Int} {j : Nat} {p2 : Pos} (ho : repOk xs k = true) (ha : EvO X W a G (fun l => QL l R xs) G1) : EvO X W (.BinOp a .Mult (.Constant (.int k) j p2) pos) G (fun l => QL l R (repL xs k)) G1 := .mk fun σ F H Q S q =>
  toE (pe_op op_rep wE_pe pe_int) (ha.out σ F H _ S fun l F' H' e' S' n => by
    obtain ⟨⟨vs, n1, n2⟩, n3⟩ := n
    obtain ⟨k1, k2, k3⟩ := of_decide_eq_true ho
    refine ⟨l, k, vs, rfl, rfl, n1, by omega, by omega, by rw [n2.len, sizeLine_eq]; omega, fun p hp => ?_⟩
    obtain ⟨s1, s2⟩ := NewO.list S' hp (n2.rep k.toNat)
    exact q p F' _ e' s1 s2)
end
section
variable {X : Cx} {W : Fx} {G G1 G2 : Gm} {α : Type} {R : Rp α} {a e : Expr} {pos p : Pos}
theorem EvO.fixS {τ : Type} {T : Rs τ} {t : τ} (h : EvO X W a G (fun l => QS l T t) G1) : Ev X W a G (RLs X.K T) t G1 := .mk fun σ F H Q S q =>
  h.out σ F H Q S fun l F' H' e1 S1 ⟨⟨vs, n1, n2⟩, n3⟩ => by
    have nl := n3 l (List.mem_singleton.mpr rfl)
    have e2 : Ex F' (upd F' l (.lst vs)) := Ex.new nl.1
    refine q (.ref l) (upd F' l (.lst vs)) H' (e1.trans e2) ?_ ⟨l, vs, rfl, .inl upd_same, T.mono e2 n2⟩
    refine S1.stepG e2 (fun b o hb => ?_) (Ex.refl _) (fun b hb => ?_) (fun i P b h1 h2 => ?_) fun pt hpt => ?_
    · by_cases z : b = l
      · subst z; rw [upd_same] at hb; cases hb; exact n1
      · rw [upd_ne z] at hb; exact S1.ex b o hb
    · rw [upd_ne fun z => hb (by rw [z]; exact nl.2.1)]; exact S1.wf b hb
    · rw [upd_ne fun z => nl.2.2.2 i P h1 (by rw [← z]; exact h2)]; exact (S1.fr i P b h1 h2).1
    · obtain ⟨ps, hz⟩ := S1.tt.H0 pt hpt
      rw [upd_ne fun z => by rw [z, n1] at hz; cases hz]; exact S1.tt.F0 pt hpt

/-! ### names, constants -/
end
section
variable {K : PySem.W.Frag} {α : Type} {n : Nat} {ok : α → Prop}
def em_Ls {S : Rs α} (Es : Emr K S n ok) : Emb K (RLs K S) (n + 1) ok := ⟨fun a => .lst (Es.e a), fun F v a h => by
  obtain ⟨p, vs, h1, h2, h3⟩ := h
  exact ⟨p, vs, h1, h2, Es.r F vs a h3⟩, fun a h m hm => by
  cases m with
  | zero => exact absurd hm (Nat.not_succ_le_zero n)
  | succ m => exact fun d hd => Es.k a h m (Nat.le_of_succ_le_succ hm) d hd⟩
end
end Mz

namespace Mz
open PySem PySem.Spec PyProof.Rows L2
/-! ### zip over lists and tuples, two and three; enumerate over a tuple -/
/-- a list (true) or a tuple (false) -/
def SqK (k : Bool) (K : PySem.W.Frag) (H : Hp) (a : Addr) (xs : List V) : Prop := match k with | true => SqL K H a xs | false => SqT K H a xs
def ItK (k : Bool) (h : Heap) (it a : Addr) (i : Nat) : Prop := match k with | true => h.IsListIter it a i | false => h.IsTupleIter it a i
def ObK (k : Bool) (h : Heap) (a : Addr) (items : Array Value) : Prop := match k with | true => h.IsList a items | false => h.IsTuple a items
theorem ItK.obj {k : Bool} {h : Heap} {it a : Addr} {i : Nat} (q : ItK k h it a i) : ∃ o, h.get? it = some o ∧ ∀ v, o.data ≠ .cell v := by
  cases k with
  | true => obtain ⟨o, e, _, d⟩ := q; exact ⟨o, e, fun v z => by rw [d] at z; cases z⟩
  | false => obtain ⟨o, e, _, d⟩ := q; exact ⟨o, e, fun v z => by rw [d] at z; cases z⟩
theorem ItK.atK {k : Bool} {h h' : Heap} {it a : Addr} {i : Nat} (q : ItK k h it a i) (z : ∀ o, h.get? it = some o → h'.get? it = some o) : ItK k h' it a i := by
  cases k with
  | true => exact Heap.IsListIter.at q z
  | false => exact Heap.IsTupleIter.at q z
theorem sqK_obj {X : Cx} {pins : List (Addr × Obj)} {σ : L2.St} {H : Hp} {s : Shared} {k : Bool} {a : Addr} {xs : List V} (I : Inv X pins σ H s) (h : SqK k X.K H a xs) : ∃ us : List Value, Vals xs us ∧ ObK k s.heap a us.toArray := by
  cases k with
  | true => obtain ⟨us, rv, p, _⟩ := I.list h; exact ⟨us, rv, p.isList⟩
  | false => obtain ⟨us, rv, p, _⟩ := I.tuple h; exact ⟨us, rv, p⟩
theorem sqK_inj {X : Cx} {pins : List (Addr × Obj)} {σ : L2.St} {H : Hp} {s : Shared} {k : Bool} {a : Addr} {xs ys : List V} (I : Inv X pins σ H s) (h : SqK k X.K H a xs) (h2 : SqK k X.K H a ys) : xs = ys := by
  cases k with
  | true => exact I.list_inj h h2
  | false => exact I.tuple_inj h h2
theorem in1_none {A : Around} (h : A.handled = none) : A.in1.handled = none := h
section
variable {prog : Program} {w : World} {A : Around}
theorem drawsK (k : Bool) (hh : A.handled = none) (it a : Addr) (hne : a ≠ it) (items : Array Value) : Draws prog w A it [it, a] items.size (fun i v => items[i]? = some v) (fun i h => ItK k h it a i ∧ ObK k h a items) := by
  cases k with
  | true => exact Draws.list hh it a hne items
  | false => exact Draws.tuple hh it a hne items
theorem drawsEnd (k : Bool) (hh : A.handled = none) (it a : Addr) (hne : a ≠ it) (items : Array Value) (i : Nat) : ∃ (n : Nat) (P : Nat → Value → Prop) (St : Nat → Heap → Prop), Draws prog w A it [it, a] n P St ∧ (∀ h, ItK k h it a i → ObK k h a items → St i h) ∧ i ≤ n ∧ (items.size ≤ i → i = n) := by
  by_cases c : items.size ≤ i
  · refine ⟨i, fun _ _ => True, fun j h => j = i ∧ ItK k h it a i ∧ ObK k h a items, ⟨fun j h st => ?_, fun j h h' st hk => ?_, fun j s Q E hj st => absurd st.1 (Nat.ne_of_lt hj), fun s Q E st hE => ?_⟩, fun h h1 h2 => ⟨rfl, h1, h2⟩, Nat.le_refl _, fun _ => rfl⟩
    · obtain ⟨o, e, _⟩ := st.2.1.obj
      exact ⟨o, e⟩
    · have D := drawsK (prog := prog) (w := w) k hh it a hne items
      exact ⟨st.1, D.frame i h h' st.2 hk⟩
    · obtain ⟨_, h1, h2⟩ := st
      cases k with
      | true => exact wpAny_nextOf_list_end hh h1 h2 (by simp; omega) hE
      | false => exact wpAny_nextOf_tuple_end hh h1 h2 (by simp; omega) hE
  · exact ⟨items.size, _, _, drawsK k hh it a hne items, fun h h1 h2 => ⟨h1, h2⟩, by omega, fun z => absurd z c⟩
end
/-- 2 sources as they stand at each turn, the items in new tuples -/
def ItZ2 (K : PySem.W.Frag) (k1 k2 : Bool) (a1 a2 : Addr) : It :=
  ⟨fun i H => ∃ (xs1 xs2 : List V) (x1 x2 : V), SqK k1 K H a1 xs1 ∧ SqK k2 K H a2 xs2 ∧ xs1[i]? = some x1 ∧ xs2[i]? = some x2,
    fun i H v H' => ∃ T x1 x2, v = .ref T ∧ H T = none ∧ H' = upd H T (.tup [x1, x2]) ∧ (∀ xs, SqK k1 K H a1 xs → xs[i]? = some x1) ∧ (∀ xs, SqK k2 K H a2 xs → xs[i]? = some x2),
    fun i H => ∃ xs1 xs2 : List V, SqK k1 K H a1 xs1 ∧ SqK k2 K H a2 xs2 ∧ (xs1.length ≤ i ∨ xs2.length ≤ i)⟩
theorem turn_Z2 {P : Program} {w : World} {K : PySem.W.Frag} {elts : List Expr} {kk : Nat} {tpos : Pos} {k1 k2 : Bool} {a1 a2 z TI TO i1 i2 : Addr} (S : ZipSep2 z TI TO i1 i2 [i1, a1] [i2, a2]) (hN : a1 ≠ i1 ∧ a2 ≠ i2) :
    Turn P w K (.Tuple elts kk tpos) (ItZ2 K k1 k2 a1 a2) [z, TI, TO, i1, i2] z (fun i h => IsZip h z TI TO .none ∧ IsTupOf2 h TI (.ref i1) (.ref i2) ∧ (∃ y1 y2, IsTupOf2 h TO y1 y2) ∧ ItK k1 h i1 a1 i ∧ ItK k2 h i2 a2 i) where
  mem := by simp
  obj := fun i h st c hc => by
    obtain ⟨hz, hTI, ⟨y1, y2, hTO⟩, h1, h2⟩ := st
    have e' : c = z ∨ c = TI ∨ c = TO ∨ c = i1 ∨ c = i2 := by simpa using hc
    rcases e' with q | q | q | q | q
    · rw [q]; exact ⟨_, hz, fun v q => nomatch q⟩
    · rw [q]; exact ⟨_, hTI, fun v q => nomatch q⟩
    · rw [q]; exact ⟨_, hTO, fun v q => nomatch q⟩
    · rw [q]; exact h1.obj
    · rw [q]; exact h2.obj
  keep := fun i h h' st k => by
    obtain ⟨hz, hTI, ⟨y1, y2, hTO⟩, h1, h2⟩ := st
    exact ⟨k z (by simp) _ hz, k TI (by simp) _ hTI, ⟨y1, y2, k TO (by simp) _ hTO⟩, h1.atK fun o q => k i1 (by simp) o q, h2.atK fun o q => k i2 (by simp) o q⟩
  item := by
    intro X hP hw hK hc i pins s σ H E I hf st hg
    subst hP hw hK
    obtain ⟨hz, hTI, ⟨y1, y2, hTO⟩, h1, h2⟩ := st
    obtain ⟨xs1, xs2, x1, x2, hq1, hq2, hx1, hx2⟩ := hg
    obtain ⟨us1, rv1, p1⟩ := sqK_obj I hq1
    obtain ⟨u1, hu1, ru1⟩ := rv1.get hx1
    have lt1 : i < us1.toArray.size := by rw [List.size_toArray]; exact (List.getElem?_eq_some_iff.mp hu1).1
    obtain ⟨us2, rv2, p2⟩ := sqK_obj I hq2
    obtain ⟨u2, hu2, ru2⟩ := rv2.get hx2
    have lt2 : i < us2.toArray.size := by rw [List.size_toArray]; exact (List.getElem?_eq_some_iff.mp hu2).1
    have hzl : z < s.heap.objs.size := Heap.lt_size hz
    have hh := in1_none (I.ok.hd hc)
    refine wpAny_pyNext_zipD2_item S (drawsK k1 hh i1 a1 hN.1 us1.toArray) (drawsK k2 hh i2 a2 hN.2 us2.toArray) hz hTI hTO ⟨h1, p1⟩ ⟨h2, p2⟩ lt1 lt2 fun v1 v2 h' tk e1 e2 z' TO' s1 s2 hT hsz hk => ?_
    have g1 : v1 = u1 := by
      have e := e1
      rw [List.getElem?_toArray, hu1] at e
      exact (Option.some.inj e).symm
    subst g1
    have g2 : v2 = u2 := by
      have e := e2
      rw [List.getElem?_toArray, hu2] at e
      exact (Option.some.inj e).symm
    subst g2
    refine ⟨_, rfl, wpAny_letOwnedTupleGo_zip (s := { s with heap := h', toks := tk }) z' fun h'' z'' sb => ?_⟩
    have hT2 : h''.get? s.heap.objs.size = some { cls := .type "tuple", data := .seq #[v1, v2] } := (sb.2 _ (Nat.ne_of_gt hzl)).trans hT
    have new : ObjOk X.prog X.w (upd H s.heap.objs.size (.tup [x1, x2])) h'' s.heap.objs.size (.tup [x1, x2]) :=
      ⟨by show 2 ≤ sizeLine; decide, [v1, v2], .cons ru1 (.cons ru2 (.nil)), ⟨_, hT2, rfl, _, rfl⟩⟩
    have I1 : Inv X pins σ (upd H s.heap.objs.size (.tup [x1, x2])) { s with heap := h'', toks := tk } :=
      I.turnedNew (t' := tk) (ch := [z, TI, TO, i1, i2]) (fun c o hb q => (sb.2 c (fun q' => hb (by simp [q']))).trans (hk c o (fun q' => hb (by simp [q'])) (fun q' => hb (by simp [q'])) (fun q' => hb (by simp [q'])) (fun q' => hb (by simp [q'])) q)) hf (Nat.le_refl _) new
    refine ⟨.ref s.heap.objs.size, _, I1, rfl, ⟨_, x1, x2, rfl, I.hok.fresh (Nat.le_refl _), rfl, fun l hl => by rw [sqK_inj I hl hq1]; exact hx1, fun l hl => by rw [sqK_inj I hl hq2]; exact hx2⟩, ⟨z'', ?_, ⟨v1, v2, ?_⟩, ?_, ?_⟩, fun c hcm => ?_⟩
    · exact (sb.2 _ S.TIz).trans (hk _ _ S.TIz S.TITO S.TIi1 S.TIi2 hTI)
    · exact (sb.2 _ S.TOz).trans TO'
    · exact s1.1.atK fun o q => (sb.2 _ (S.zi1).symm).trans q
    · exact s2.1.atK fun o q => (sb.2 _ (S.zi2).symm).trans q
    · have hlt : c < s.heap.objs.size := by
        have e' : c = z ∨ c = TI ∨ c = TO ∨ c = i1 ∨ c = i2 := by simpa using hcm
        rcases e' with q | q | q | q | q
        · rw [q]; exact hzl
        · rw [q]; exact Heap.lt_size hTI
        · rw [q]; exact Heap.lt_size hTO
        · rw [q]; obtain ⟨_, e, _⟩ := h1.obj; exact Heap.lt_size e
        · rw [q]; obtain ⟨_, e, _⟩ := h2.obj; exact Heap.lt_size e
      rw [upd_ne (Nat.ne_of_lt hlt)]
      exact (hf c hcm).1
  done := by
    intro X hP hw hK hc i pins s σ H E I hf st hg
    subst hP hw hK
    obtain ⟨hz, hTI, ⟨y1, y2, hTO⟩, h1, h2⟩ := st
    obtain ⟨xs1, xs2, hq1, hq2, hend⟩ := hg
    have hh := in1_none (I.ok.hd hc)
    obtain ⟨us1, rv1, p1⟩ := sqK_obj I hq1
    have l1 := rv1.length
    obtain ⟨n1, P1, St1, D1, st1, m1, f1⟩ := drawsEnd (prog := X.prog) (w := X.w) k1 hh i1 a1 hN.1 us1.toArray i
    obtain ⟨us2, rv2, p2⟩ := sqK_obj I hq2
    have l2 := rv2.length
    obtain ⟨n2, P2, St2, D2, st2, m2, f2⟩ := drawsEnd (prog := X.prog) (w := X.w) k2 hh i2 a2 hN.2 us2.toArray i
    refine wpAny_pyNext_zipD2_end S D1 D2 hz hTI hTO (st1 _ h1 p1) (st2 _ h2 p2) m1 m2 (by simp only [List.size_toArray] at *; omega) fun h' tk hk => ?_
    exact ⟨rfl, I.turnedL (t' := tk) (ch := [z, TI, TO, i1, i2]) (fun c o hb q => hk c o (fun q' => hb (by simp [q'])) (fun q' => hb (by simp [q'])) (fun q' => hb (by simp [q'])) (fun q' => hb (by simp [q'])) q) hf⟩
  self := fun A i s Q E st h => wpAny_pyIter_zip st.1 h
/-- 3 sources as they stand at each turn, the items in new tuples -/
def ItZ3 (K : PySem.W.Frag) (k1 k2 k3 : Bool) (a1 a2 a3 : Addr) : It :=
  ⟨fun i H => ∃ (xs1 xs2 xs3 : List V) (x1 x2 x3 : V), SqK k1 K H a1 xs1 ∧ SqK k2 K H a2 xs2 ∧ SqK k3 K H a3 xs3 ∧ xs1[i]? = some x1 ∧ xs2[i]? = some x2 ∧ xs3[i]? = some x3,
    fun i H v H' => ∃ T x1 x2 x3, v = .ref T ∧ H T = none ∧ H' = upd H T (.tup [x1, x2, x3]) ∧ (∀ xs, SqK k1 K H a1 xs → xs[i]? = some x1) ∧ (∀ xs, SqK k2 K H a2 xs → xs[i]? = some x2) ∧ (∀ xs, SqK k3 K H a3 xs → xs[i]? = some x3),
    fun i H => ∃ xs1 xs2 xs3 : List V, SqK k1 K H a1 xs1 ∧ SqK k2 K H a2 xs2 ∧ SqK k3 K H a3 xs3 ∧ (xs1.length ≤ i ∨ xs2.length ≤ i ∨ xs3.length ≤ i)⟩
theorem turn_Z3 {P : Program} {w : World} {K : PySem.W.Frag} {elts : List Expr} {kk : Nat} {tpos : Pos} {k1 k2 k3 : Bool} {a1 a2 a3 z TI TO i1 i2 i3 : Addr} (S : ZipSep3 z TI TO i1 i2 i3 [i1, a1] [i2, a2] [i3, a3]) (hN : a1 ≠ i1 ∧ a2 ≠ i2 ∧ a3 ≠ i3) :
    Turn P w K (.Tuple elts kk tpos) (ItZ3 K k1 k2 k3 a1 a2 a3) [z, TI, TO, i1, i2, i3] z (fun i h => IsZip h z TI TO .none ∧ IsTupOf3 h TI (.ref i1) (.ref i2) (.ref i3) ∧ (∃ y1 y2 y3, IsTupOf3 h TO y1 y2 y3) ∧ ItK k1 h i1 a1 i ∧ ItK k2 h i2 a2 i ∧ ItK k3 h i3 a3 i) where
  mem := by simp
  obj := fun i h st c hc => by
    obtain ⟨hz, hTI, ⟨y1, y2, y3, hTO⟩, h1, h2, h3⟩ := st
    have e' : c = z ∨ c = TI ∨ c = TO ∨ c = i1 ∨ c = i2 ∨ c = i3 := by simpa using hc
    rcases e' with q | q | q | q | q | q
    · rw [q]; exact ⟨_, hz, fun v q => nomatch q⟩
    · rw [q]; exact ⟨_, hTI, fun v q => nomatch q⟩
    · rw [q]; exact ⟨_, hTO, fun v q => nomatch q⟩
    · rw [q]; exact h1.obj
    · rw [q]; exact h2.obj
    · rw [q]; exact h3.obj
  keep := fun i h h' st k => by
    obtain ⟨hz, hTI, ⟨y1, y2, y3, hTO⟩, h1, h2, h3⟩ := st
    exact ⟨k z (by simp) _ hz, k TI (by simp) _ hTI, ⟨y1, y2, y3, k TO (by simp) _ hTO⟩, h1.atK fun o q => k i1 (by simp) o q, h2.atK fun o q => k i2 (by simp) o q, h3.atK fun o q => k i3 (by simp) o q⟩
  item := by
    intro X hP hw hK hc i pins s σ H E I hf st hg
    subst hP hw hK
    obtain ⟨hz, hTI, ⟨y1, y2, y3, hTO⟩, h1, h2, h3⟩ := st
    obtain ⟨xs1, xs2, xs3, x1, x2, x3, hq1, hq2, hq3, hx1, hx2, hx3⟩ := hg
    obtain ⟨us1, rv1, p1⟩ := sqK_obj I hq1
    obtain ⟨u1, hu1, ru1⟩ := rv1.get hx1
    have lt1 : i < us1.toArray.size := by rw [List.size_toArray]; exact (List.getElem?_eq_some_iff.mp hu1).1
    obtain ⟨us2, rv2, p2⟩ := sqK_obj I hq2
    obtain ⟨u2, hu2, ru2⟩ := rv2.get hx2
    have lt2 : i < us2.toArray.size := by rw [List.size_toArray]; exact (List.getElem?_eq_some_iff.mp hu2).1
    obtain ⟨us3, rv3, p3⟩ := sqK_obj I hq3
    obtain ⟨u3, hu3, ru3⟩ := rv3.get hx3
    have lt3 : i < us3.toArray.size := by rw [List.size_toArray]; exact (List.getElem?_eq_some_iff.mp hu3).1
    have hzl : z < s.heap.objs.size := Heap.lt_size hz
    have hh := in1_none (I.ok.hd hc)
    refine wpAny_pyNext_zipD3_item S (drawsK k1 hh i1 a1 hN.1 us1.toArray) (drawsK k2 hh i2 a2 hN.2.1 us2.toArray) (drawsK k3 hh i3 a3 hN.2.2 us3.toArray) hz hTI hTO ⟨h1, p1⟩ ⟨h2, p2⟩ ⟨h3, p3⟩ lt1 lt2 lt3 fun v1 v2 v3 h' tk e1 e2 e3 z' TO' s1 s2 s3 hT hsz hk => ?_
    have g1 : v1 = u1 := by
      have e := e1
      rw [List.getElem?_toArray, hu1] at e
      exact (Option.some.inj e).symm
    subst g1
    have g2 : v2 = u2 := by
      have e := e2
      rw [List.getElem?_toArray, hu2] at e
      exact (Option.some.inj e).symm
    subst g2
    have g3 : v3 = u3 := by
      have e := e3
      rw [List.getElem?_toArray, hu3] at e
      exact (Option.some.inj e).symm
    subst g3
    refine ⟨_, rfl, wpAny_letOwnedTupleGo_zip (s := { s with heap := h', toks := tk }) z' fun h'' z'' sb => ?_⟩
    have hT2 : h''.get? s.heap.objs.size = some { cls := .type "tuple", data := .seq #[v1, v2, v3] } := (sb.2 _ (Nat.ne_of_gt hzl)).trans hT
    have new : ObjOk X.prog X.w (upd H s.heap.objs.size (.tup [x1, x2, x3])) h'' s.heap.objs.size (.tup [x1, x2, x3]) :=
      ⟨by show 3 ≤ sizeLine; decide, [v1, v2, v3], .cons ru1 (.cons ru2 (.cons ru3 (.nil))), ⟨_, hT2, rfl, _, rfl⟩⟩
    have I1 : Inv X pins σ (upd H s.heap.objs.size (.tup [x1, x2, x3])) { s with heap := h'', toks := tk } :=
      I.turnedNew (t' := tk) (ch := [z, TI, TO, i1, i2, i3]) (fun c o hb q => (sb.2 c (fun q' => hb (by simp [q']))).trans (hk c o (fun q' => hb (by simp [q'])) (fun q' => hb (by simp [q'])) (fun q' => hb (by simp [q'])) (fun q' => hb (by simp [q'])) (fun q' => hb (by simp [q'])) q)) hf (Nat.le_refl _) new
    refine ⟨.ref s.heap.objs.size, _, I1, rfl, ⟨_, x1, x2, x3, rfl, I.hok.fresh (Nat.le_refl _), rfl, fun l hl => by rw [sqK_inj I hl hq1]; exact hx1, fun l hl => by rw [sqK_inj I hl hq2]; exact hx2, fun l hl => by rw [sqK_inj I hl hq3]; exact hx3⟩, ⟨z'', ?_, ⟨v1, v2, v3, ?_⟩, ?_, ?_, ?_⟩, fun c hcm => ?_⟩
    · exact (sb.2 _ S.TIz).trans (hk _ _ S.TIz S.TITO S.TIi1 S.TIi2 S.TIi3 hTI)
    · exact (sb.2 _ S.TOz).trans TO'
    · exact s1.1.atK fun o q => (sb.2 _ (S.zi1).symm).trans q
    · exact s2.1.atK fun o q => (sb.2 _ (S.zi2).symm).trans q
    · exact s3.1.atK fun o q => (sb.2 _ (S.zi3).symm).trans q
    · have hlt : c < s.heap.objs.size := by
        have e' : c = z ∨ c = TI ∨ c = TO ∨ c = i1 ∨ c = i2 ∨ c = i3 := by simpa using hcm
        rcases e' with q | q | q | q | q | q
        · rw [q]; exact hzl
        · rw [q]; exact Heap.lt_size hTI
        · rw [q]; exact Heap.lt_size hTO
        · rw [q]; obtain ⟨_, e, _⟩ := h1.obj; exact Heap.lt_size e
        · rw [q]; obtain ⟨_, e, _⟩ := h2.obj; exact Heap.lt_size e
        · rw [q]; obtain ⟨_, e, _⟩ := h3.obj; exact Heap.lt_size e
      rw [upd_ne (Nat.ne_of_lt hlt)]
      exact (hf c hcm).1
  done := by
    intro X hP hw hK hc i pins s σ H E I hf st hg
    subst hP hw hK
    obtain ⟨hz, hTI, ⟨y1, y2, y3, hTO⟩, h1, h2, h3⟩ := st
    obtain ⟨xs1, xs2, xs3, hq1, hq2, hq3, hend⟩ := hg
    have hh := in1_none (I.ok.hd hc)
    obtain ⟨us1, rv1, p1⟩ := sqK_obj I hq1
    have l1 := rv1.length
    obtain ⟨n1, P1, St1, D1, st1, m1, f1⟩ := drawsEnd (prog := X.prog) (w := X.w) k1 hh i1 a1 hN.1 us1.toArray i
    obtain ⟨us2, rv2, p2⟩ := sqK_obj I hq2
    have l2 := rv2.length
    obtain ⟨n2, P2, St2, D2, st2, m2, f2⟩ := drawsEnd (prog := X.prog) (w := X.w) k2 hh i2 a2 hN.2.1 us2.toArray i
    obtain ⟨us3, rv3, p3⟩ := sqK_obj I hq3
    have l3 := rv3.length
    obtain ⟨n3, P3, St3, D3, st3, m3, f3⟩ := drawsEnd (prog := X.prog) (w := X.w) k3 hh i3 a3 hN.2.2 us3.toArray i
    refine wpAny_pyNext_zipD3_end S D1 D2 D3 hz hTI hTO (st1 _ h1 p1) (st2 _ h2 p2) (st3 _ h3 p3) m1 m2 m3 (by simp only [List.size_toArray] at *; omega) fun h' tk hk => ?_
    exact ⟨rfl, I.turnedL (t' := tk) (ch := [z, TI, TO, i1, i2, i3]) (fun c o hb q => hk c o (fun q' => hb (by simp [q'])) (fun q' => hb (by simp [q'])) (fun q' => hb (by simp [q'])) (fun q' => hb (by simp [q'])) (fun q' => hb (by simp [q'])) q) hf⟩
  self := fun A i s Q E st h => wpAny_pyIter_zip st.1 h

theorem ObK.lt {k : Bool} {h : Heap} {a : Addr} {items : Array Value} (q : ObK k h a items) : a < h.objs.size := by
  cases k with
  | true => obtain ⟨o, e, _⟩ := q; exact Heap.lt_size e
  | false => obtain ⟨o, e, _⟩ := q; exact Heap.lt_size e
def itName (k : Bool) : String := match k with | true => "list_iterator" | false => "tuple_iterator"
theorem beginsK (k : Bool) (a : Addr) (items : Array Value) : Begins (.ref a) { cls := .type (itName k), data := .fields #[.ref a, .int 0 0] } fun h => ObK k h a items := by
  cases k with
  | true => exact begins_list a items
  | false => exact begins_tuple a items
theorem itK_new (k : Bool) {h : Heap} {N a : Addr} (g : h.get? N = some { cls := .type (itName k), data := .fields #[.ref a, .int 0 0] }) : ItK k h N a 0 := by
  cases k with
  | true => exact ⟨_, g, rfl, rfl⟩
  | false => exact ⟨_, g, rfl, rfl⟩
theorem vals_cons {x : V} {xs : List V} {us : List Value} (h : Vals (x :: xs) us) : ∃ u ws, us = u :: ws ∧ RelV x u ∧ Vals xs ws := by
  cases h with
  | cons h1 h2 => exact ⟨_, _, rfl, h1, h2⟩
theorem ne_lt {a N : Nat} (h : a < N) (d : Nat) : a ≠ N + d := by omega
def RK {α : Type} (k : Bool) (K : PySem.W.Frag) (R : Rp α) : Rp (List α) := match k with | true => RL K R | false => RV K R
theorem rk_get {α : Type} {k : Bool} {K : PySem.W.Frag} {R : Rp α} {F : Hp} {v : V} {as : List α} (h : (RK k K R).r F v as) : ∃ p vs, v = .ref p ∧ (∀ F' H, Ex F F' → Ex F' H → SqK k K H p vs) ∧ All2 R F vs as := by
  cases k with
  | true =>
    obtain ⟨p, vs, rfl, h1, h2⟩ := h
    exact ⟨p, vs, rfl, fun F' H a b => ex_sql (a.trans b) h1, h2⟩
  | false =>
    obtain ⟨p, vs, rfl, h1, h2⟩ := h
    exact ⟨p, vs, rfl, fun F' H a b => ex_sqt (a.trans b) h1, h2⟩
theorem sqK_or {k : Bool} {K : PySem.W.Frag} {H : Hp} {a : Addr} {xs : List V} (h : SqK k K H a xs) : SqL K H a xs ∨ SqT K H a xs := by
  cases k with
  | true => exact .inl h
  | false => exact .inr h
def iZ2 (K : PySem.W.Frag) (k1 k2 : Bool) (ta : TA) : TI := fun σ H R => ta σ H fun vs H1 => ∃ (a1 a2 : Addr) (xs1 xs2 : List V), vs = [.ref a1, .ref a2] ∧ SqK k1 K H1 a1 xs1 ∧ SqK k2 K H1 a2 xs2 ∧ R (ItZ2 K k1 k2 a1 a2) H1
theorem pi_Z2 {X : Cx} {e1 e2 : Expr} {ta : TA} {p pos tpos : Pos} {elts : List Expr} {kk : Nat} (k1 k2 : Bool) (hg : Gl X "zip") (hm : X.mg "zip" = none) (ha : PA X [e1, e2] ta)
    (hs : starEach [e1, e2] X.env = (false, eval e1 X.env) :: starEach [e2] X.env) (hpl : (backTo pos (starEach [e2] X.env)).any (·.1) = false) :
    PI X (.Tuple elts kk tpos) (.Call (.Name "zip" p) [e1, e2] [] pos) (iZ2 X.K k1 k2 ta) := by
  refine ⟨fun pins s σ H R I hq => ?_⟩
  refine Call_ (ld_blt I hg hm PyProof.Rows.boot_zip (PyProof.Rows.callWith_type1 (thn (ha.run pos pins s σ H _ I hq) fun ws s1 ⟨vs, H1, I1, tv0, hv⟩ => ?_) hs hpl))
  obtain ⟨a1, a2, xs1, xs2, rfl, q1, q2, fin⟩ := hv
  obtain ⟨w1, ws1, rfl, r1, tv1⟩ := vals_cons tv0
  cases r1
  obtain ⟨w2, ws2, rfl, r2, tv2⟩ := vals_cons tv1
  cases r2
  cases tv2
  obtain ⟨us1, rv1, p1⟩ := sqK_obj I1 q1
  have l1 := p1.lt
  obtain ⟨us2, rv2, p2⟩ := sqK_obj I1 q2
  have l2 := p2.lt
  refine zip_begins2 (beginsK k1 a1 us1.toArray) (beginsK k2 a2 us2.toArray) p1 p2 fun h' hz hTI hTO g1 g2 hsz hk => wpAny_pyIter_zip hz ?_
  have I2 : Inv X pins σ H1 { s1 with heap := h' } := I1.kept (t' := s1.toks) hk
  refine ⟨s1.heap.objs.size + 4, [s1.heap.objs.size + 4, s1.heap.objs.size + 2, s1.heap.objs.size + 3, s1.heap.objs.size, s1.heap.objs.size + 1], _, _, H1, rfl, I2, turn_Z2 (k1 := k1) (k2 := k2) (zip_sep2 (fp1 := [a1]) (fp2 := [a2]) (fun b hb => by rw [List.mem_singleton.mp hb]; exact l1) (fun b hb => by rw [List.mem_singleton.mp hb]; exact l2)) ⟨ne_lt l1 0, ne_lt l2 1⟩, ⟨hz, hTI, ⟨_, _, hTO⟩, itK_new k1 g1, itK_new k2 g2⟩, fun c hc => ?_, fin⟩
  have hle : s1.heap.objs.size ≤ c := by
    have e' : c = s1.heap.objs.size + 4 ∨ c = s1.heap.objs.size + 2 ∨ c = s1.heap.objs.size + 3 ∨ c = s1.heap.objs.size ∨ c = s1.heap.objs.size + 1 := by simpa using hc
    rcases e' with y | y | y | y | y <;> rw [y] <;> first | exact Nat.le_refl _ | exact Nat.le_add_right _ _
  exact I1.fpOk hle (I1.hok.fresh hle)
theorem src_Z2 {X : Cx} {W : Fx} {G G1 G2 : Gm} {α1 α2 : Type} {U1 : Rp α1} {as1 : List α1} {U2 : Rp α2} {as2 : List α2} {e1 e2 : Expr} {p pos tpos : Pos} {elts : List Expr} {kk : Nat} (k1 k2 : Bool) (hm : X.mg "zip" = none) (h1 : Ev X W e1 G (RK k1 X.K U1) as1 G1) (h2 : Ev X W e2 G1 (RK k2 X.K U2) as2 G2) (hg : Gl X "zip" := by rfl)
    (hs1 : starEach [e1, e2] X.env = (false, eval e1 X.env) :: starEach [e2] X.env := by rfl) (hs2 : starEach [e2] X.env = (false, eval e2 X.env) :: starEach [] X.env := by rfl) (hpl : (backTo pos (starEach [e2] X.env)).any (·.1) = false := by rfl) :
    Src X W (.Tuple elts kk tpos) (.Call (.Name "zip" p) [e1, e2] [] pos) G (RT X.K (RC U1 (R1 U2))) (as1.zip as2) G2 :=
  ⟨_, pi_Z2 k1 k2 hg hm (pa_cons wE_pe (pa_cons wE_pe pa_nil hs2) hs1) hs1 hpl, fun σ F0 H P S q => h1.out σ F0 H _ S fun v1 F1 H1 f1 S1 r1 => h2.out σ F1 H1 _ S1 fun v2 F2 H2 f2 S2 r2 => by
  obtain ⟨p1, vs1, rfl, t1, d1⟩ := rk_get r1
  obtain ⟨p2, vs2, rfl, t2, d2⟩ := rk_get r2
  have zg : ∀ {i : Nat} {x : α1 × α2}, (as1.zip as2)[i]? = some x → as1[i]? = some x.1 ∧ as2[i]? = some x.2 := fun {i x} h => by
    rw [List.getElem?_zip_eq_some] at h
    exact h
  have up : ∀ {F : Hp}, Ex F2 F → Ex F1 F ∧ Ex F2 F := fun e => ⟨f2.trans (e), e⟩
  refine ⟨p1, p2, vs1, vs2, rfl, t1 _ _ (up (Ex.refl _)).1 S2.ex, t2 _ _ (up (Ex.refl _)).2 S2.ex, q _ F2 H2 (f1.trans (f2)) S2 ⟨fun i F H a b hi => ⟨vs1, vs2, t1 _ _ (up a).1 b, t2 _ _ (up a).2 b, by rw [d1.len, d2.len]; simp only [List.length_zip] at hi; omega⟩, fun F H a b hb => by
    have := hb p1 vs1 (sqK_or (t1 _ _ (up a).1 b))
    rw [d1.len] at this
    simp only [List.length_zip]
    omega, fun i x F H a b hx => ?_, fun i x F H v H' a b hx hy => ?_⟩⟩
  · obtain ⟨z1, z2⟩ := zg hx
    obtain ⟨w1, c1, _⟩ := d1.get z1
    obtain ⟨w2, c2, _⟩ := d2.get z2
    exact ⟨vs1, vs2, w1, w2, t1 _ _ (up a).1 b, t2 _ _ (up a).2 b, c1, c2⟩
  · obtain ⟨z1, z2⟩ := zg hx
    obtain ⟨w1, c1, o1⟩ := d1.get z1
    obtain ⟨w2, c2, o2⟩ := d2.get z2
    obtain ⟨T', y1, y2, rfl, nT, rfl, m1, m2⟩ := hy
    have n1 := m1 vs1 (t1 _ _ (up a).1 b)
    rw [c1] at n1; cases n1
    have n2 := m2 vs2 (t2 _ _ (up a).2 b)
    rw [c2] at n2; cases n2
    have nF : F T' = none := b.back nT
    have ua := up (a.trans (Ex.new nF (o := .tup [w1, w2])))
    exact ⟨upd F T' (.tup [w1, w2]), Ex.new nF, b.up, Ex.new nT, fun c hc => .inl (upd_ne fun z => hc (by rw [z]; exact nT)), T', _, rfl, .inl (.inl upd_same), w1, [w2], rfl, U1.mono ua.1 o1, w2, rfl, U2.mono ua.2 o2⟩⟩
def iZ3 (K : PySem.W.Frag) (k1 k2 k3 : Bool) (ta : TA) : TI := fun σ H R => ta σ H fun vs H1 => ∃ (a1 a2 a3 : Addr) (xs1 xs2 xs3 : List V), vs = [.ref a1, .ref a2, .ref a3] ∧ SqK k1 K H1 a1 xs1 ∧ SqK k2 K H1 a2 xs2 ∧ SqK k3 K H1 a3 xs3 ∧ R (ItZ3 K k1 k2 k3 a1 a2 a3) H1
theorem pi_Z3 {X : Cx} {e1 e2 e3 : Expr} {ta : TA} {p pos tpos : Pos} {elts : List Expr} {kk : Nat} (k1 k2 k3 : Bool) (hg : Gl X "zip") (hm : X.mg "zip" = none) (ha : PA X [e1, e2, e3] ta)
    (hs : starEach [e1, e2, e3] X.env = (false, eval e1 X.env) :: starEach [e2, e3] X.env) (hpl : (backTo pos (starEach [e2, e3] X.env)).any (·.1) = false) :
    PI X (.Tuple elts kk tpos) (.Call (.Name "zip" p) [e1, e2, e3] [] pos) (iZ3 X.K k1 k2 k3 ta) := by
  refine ⟨fun pins s σ H R I hq => ?_⟩
  refine Call_ (ld_blt I hg hm PyProof.Rows.boot_zip (PyProof.Rows.callWith_type1 (thn (ha.run pos pins s σ H _ I hq) fun ws s1 ⟨vs, H1, I1, tv0, hv⟩ => ?_) hs hpl))
  obtain ⟨a1, a2, a3, xs1, xs2, xs3, rfl, q1, q2, q3, fin⟩ := hv
  obtain ⟨w1, ws1, rfl, r1, tv1⟩ := vals_cons tv0
  cases r1
  obtain ⟨w2, ws2, rfl, r2, tv2⟩ := vals_cons tv1
  cases r2
  obtain ⟨w3, ws3, rfl, r3, tv3⟩ := vals_cons tv2
  cases r3
  cases tv3
  obtain ⟨us1, rv1, p1⟩ := sqK_obj I1 q1
  have l1 := p1.lt
  obtain ⟨us2, rv2, p2⟩ := sqK_obj I1 q2
  have l2 := p2.lt
  obtain ⟨us3, rv3, p3⟩ := sqK_obj I1 q3
  have l3 := p3.lt
  refine zip_begins3 (beginsK k1 a1 us1.toArray) (beginsK k2 a2 us2.toArray) (beginsK k3 a3 us3.toArray) p1 p2 p3 fun h' hz hTI hTO g1 g2 g3 hsz hk => wpAny_pyIter_zip hz ?_
  have I2 : Inv X pins σ H1 { s1 with heap := h' } := I1.kept (t' := s1.toks) hk
  refine ⟨s1.heap.objs.size + 5, [s1.heap.objs.size + 5, s1.heap.objs.size + 3, s1.heap.objs.size + 4, s1.heap.objs.size, s1.heap.objs.size + 1, s1.heap.objs.size + 2], _, _, H1, rfl, I2, turn_Z3 (k1 := k1) (k2 := k2) (k3 := k3) (zip_sep3 (fp1 := [a1]) (fp2 := [a2]) (fp3 := [a3]) (fun b hb => by rw [List.mem_singleton.mp hb]; exact l1) (fun b hb => by rw [List.mem_singleton.mp hb]; exact l2) (fun b hb => by rw [List.mem_singleton.mp hb]; exact l3)) ⟨ne_lt l1 0, ne_lt l2 1, ne_lt l3 2⟩, ⟨hz, hTI, ⟨_, _, _, hTO⟩, itK_new k1 g1, itK_new k2 g2, itK_new k3 g3⟩, fun c hc => ?_, fin⟩
  have hle : s1.heap.objs.size ≤ c := by
    have e' : c = s1.heap.objs.size + 5 ∨ c = s1.heap.objs.size + 3 ∨ c = s1.heap.objs.size + 4 ∨ c = s1.heap.objs.size ∨ c = s1.heap.objs.size + 1 ∨ c = s1.heap.objs.size + 2 := by simpa using hc
    rcases e' with y | y | y | y | y | y <;> rw [y] <;> first | exact Nat.le_refl _ | exact Nat.le_add_right _ _
  exact I1.fpOk hle (I1.hok.fresh hle)
theorem src_Z3 {X : Cx} {W : Fx} {G G1 G2 G3 : Gm} {α1 α2 α3 : Type} {U1 : Rp α1} {as1 : List α1} {U2 : Rp α2} {as2 : List α2} {U3 : Rp α3} {as3 : List α3} {e1 e2 e3 : Expr} {p pos tpos : Pos} {elts : List Expr} {kk : Nat} (k1 k2 k3 : Bool) (hm : X.mg "zip" = none) (h1 : Ev X W e1 G (RK k1 X.K U1) as1 G1) (h2 : Ev X W e2 G1 (RK k2 X.K U2) as2 G2) (h3 : Ev X W e3 G2 (RK k3 X.K U3) as3 G3) (hg : Gl X "zip" := by rfl)
    (hs1 : starEach [e1, e2, e3] X.env = (false, eval e1 X.env) :: starEach [e2, e3] X.env := by rfl) (hs2 : starEach [e2, e3] X.env = (false, eval e2 X.env) :: starEach [e3] X.env := by rfl) (hs3 : starEach [e3] X.env = (false, eval e3 X.env) :: starEach [] X.env := by rfl) (hpl : (backTo pos (starEach [e2, e3] X.env)).any (·.1) = false := by rfl) :
    Src X W (.Tuple elts kk tpos) (.Call (.Name "zip" p) [e1, e2, e3] [] pos) G (RT X.K (RC U1 (RC U2 (R1 U3)))) (as1.zip (as2.zip as3)) G3 :=
  ⟨_, pi_Z3 k1 k2 k3 hg hm (pa_cons wE_pe (pa_cons wE_pe (pa_cons wE_pe pa_nil hs3) hs2) hs1) hs1 hpl, fun σ F0 H P S q => h1.out σ F0 H _ S fun v1 F1 H1 f1 S1 r1 => h2.out σ F1 H1 _ S1 fun v2 F2 H2 f2 S2 r2 => h3.out σ F2 H2 _ S2 fun v3 F3 H3 f3 S3 r3 => by
  obtain ⟨p1, vs1, rfl, t1, d1⟩ := rk_get r1
  obtain ⟨p2, vs2, rfl, t2, d2⟩ := rk_get r2
  obtain ⟨p3, vs3, rfl, t3, d3⟩ := rk_get r3
  have zg : ∀ {i : Nat} {x : α1 × α2 × α3}, (as1.zip (as2.zip as3))[i]? = some x → as1[i]? = some x.1 ∧ as2[i]? = some x.2.1 ∧ as3[i]? = some x.2.2 := fun {i x} h => by
    rw [List.getElem?_zip_eq_some] at h
    have h2 := h.2; rw [List.getElem?_zip_eq_some] at h2; exact ⟨h.1, h2⟩
  have up : ∀ {F : Hp}, Ex F3 F → Ex F1 F ∧ Ex F2 F ∧ Ex F3 F := fun e => ⟨f2.trans (f3.trans (e)), f3.trans (e), e⟩
  refine ⟨p1, p2, p3, vs1, vs2, vs3, rfl, t1 _ _ (up (Ex.refl _)).1 S3.ex, t2 _ _ (up (Ex.refl _)).2.1 S3.ex, t3 _ _ (up (Ex.refl _)).2.2 S3.ex, q _ F3 H3 (f1.trans (f2.trans (f3))) S3 ⟨fun i F H a b hi => ⟨vs1, vs2, vs3, t1 _ _ (up a).1 b, t2 _ _ (up a).2.1 b, t3 _ _ (up a).2.2 b, by rw [d1.len, d2.len, d3.len]; simp only [List.length_zip] at hi; omega⟩, fun F H a b hb => by
    have := hb p1 vs1 (sqK_or (t1 _ _ (up a).1 b))
    rw [d1.len] at this
    simp only [List.length_zip]
    omega, fun i x F H a b hx => ?_, fun i x F H v H' a b hx hy => ?_⟩⟩
  · obtain ⟨z1, z2, z3⟩ := zg hx
    obtain ⟨w1, c1, _⟩ := d1.get z1
    obtain ⟨w2, c2, _⟩ := d2.get z2
    obtain ⟨w3, c3, _⟩ := d3.get z3
    exact ⟨vs1, vs2, vs3, w1, w2, w3, t1 _ _ (up a).1 b, t2 _ _ (up a).2.1 b, t3 _ _ (up a).2.2 b, c1, c2, c3⟩
  · obtain ⟨z1, z2, z3⟩ := zg hx
    obtain ⟨w1, c1, o1⟩ := d1.get z1
    obtain ⟨w2, c2, o2⟩ := d2.get z2
    obtain ⟨w3, c3, o3⟩ := d3.get z3
    obtain ⟨T', y1, y2, y3, rfl, nT, rfl, m1, m2, m3⟩ := hy
    have n1 := m1 vs1 (t1 _ _ (up a).1 b)
    rw [c1] at n1; cases n1
    have n2 := m2 vs2 (t2 _ _ (up a).2.1 b)
    rw [c2] at n2; cases n2
    have n3 := m3 vs3 (t3 _ _ (up a).2.2 b)
    rw [c3] at n3; cases n3
    have nF : F T' = none := b.back nT
    have ua := up (a.trans (Ex.new nF (o := .tup [w1, w2, w3])))
    exact ⟨upd F T' (.tup [w1, w2, w3]), Ex.new nF, b.up, Ex.new nT, fun c hc => .inl (upd_ne fun z => hc (by rw [z]; exact nT)), T', _, rfl, .inl (.inl upd_same), w1, [w2, w3], rfl, U1.mono ua.1 o1, w2, [w3], rfl, U2.mono ua.2.1 o2, w3, rfl, U3.mono ua.2.2 o3⟩⟩

end Mz

namespace Mz
open PySem PySem.Spec PyProof.Rows L2
/-! ### enumerate over a list or a tuple -/
abbrev enO (p : Heap) (o : Obj) : Heap := (p.push o).push { cls := .type "enumerate", data := .fields #[.none, .bool false, .ref p.objs.size, rawInt 0, .none, .none] }
set_option maxHeartbeats 1000000 in
theorem enum_new1 {src : Value} {ob : Obj} {Hs : Heap → Prop} (Bg : Begins src ob Hs) :
    Meets (Builtin.«enumerate.__new__» ⟨[.type "enumerate", src], []⟩) (fun _ R s => Hs s.heap ∧ R (.ok (.ret (.ref (s.heap.push ob).objs.size))) { s with heap := enO s.heap ob }) :=
  .of_wp fun prog w A R sh hyp => by
    obtain ⟨hp, gl, dp, tk, osx⟩ := sh
    obtain ⟨hb, hr⟩ := hyp
    have hsub := sub_enumerate
    have itr : ∀ {A' : Around} {E : Value → Shared → Prop} {Q : Value → Shared → Prop}, Q (.ref hp.objs.size) ⟨hp.push ob, gl, dp, tk, osx⟩ → wpAny (model prog w) A' (pyIter src) Q E ⟨hp, gl, dp, tk, osx⟩ :=
      fun q => Bg.iter prog w _ _ ⟨hp, gl, dp, tk, osx⟩ _ hb q
    wp_walk using itr
    refine wpAny_stack_any fun st => wpAny_pure ?_
    split
    · rename_i c _ _ _ _ _
      cases (c == Value.type "enumerate")
      · wp_walk using itr
        exact ⟨_, rfl, hr⟩
      · wp_walk using itr
        exact ⟨_, rfl, hr⟩
    · wp_walk using itr
      exact ⟨_, rfl, hr⟩
theorem enum_call {prog : Program} {w : World} {A : Around} {E : Value → Shared → Prop} {s : Shared} {src : Value} {ob : Obj} {Hs : Heap → Prop} {Q : Value → Shared → Prop} (Bg : Begins src ob Hs) (hs : Hs s.heap)
    (nxt : ∀ p, IsEnum p (s.heap.objs.size + 1) s.heap.objs.size 0 .none → p.get? s.heap.objs.size = some ob → (∀ b o, s.heap.get? b = some o → p.get? b = some o) → Q (.ref (s.heap.objs.size + 1)) { s with heap := p }) :
    wpAny (model prog w) A (call (.type "enumerate") [src]) Q E s := by
  refine callType_new F.called_enumerate (by decide) (F.typeCall_enumerate_1 _) (F.newCall_enumerate_1 _) (fun obj => F.args_object_init_2 obj _) F.entry_enumerate_new (enum_new1 Bg) ⟨hs, ?_⟩
  have sz : (s.heap.push ob).objs.size = s.heap.objs.size + 1 := Heap.size_push ..
  show _ ∧ _
  rw [sz]
  have ie : IsEnum (enO s.heap ob) (s.heap.objs.size + 1) s.heap.objs.size 0 .none := by
    have g := Heap.get?_push_size (s.heap.push ob) (o := { cls := .type "enumerate", data := .fields #[.none, .bool false, .ref s.heap.objs.size, rawInt 0, .none, .none] }) rfl
    rw [sz] at g
    exact g
  exact ⟨⟨_, ie, rfl⟩, nxt _ ie (Heap.get?_push_of_some _ (Heap.get?_push_size _ Bg.free)) fun b o x => Heap.get?_push_of_some _ (Heap.get?_push_of_some _ x)⟩
def ItE (K : PySem.W.Frag) (k : Bool) (a : Addr) : It :=
  ⟨fun i H => ∃ (xs : List V) (x : V), SqK k K H a xs ∧ xs[i]? = some x, fun i H v H' => ∃ T x, v = .ref T ∧ H T = none ∧ H' = upd H T (.tup [.int (i : Nat), x]) ∧ ∀ xs, SqK k K H a xs → xs[i]? = some x, fun i H => ∃ xs : List V, SqK k K H a xs ∧ xs.length ≤ i⟩
theorem turn_E {P : Program} {w : World} {K : PySem.W.Frag} {elts : List Expr} {kk : Nat} {tpos : Pos} {k : Bool} {a e it : Addr} (hN : a ≠ it) (hE : e ≠ it) (hA : e ≠ a) :
    Turn P w K (.Tuple elts kk tpos) (ItE K k a) [e, it] e (fun i h => (∃ old, IsEnum h e it ((i : Nat) : Int) old) ∧ ItK k h it a i) where
  mem := by simp
  obj := fun i h st b hb => by
    obtain ⟨⟨old, he⟩, hi⟩ := st
    have e' : b = e ∨ b = it := by simpa using hb
    rcases e' with z | z
    · rw [z]; exact ⟨_, he, fun v q => nomatch q⟩
    · rw [z]; exact hi.obj
  keep := fun i h h' st kp => by
    obtain ⟨⟨old, he⟩, hi⟩ := st
    exact ⟨⟨old, kp e (by simp) _ he⟩, hi.atK fun o q => kp it (by simp) o q⟩
  item := by
    intro X hP hw hK hc i pins s σ H E I hf st hg
    subst hP hw hK
    obtain ⟨⟨old, he⟩, hit⟩ := st
    obtain ⟨xs, x, hq, hx⟩ := hg
    obtain ⟨us, rv, p⟩ := sqK_obj I hq
    obtain ⟨u, hu, ru⟩ := rv.get hx
    have lt1 : i < us.toArray.size := by rw [List.size_toArray]; exact (List.getElem?_eq_some_iff.mp hu).1
    have hel : e < s.heap.objs.size := Heap.lt_size he
    have hil : it < s.heap.objs.size := by obtain ⟨_, q, _⟩ := hit.obj; exact Heap.lt_size q
    have hh := in1_none (I.ok.hd hc)
    refine wpAny_pyNext_enum_itemC (drawsK k hh it a hN us.toArray) he ⟨hit, p⟩ lt1 hE (by simp [hE, hA]) fun v h' tk ev ho s1 hT hsz hk => ?_
    have g1 : v = u := by
      rw [List.getElem?_toArray, hu] at ev
      exact (Option.some.inj ev).symm
    subst g1
    refine ⟨_, rfl, wpAny_letOwnedTupleGo_enum (s := { s with heap := h', toks := tk + 1 }) ho fun h'' he' sb => ?_⟩
    have hT2 : h''.get? s.heap.objs.size = some { cls := .type "tuple", data := .seq #[.int i tk, v] } := (sb.2 _ (Nat.ne_of_gt hel)).trans hT
    have new : ObjOk X.prog X.w (upd H s.heap.objs.size (.tup [.int (i : Nat), x])) h'' s.heap.objs.size (.tup [.int (i : Nat), x]) :=
      ⟨by show 2 ≤ sizeLine; decide, [.int i tk, v], .cons ⟨_, rfl⟩ (.cons ru .nil), ⟨_, hT2, rfl, _, rfl⟩⟩
    have I1 : Inv X pins σ (upd H s.heap.objs.size (.tup [.int (i : Nat), x])) { s with heap := h'', toks := tk + 1 } :=
      I.turnedNew (t' := tk + 1) (ch := [e, it]) (fun b ob hb q => (sb.2 b (fun z => hb (by simp [z]))).trans (hk b ob (fun z => hb (by simp [z])) (fun z => hb (by simp [z])) q)) hf (Nat.le_refl _) new
    refine ⟨.ref s.heap.objs.size, _, I1, rfl, ⟨_, x, rfl, I.hok.fresh (Nat.le_refl _), rfl, fun ys hy => by rw [sqK_inj I hy hq]; exact hx⟩, ⟨⟨v, ?_⟩, s1.1.atK fun o q => (sb.2 it (Ne.symm hE)).trans q⟩, fun b hb => ?_⟩
    · have e1 : ((i + 1 : Nat) : Int) = (i : Int) + 1 := by omega
      rw [e1]; exact he'
    · have hb' : b < s.heap.objs.size := by
        have e' : b = e ∨ b = it := by simpa using hb
        rcases e' with z | z
        · rw [z]; exact hel
        · rw [z]; exact hil
      rw [upd_ne (Nat.ne_of_lt hb')]
      exact (hf b hb).1
  done := by
    intro X hP hw hK hc i pins s σ H E I hf st hg
    subst hP hw hK
    obtain ⟨⟨old, he⟩, hit⟩ := st
    obtain ⟨xs, hq, hx⟩ := hg
    obtain ⟨us, rv, p⟩ := sqK_obj I hq
    have hl := rv.length
    have hh := in1_none (I.ok.hd hc)
    obtain ⟨n, P1, St1, D1, st1, m1, f1⟩ := drawsEnd (prog := X.prog) (w := X.w) k hh it a hN us.toArray i
    have en : i = n := f1 (by rw [List.size_toArray]; omega)
    subst en
    exact wpAny_pyNext_enum_endD D1 he (st1 _ hit p) fun h' eb => ⟨rfl, I.turnedL (t' := s.toks) (ch := [e, it]) (fun b o hb q => eb b o (fun z => hb (by simp [z])) q) hf⟩
  self := fun A i s Q E st h => let ⟨⟨_, he⟩, _⟩ := st; wpAny_pyIter_enum he h
def iEnumK (K : PySem.W.Frag) (k : Bool) (ta : TA) : TI := fun σ H R => ta σ H fun vs H1 => ∃ (a : Addr) (xs : List V), vs = [.ref a] ∧ SqK k K H1 a xs ∧ R (ItE K k a) H1
theorem pi_enumK {X : Cx} {e : Expr} {ta : TA} {p pos tpos : Pos} {elts : List Expr} {kk : Nat} (k : Bool) (hg : Gl X "enumerate") (hm : X.mg "enumerate" = none) (ha : PA X [e] ta) (hs : starEach [e] X.env = (false, eval e X.env) :: starEach [] X.env) :
    PI X (.Tuple elts kk tpos) (.Call (.Name "enumerate" p) [e] [] pos) (iEnumK X.K k ta) := by
  refine ⟨fun pins s σ H R I hq => ?_⟩
  refine Call_ (ld_blt I hg hm boot_enumerate (PyProof.Rows.callWith_type1 (thn (ha.run pos pins s σ H _ I hq) fun ws s1 ⟨vs, H1, I1, tv0, hv⟩ => ?_) hs rfl))
  obtain ⟨a, xs, rfl, q1, fin⟩ := hv
  obtain ⟨w1, ws1, rfl, r1, tv1⟩ := vals_cons tv0
  cases r1
  cases tv1
  obtain ⟨us1, rv1, p1⟩ := sqK_obj I1 q1
  have l1 := p1.lt
  refine enum_call (beginsK k a us1.toArray) p1 fun h' he g1 hk => wpAny_pyIter_enum he ?_
  have I2 : Inv X pins σ H1 { s1 with heap := h' } := I1.kept (t' := s1.toks) hk
  refine ⟨s1.heap.objs.size + 1, [s1.heap.objs.size + 1, s1.heap.objs.size], _, _, H1, rfl, I2, turn_E (k := k) (ne_lt l1 0) (Nat.succ_ne_self _) (Ne.symm (ne_lt l1 1)), ⟨⟨.none, he⟩, itK_new k g1⟩, fun c hc => ?_, fin⟩
  have hle : s1.heap.objs.size ≤ c := by
    have e' : c = s1.heap.objs.size + 1 ∨ c = s1.heap.objs.size := by simpa using hc
    rcases e' with y | y <;> rw [y] <;> first | exact Nat.le_refl _ | exact Nat.le_add_right _ _
  exact I1.fpOk hle (I1.hok.fresh hle)
theorem src_enumK {X : Cx} {W : Fx} {G G1 : Gm} {α : Type} {R : Rp α} {as : List α} {e : Expr} {p pos tpos : Pos} {elts : List Expr} {kk : Nat} (k : Bool) (hm : X.mg "enumerate" = none) (h : Ev X W e G (RK k X.K R) as G1) (hg : Gl X "enumerate" := by rfl) (hs : starEach [e] X.env = (false, eval e X.env) :: starEach [] X.env := by rfl) :
    Src X W (.Tuple elts kk tpos) (.Call (.Name "enumerate" p) [e] [] pos) G (RP2 X.K RI R) (enm as) G1 :=
  ⟨_, pi_enumK k hg hm (pa_cons wE_pe pa_nil hs) hs, fun σ F0 H P S q => h.out σ F0 H _ S fun v1 F1 H1 f1 S1 r1 => by
  obtain ⟨p1, vs, rfl, t1, d1⟩ := rk_get r1
  have zg : ∀ {i : Nat} {x : Int × α}, (enm as)[i]? = some x → x.1 = (i : Int) ∧ as[i]? = some x.2 := fun {i x} h => by
    unfold enm at h
    rw [List.getElem?_mapIdx] at h
    obtain ⟨y, hy, rfl⟩ := Option.map_eq_some_iff.mp h
    exact ⟨rfl, hy⟩
  have zl : (enm as).length = as.length := by unfold enm; rw [List.length_mapIdx]
  refine ⟨p1, vs, rfl, t1 _ _ (Ex.refl _) S1.ex, q _ F1 H1 f1 S1 ⟨fun i F H a b hi => ⟨vs, t1 _ _ a b, by rw [d1.len]; omega⟩, fun F H a b hb => by
    have := hb p1 vs (sqK_or (t1 _ _ a b))
    rw [d1.len] at this
    omega, fun i x F H a b hx => ?_, fun i x F H v H' a b hx hy => ?_⟩⟩
  · obtain ⟨z1, z2⟩ := zg hx
    obtain ⟨w1, c1, _⟩ := d1.get z2
    exact ⟨vs, w1, t1 _ _ a b, c1⟩
  · obtain ⟨z1, z2⟩ := zg hx
    obtain ⟨w1, c1, o1⟩ := d1.get z2
    obtain ⟨T', y1, rfl, nT, rfl, m1⟩ := hy
    have n1 := m1 vs (t1 _ _ a b)
    rw [c1] at n1; cases n1
    have nF : F T' = none := b.back nT
    exact ⟨upd F T' (.tup [.int (i : Nat), w1]), Ex.new nF, b.up, Ex.new nT, fun c hc => .inl (upd_ne fun z => hc (by rw [z]; exact nT)), T', _, rfl, .inl (.inl upd_same), .int (i : Nat), [w1], rfl, (by rw [z1]; rfl), w1, rfl, R.mono (a.trans (Ex.new nF)) o1⟩⟩
/-- sum of a tuple -/
def rSumT (K : PySem.W.Frag) : List V → Hp → VK → Prop := fun vs H Q => ∃ (a : Addr) (ns : List Int), vs = [V.ref a] ∧ SqT K H a (ns.map V.int) ∧ Q (.int ns.sum) H
theorem cr_sumT {X : Cx} (hc : X.calm = true) : CallR X (.builtin "sum") (rSumT X.K) := by
  intro pins s σ H vs us Q I r hy
  obtain ⟨a, ns, rfl, hT, fin⟩ := hy
  obtain ⟨its, rv, tp, _⟩ := I.tuple hT
  obtain ⟨zs, hz⟩ := rv.ints.allInts.items
  have hn : numsOf (intItems zs).toList = ns := by rw [← hz]; exact rv.ints.numsOf
  rw [nums_intItems] at hn
  have tp2 : s.heap.IsTuple a (intItems zs) := hz ▸ tp
  rw [Vals.ref1 r]
  refine PySem.W.ktm_sumG (I.ok.hd hc) tp2 fun h' tk t' hk => ?_
  rw [preSum_eq, List.take_of_length_le (by simp), hn]
  exact ⟨.int _, H, I.kept hk, ⟨_, rfl⟩, fin⟩
theorem ev_sumV {X : Cx} {W : Fx} {G G1 : Gm} {a : Expr} {p pos : Pos} {xs : List Int} (hm : X.mg "sum" = none) (ha : Ev X W a G (RV X.K RI) xs G1) (hc : X.calm = true := by rfl) (hg : Gl X "sum" := by rfl) (hs : starEach [a] X.env = (false, eval a X.env) :: starEach [] X.env := by rfl) : Ev X W (.Call (.Name "sum" p) [a] [] pos) G RI xs.sum G1 :=
  ev_cb1 (cr_sumT hc) hm (by decide +kernel) ha (fun F H v Q e r q => by
    obtain ⟨pa, vs, rfl, h1, h2⟩ := r
    exact ⟨pa, xs, rfl, by rw [← all2_I h2]; exact ex_sqt e h1, q _ rfl⟩) hg (by decide) (by decide) hs
end Mz

namespace Mz
open PySem PySem.Spec PyProof.Rows L2
/-! ### list(reversed(a list)) -/
section
variable {prog : Program} {w : World} {A : Around} {E : Value → Shared → Prop} {s : Shared} {it l S : Addr} {items : Array Value}
theorem ext_rev {R : Result → Shared → Prop} (hh : A.handled = none) (hit : s.heap.IsRevIter it l ((items.size : Int) - 1)) (hl : s.heap.IsList l items) (hne : l ≠ it) (hn : items.size ≤ sizeLine) (hSi : S ≠ it) (hSl : S ≠ l) (c0 : Nat) (hS : s.heap.get? S = some { cls := .type "list", data := .seq #[] c0 })
    (hR : ∀ p tk acc c, (∀ b o, b ≠ S → b ≠ it → s.heap.get? b = some o → p.get? b = some o) → p.get? S = some { cls := .type "list", dict := none, data := .seq acc c, slots := #[] } → ItemsOf (fun i v => items[items.size - 1 - i]? = some v) acc items.size → R (.ok (.ret .none)) { s with heap := p, toks := tk }) :
    wpAny (model prog w) A.in1 (Builtin.List.listExtendWith (.ref S) (.ref it) .none)
      (fun fin s' => match fin with | .done f => R (.ok f) s' | .again c' => c'.quiet = true ∧ codeAny (model prog w) A c' R s') (fun e s' => R (.error e) s') s := by
  have Wk0 := (Walks.listRev (prog := prog) (w := w) (A := A.in1) hh it l hne items).toS
  have notin : S ∉ [it, l] := by simp only [List.mem_cons, List.not_mem_nil, or_false, not_or]; exact ⟨hSi, hSl⟩
  have ty : s.TypeIs (.ref it) "list_reverseiterator" := hit.typeIs
  have sr : Builtin.List.listSameRef (.ref S) (.ref it) = false := by simp [Builtin.List.listSameRef, hSi]
  unfold Builtin.List.listExtendWith
  refine wpAny_bind (wpAny_typeOf ty ?_)
  rw [if_neg (by rw [sr]; decide)]
  refine wpAny_bind (wpAny_pyIter_revIter hit ?_)
  refine wpAny_bind (wpAny_holding ?_)
  unfold Builtin.List.listLengthHint
  refine wpAny_bind (wpAny_specialOf ty RT.nolen_lri ?_)
  show wpAny _ A.in1 (specialOf (Value.ref it) (Str.ofString "__length_hint__") >>= _) _ _ _
  refine wpAny_bind (wpAny_specialOf ty RT.hint_lri ?_)
  generalize hid : ("list_reverseiterator.__length_hint__" : String) = nm
  wp_delta
  rw [show splitId nm = some ("list_reverseiterator", "__length_hint__") from by subst hid; decide +kernel]
  subst hid
  refine wpAny_bind (wpAny_isInstance (b := true) ty (by rw [isSubtype_type]; kernel_rfl) ?_)
  refine wpAny_pure ?_
  rw [if_neg (by decide)]
  have z0 : ((items.size : Nat) : Int) - 1 - ((0 : Nat) : Int) = (items.size : Int) - 1 := by omega
  refine wpAny_pure ⟨plainId_quiet F.plain_extend_loop _, codeAny_extend_loopS Wk0 hn _ notin _ items.size 0 _ _ _ rfl (Nat.zero_le _) ⟨Nat.zero_le _, by rw [z0]; exact hit, hl⟩ hS (ItemsOf.nil _) fun s' acc c hm hS' hacc => ?_⟩
  rw [Moved.eq_with hm]
  refine hR s'.heap s'.toks acc c (fun b o b1 b2 e => hm.heap b o (fun hmem => ?_) e) hS' hacc
  rcases List.mem_cons.mp hmem with z | z
  · exact b1 z
  · exact b2 (List.mem_singleton.mp z)
theorem call_listRev {Q : Value → Shared → Prop} (hh : A.handled = none) (hit : s.heap.IsRevIter it l ((items.size : Int) - 1)) (hl : s.heap.IsList l items) (hne : l ≠ it) (hn : items.size ≤ sizeLine)
    (hQ : ∀ p tk acc c, (∀ b o, b ≠ it → s.heap.get? b = some o → p.get? b = some o) → p.get? s.heap.objs.size = some { cls := .type "list", dict := none, data := .seq acc c, slots := #[] } → ItemsOf (fun i v => items[items.size - 1 - i]? = some v) acc items.size → Q (.ref s.heap.objs.size) { s with heap := p, toks := tk }) :
    wpAny (model prog w) A (call (.type "list") [.ref it]) Q E s := by
  obtain ⟨oi, hoi, _⟩ := id hit
  obtain ⟨ol, hol, _⟩ := id hl
  have hSi : s.heap.objs.size ≠ it := Nat.ne_of_gt (Heap.lt_size hoi)
  have hSl : s.heap.objs.size ≠ l := Nat.ne_of_gt (Heap.lt_size hol)
  refine callType_codes (Q₁ := fun obj s₁ => obj = .ref s.heap.objs.size ∧ s₁ = { s with heap := s.heap.push { cls := .type "list", data := .seq #[] } }) F.called_list (F.typeCall_list_1 _) F.entry_list_init
    (code_list_new _ ⟨rfl, rfl⟩) fun obj s₁ h₁ => ?_
  obtain ⟨rfl, rfl⟩ := h₁
  have g0 : (s.heap.push { cls := .type "list", data := .seq #[] }).get? s.heap.objs.size = some { cls := .type "list", data := .seq #[] } := Heap.get?_push_size _ rfl
  refine ⟨⟨_, g0, rfl⟩, F.args_list_init_2 _ _, ?_⟩
  show wpAny _ A.in1.in1 (do let old ← Builtin.List.listItems (.ref s.heap.objs.size); Builtin.List.listUpdate (.ref s.heap.objs.size) (fun _ => #[]); letGo old.toList.reverse; Builtin.List.listExtendWith (.ref s.heap.objs.size) (.ref it) .none) _ _ _
  refine wpAny_bind ?_
  unfold Builtin.List.listItems
  refine wpAny_bind (wpAny_seqItems g0 rfl (wpAny_pure ?_))
  show wpAny _ A.in1.in1 (updateSeq s.heap.objs.size (fun _ => #[]) >>= fun _ => letGo (#[] : Array Value).toList.reverse >>= fun _ => Builtin.List.listExtendWith (.ref s.heap.objs.size) (.ref it) .none) _ _ _
  refine wpAny_bind (wpAny_updateSeq g0 rfl ?_)
  have g1 := Heap.get?_update_self (Obj.mapSeq (fun _ => (#[] : Array Value))) g0 rfl
  have oth : ∀ b o, b ≠ s.heap.objs.size → s.heap.get? b = some o → ((s.heap.push { cls := .type "list", data := .seq #[] }).update s.heap.objs.size (Obj.mapSeq (fun _ => (#[] : Array Value)))).get? b = some o :=
    fun b o hb e => (Heap.get?_update_other _ _ (Ne.symm hb)).trans (Heap.get?_push_of_some _ e)
  refine wpAny_bind (wpAny_letGo ?_)
  refine ext_rev (A := A.in1) hh (hit.at fun o e => oth it o hSi.symm e) (hl.at fun o e => oth l o hSl.symm e) hne hn hSi hSl _ g1 fun p tk acc c hk hS' hacc => ?_
  exact ⟨rfl, hQ p tk acc c (fun b o hb e => hk b o (Nat.ne_of_lt (Heap.lt_size e)) hb (oth b o (Nat.ne_of_lt (Heap.lt_size e)) e)) hS' hacc⟩
end
theorem all2_rev {α : Type} {R : Rp α} {F : Hp} : ∀ {vs : List V} {as : List α}, All2 R F vs as → All2 R F vs.reverse as.reverse
  | [], [], _ => .nil
  | v :: vs, a :: as, h => by
    cases h with
    | cons h t =>
      rw [List.reverse_cons, List.reverse_cons]
      exact (all2_rev t).app (.cons h .nil)
  | [], _ :: _, h => nomatch h
  | _ :: _, [], h => nomatch h
def tListRev (K : PySem.W.Frag) (te : TE) : TE := fun σ H Q => te σ H fun v H1 => ∃ (a : Addr) (xs : List V), v = .ref a ∧ SqL K H1 a xs ∧ ∀ q, H1 q = none → Q (.ref q) (upd H1 q (.lst xs.reverse))
theorem pe_listRev {X : Cx} {e : Expr} {te : TE} {p p2 pos pos2 : Pos} (hc : X.calm = true) (hg : Gl X "list") (hm : X.mg "list" = none) (hg2 : Gl X "reversed") (hm2 : X.mg "reversed" = none) (he : PE X e te)
    (hs : starEach [e] X.env = (false, eval e X.env) :: starEach [] X.env)
    (hs2 : starEach [.Call (.Name "reversed" p2) [e] [] pos2] X.env = (false, eval (.Call (.Name "reversed" p2) [e] [] pos2) X.env) :: starEach [] X.env) :
    PE X (.Call (.Name "list" p) [.Call (.Name "reversed" p2) [e] [] pos2] [] pos) (tListRev X.K te) := by
  refine ⟨fun pins s σ H Q I hq => ?_⟩
  refine Call_ (ld_blt I hg hm boot_list (PyProof.Rows.callWith_type1 (args_cons (Call_ (ld_blt I hg2 hm2 PyProof.Rows.boot_reversed (PyProof.Rows.callWith_type1 (args_cons (thn (he.run pins s σ H _ I hq) fun u s1 ⟨v, H1, I1, r1, q1⟩ => args_nil ?_) hs) hs rfl))) hs2) hs2 rfl))
  obtain ⟨a, xs, rfl, hS, fin⟩ := q1
  obtain rfl : u = Value.ref a := r1
  obtain ⟨us, rv, pl, hz⟩ := I1.list hS
  refine call_reversed_list pl.isList (args_nil ?_)
  have up0 : ∀ b o, s1.heap.get? b = some o → (s1.heap.push (revObj a ((us.toArray.size : Int) - 1))).get? b = some o := fun b o e => Heap.get?_push_of_some _ e
  have I2 : Inv X pins σ H1 { s1 with heap := s1.heap.push (revObj a ((us.toArray.size : Int) - 1)) } := I1.kept (t' := s1.toks) up0
  have ff := I1.fpOk (H' := H1) (b := s1.heap.objs.size) (Nat.le_refl _) (I1.hok.fresh (Nat.le_refl _))
  have hl := pl.isList
  obtain ⟨ol, hol, _⟩ := id hl
  have hne : a ≠ s1.heap.objs.size := Nat.ne_of_lt (Heap.lt_size hol)
  have hn : us.toArray.size ≤ sizeLine := by rw [List.size_toArray, ← rv.length]; exact hz
  refine call_listRev (s := { s1 with heap := s1.heap.push (revObj a ((us.toArray.size : Int) - 1)) }) (I1.ok.hd hc) ⟨_, Heap.get?_push_size _ rfl, rfl, rfl⟩ (hl.push _) hne hn fun h' tk acc c hk hS' hacc => ?_
  have sz2 : (s1.heap.push (revObj a ((us.toArray.size : Int) - 1))).objs.size = s1.heap.objs.size + 1 := Heap.size_push ..
  have new : ObjOk X.prog X.w (upd H1 (s1.heap.push (revObj a ((us.toArray.size : Int) - 1))).objs.size (.lst xs.reverse)) h' (s1.heap.push (revObj a ((us.toArray.size : Int) - 1))).objs.size (.lst xs.reverse) :=
    ⟨by rw [List.length_reverse]; exact hz, acc.toList, c, RT.vals_rev rv hacc, by rw [Array.toArray_toList]; exact hS'⟩
  have I3 := I2.turnedNew (t' := tk) (ch := [s1.heap.objs.size]) (fun b o hb e => hk b o (fun z => hb (by simp [z])) e) (fun b hb => by rw [List.mem_singleton.mp hb]; exact ff) (Nat.le_refl _) new
  exact ⟨.ref _, _, I3, rfl, fin _ (I2.hok.fresh (Nat.le_refl _))⟩
theorem eo_listRev {X : Cx} {W : Fx} {G G1 : Gm} {α : Type} {R : Rp α} {a : Expr} {p p2 pos pos2 : Pos} {xs : List α} (hm : X.mg "list" = none) (hm2 : X.mg "reversed" = none) (ha : Ev X W a G (RL X.K R) xs G1) (hc : X.calm = true := by rfl) (hg : Gl X "list" := by rfl) (hg2 : Gl X "reversed" := by rfl)
    (hs : starEach [a] X.env = (false, eval a X.env) :: starEach [] X.env := by rfl)
    (hs2 : starEach [.Call (.Name "reversed" p2) [a] [] pos2] X.env = (false, eval (.Call (.Name "reversed" p2) [a] [] pos2) X.env) :: starEach [] X.env := by rfl) :
    EvO X W (.Call (.Name "list" p) [.Call (.Name "reversed" p2) [a] [] pos2] [] pos) G (fun l => QL l R xs.reverse) G1 := .mk fun σ F H Q S q =>
  toE (pe_listRev hc hg hm hg2 hm2 wE_pe hs hs2) (ha.out σ F H _ S fun v F' H' e' S' r => by
    obtain ⟨pa, vs, rfl, h1, h2⟩ := r
    refine ⟨pa, vs, rfl, ex_sql S'.ex h1, fun l hl => ?_⟩
    obtain ⟨s1, s2⟩ := NewO.list S' hl (all2_rev h2)
    exact q l F' _ e' s1 s2)
end Mz

namespace Mz
open PySem PySem.Spec PyProof.Rows L2
/-! ### x in a tuple of numbers or of texts -/
section
variable {X : Cx}
theorem inV_int (x : Int) : ∀ xs : List Int, inV (.int x) (xs.map V.int) = decide (x ∈ xs)
  | [] => rfl
  | y :: ys => by
    have ih := inV_int x ys
    unfold inV at *
    rw [List.map_cons, List.any_cons, ih]
    show ((y == x) || decide (x ∈ ys)) = _
    by_cases h : x = y
    · subst h; simp
    · have : (y == x) = false := by simp; exact fun z => h z.symm
      rw [this]; simp [h]
theorem inV_str (x : Str) : ∀ xs : List Str, inV (.str x) (xs.map V.str) = decide (x ∈ xs)
  | [] => rfl
  | y :: ys => by
    have ih := inV_str x ys
    unfold inV at *
    rw [List.map_cons, List.any_cons, ih]
    show ((y == x) || decide (x ∈ ys)) = _
    by_cases h : x = y
    · subst h; simp
    · have : (y == x) = false := by simp; exact fun z => h z.symm
      rw [this]; simp [h]
theorem cmp_inVI {x : Int} {xs : List Int} : Cmp X .In RI x (RV X.K RI) xs (decide (x ∈ xs)) := ⟨_, op_in_seq, fun F H v u Q e r1 r2 q => by
  obtain ⟨p, vs, rfl, h1, h2⟩ := r2
  obtain rfl := all2_I h2
  obtain rfl : v = V.int x := r1
  exact ⟨p, _, rfl, .inr (ex_sqt e h1), rfl, by simp [flatV], by
    rw [if_neg Bool.false_ne_true, inV_int]
    exact q _ rfl⟩⟩
theorem cmp_ninVI {x : Int} {xs : List Int} : Cmp X .NotIn RI x (RV X.K RI) xs (!decide (x ∈ xs)) := ⟨_, op_notIn_seq, fun F H v u Q e r1 r2 q => by
  obtain ⟨p, vs, rfl, h1, h2⟩ := r2
  obtain rfl := all2_I h2
  obtain rfl : v = V.int x := r1
  exact ⟨p, _, rfl, .inr (ex_sqt e h1), rfl, by simp [flatV], by
    rw [if_pos rfl, inV_int]
    exact q _ rfl⟩⟩
theorem cmp_inVS {x : Str} {xs : List Str} : Cmp X .In RS x (RV X.K RS) xs (decide (x ∈ xs)) := ⟨_, op_in_seq, fun F H v u Q e r1 r2 q => by
  obtain ⟨p, vs, rfl, h1, h2⟩ := r2
  obtain rfl := all2_str h2
  obtain rfl : v = V.str x := r1
  exact ⟨p, _, rfl, .inr (ex_sqt e h1), rfl, by simp [flatV], by
    rw [if_neg Bool.false_ne_true, inV_str]
    exact q _ rfl⟩⟩
theorem cmp_ninVS {x : Str} {xs : List Str} : Cmp X .NotIn RS x (RV X.K RS) xs (!decide (x ∈ xs)) := ⟨_, op_notIn_seq, fun F H v u Q e r1 r2 q => by
  obtain ⟨p, vs, rfl, h1, h2⟩ := r2
  obtain rfl := all2_str h2
  obtain rfl : v = V.str x := r1
  exact ⟨p, _, rfl, .inr (ex_sqt e h1), rfl, by simp [flatV], by
    rw [if_pos rfl, inV_str]
    exact q _ rfl⟩⟩
end
/-- a kept thing is told as one that may be None -/
theorem tr_some {W : Fx} {G : Gm} {α : Type} {R : Rp α} {x : α} {P : L2.St → Hp → Prop} (i : Nat) (hn : NN R) (hG : G[i]? = some (some (imm R x))) (h : Tr W (G.set i (some (imm (RO R) (some x)))) P) : Tr W G P := .mk fun σ F H S => by
  obtain ⟨v, g1, g2⟩ := S.slI hG
  have S2 := S.setI (i := i) (R := RO R) (a := some x) (show (RO R).r F v (some x) from ⟨g2, hn F v x g2⟩)
  have e : σ.set i (some v) = σ := by
    apply List.ext_getElem?
    intro j
    by_cases z : i = j
    · subst z
      rw [List.getElem?_set_self (List.getElem?_eq_some_iff.mp g1).1, g1]
    · rw [List.getElem?_set_ne z]
  rw [e] at S2
  exact h.out σ F H S2
end Mz

namespace Mz
open PySem PySem.Spec PyProof.Rows L2
/-! ### ranges with a step, and from their end -/
def rngS (i j c : Int) : List Int := (List.range (if i < j then ((j - i - 1) / c + 1).toNat else 0)).map fun (k : Nat) => i + (k : Int) * c
def rngSOk (i j c : Int) : Bool := decide (0 < c) && decide (c < 1000000000) && decide (-1000000000 ≤ i) && decide (i ≤ 1000000000) && decide (-1000000000 ≤ j) && decide (j ≤ 1000000000) && decide (j - i ≤ 16777216)
def rngD (i j : Int) : List Int := (List.range (i - j).toNat).map fun (k : Nat) => i + (k : Int) * (-1)
theorem rngS_c {i j c : Int} (h : rngSOk i j c = true) : RgC i j c (if i < j then ((j - i - 1) / c + 1).toNat else 0) ∧ (if i < j then ((j - i - 1) / c + 1).toNat else 0) ≤ 16777216 := by
  unfold rngSOk at h
  simp only [Bool.and_eq_true, decide_eq_true_eq] at h
  obtain ⟨⟨⟨⟨⟨⟨h0, h1⟩, h2⟩, h3⟩, h4⟩, h5⟩, h6⟩ := h
  have e : Builtin.Range.rangeSize i j c = (((if i < j then ((j - i - 1) / c + 1).toNat else 0 : Nat)) : Int) := by
    unfold Builtin.Range.rangeSize
    rw [if_pos (by omega)]
    split
    · have : 0 ≤ (j - i - 1) / c := Int.ediv_nonneg (by omega) (by omega)
      omega
    · rfl
  have l : (if i < j then ((j - i - 1) / c + 1).toNat else 0) ≤ 16777216 := by
    split
    · have : (j - i - 1) / c ≤ j - i - 1 := Int.ediv_le_self _ (by omega)
      omega
    · omega
  refine ⟨⟨by omega, by omega, ?_, e⟩, l⟩
  unfold Builtin.Range.small
  rw [e]
  unfold Builtin.Range.rangeFitsLong
  simp only [Bool.and_eq_true, decide_eq_true_eq, Bool.or_eq_true, beq_iff_eq]
  generalize (if i < j then ((j - i - 1) / c + 1).toNat else 0) = n at l
  rw [if_pos (show c > 0 by omega)]
  simp only [decide_eq_true_eq, Bool.and_eq_true]
  omega
section
variable {X : Cx} {W : Fx} {G G1 G2 G3 : Gm}
theorem src_rngS {tg e1 e2 e3 : Expr} {p pos : Pos} {i j c : Int} (hm : X.mg "range" = none) (ho : rngSOk i j c = true) (h : Ev X W e1 G RI i G1) (h2 : Ev X W e2 G1 RI j G2) (h3 : Ev X W e3 G2 RI c G3) (hg : Gl X "range" := by rfl)
    (hs : starEach [e1, e2, e3] X.env = (false, eval e1 X.env) :: starEach [e2, e3] X.env := by rfl) (hs2 : starEach [e2, e3] X.env = (false, eval e2 X.env) :: starEach [e3] X.env := by rfl) (hs3 : starEach [e3] X.env = (false, eval e3 X.env) :: starEach [] X.env := by rfl) (hpl : (backTo pos (starEach [e2, e3] X.env)).any (·.1) = false := by rfl) :
    Src X W tg (.Call (.Name "range" p) [e1, e2, e3] [] pos) G RI (rngS i j c) G3 :=
  src_rng3 hm (rngS_c ho).1 (rngS_c ho).2 h h2 h3 hg hs hs2 hs3 hpl
theorem src_rngD {tg e1 e2 e3 : Expr} {p pos : Pos} {i j : Int} (hm : X.mg "range" = none) (ho : rngOk j i = true) (h : Ev X W e1 G RI i G1) (h2 : Ev X W e2 G1 RI j G2) (h3 : Ev X W e3 G2 RI (-1) G3) (hg : Gl X "range" := by rfl)
    (hs : starEach [e1, e2, e3] X.env = (false, eval e1 X.env) :: starEach [e2, e3] X.env := by rfl) (hs2 : starEach [e2, e3] X.env = (false, eval e2 X.env) :: starEach [e3] X.env := by rfl) (hs3 : starEach [e3] X.env = (false, eval e3 X.env) :: starEach [] X.env := by rfl) (hpl : (backTo pos (starEach [e2, e3] X.env)).any (·.1) = false := by rfl) :
    Src X W tg (.Call (.Name "range" p) [e1, e2, e3] [] pos) G RI (rngD i j) G3 :=
  src_rng3 hm (.neg (rngOk_of ho).1.2.2.1 (rngOk_of ho).1.2.2.2 (rngOk_of ho).1.1 (rngOk_of ho).1.2.1) (by have := (rngOk_of ho).2; omega) h h2 h3 hg hs hs2 hs3 hpl
/-- reversed(range(a, b)) -/
theorem walk_rngD {F1 : Hp} (i j : Int) (h : i - j ≤ 16777216) : Walk X (Itc i (-1) (i - j).toNat) F1 RI (rngD i j) := by
  have gt : ∀ {k : Nat} {x : Int}, (rngD i j)[k]? = some x → k < (i - j).toNat ∧ x = i + (k : Int) * (-1) := fun {k x} hx => by
    have hk := (List.getElem?_eq_some_iff.mp hx).1
    unfold rngD at hk hx
    rw [List.length_map, List.length_range] at hk
    rw [List.getElem?_map, List.getElem?_range hk] at hx
    exact ⟨hk, (Option.some.inj hx).symm⟩
  have ln : (rngD i j).length = (i - j).toNat := by unfold rngD; rw [List.length_map, List.length_range]
  exact ⟨fun k F H _ _ hk => by rw [ln] at hk; exact hk, fun F H _ _ _ => by rw [ln, sizeLine_eq]; omega, fun k x F H _ _ hx => (gt hx).1, fun k x F H v H' _ b hx hy => ⟨F, Ex.refl F, by rw [hy.1]; exact b, by rw [hy.1]; exact Ex.refl _, fun _ _ => .inl rfl, by
    show v = V.int x
    rw [(gt hx).2]; exact hy.2⟩⟩
theorem src_revR1 {tg a : Expr} {p p2 pos pos2 : Pos} {j : Int} (hm2 : X.mg "reversed" = none) (hm : X.mg "range" = none) (ho : rngOk 0 j = true) (h : Ev X W a G RI j G1) (hg : Gl X "range" := by rfl) (hg2 : Gl X "reversed" := by rfl)
    (hs : starEach [a] X.env = (false, eval a X.env) :: starEach [] X.env := by rfl) (hs2 : starEach [.Call (.Name "range" p2) [a] [] pos2] X.env = (false, eval (.Call (.Name "range" p2) [a] [] pos2) X.env) :: starEach [] X.env := by rfl) :
    Src X W tg (.Call (.Name "reversed" p) [.Call (.Name "range" p2) [a] [] pos2] [] pos) G RI (rngD (j - 1) (-1)) G1 :=
  ⟨_, pi_revR hg2 hm2 (prg_1 hg hm wE_pe hs) hs2, fun σ F H P S q => h.out σ F H _ S fun v1 F1 H1 f1 S1 r1 => by
    have hj := rngOk_of ho
    have w := walk_rngD (X := X) (F1 := F1) (j - 1) (-1) (by omega)
    refine ⟨j, by rw [show v1 = V.int j from r1], by omega, by omega, hj.1.2.2.1, hj.1.2.2.2, ?_⟩
    by_cases e : j ≤ 0
    · have e1 : (j - 0).toNat = 0 := by omega
      have e2 : (j - 1 - -1).toNat = 0 := by omega
      have e3 : rngD (j - 1) (-1) = [] := by unfold rngD; rw [e2]; rfl
      rw [e1]
      refine q _ F1 H1 f1 S1 ⟨fun k F H _ _ hk => by (rw [e3] at hk; exact Nat.zero_le k), fun F H _ _ _ => by rw [e3]; exact Nat.zero_le _, fun k x F H _ _ hx => by (rw [e3] at hx; exact nomatch hx), fun k x F H v H' _ b hx hy => by (rw [e3] at hx; exact nomatch hx)⟩
    · rw [show (0 : Int) + (((j - 0).toNat : Nat) : Int) - 1 = j - 1 by omega, show (j - 0).toNat = (j - 1 - -1).toNat by omega]
      exact q _ F1 H1 f1 S1 w⟩
theorem src_revR2 {tg a b : Expr} {p p2 pos pos2 : Pos} {i j : Int} (hm2 : X.mg "reversed" = none) (hm : X.mg "range" = none) (ho : rngOk i j = true) (h : Ev X W a G RI i G1) (h2 : Ev X W b G1 RI j G2) (hg : Gl X "range" := by rfl) (hg2 : Gl X "reversed" := by rfl)
    (hs : starEach [a, b] X.env = (false, eval a X.env) :: starEach [b] X.env := by rfl) (hs1 : starEach [b] X.env = (false, eval b X.env) :: starEach [] X.env := by rfl) (hp : (backTo pos2 (starEach [b] X.env)).any (·.1) = false := by rfl)
    (hs2 : starEach [.Call (.Name "range" p2) [a, b] [] pos2] X.env = (false, eval (.Call (.Name "range" p2) [a, b] [] pos2) X.env) :: starEach [] X.env := by rfl) :
    Src X W tg (.Call (.Name "reversed" p) [.Call (.Name "range" p2) [a, b] [] pos2] [] pos) G RI (rngD (j - 1) (i - 1)) G2 :=
  ⟨_, pi_revR hg2 hm2 (prg_2 hg hm wE_pe wE_pe hs hs1 hp) hs2, fun σ F H P S q => two (K := fun v u H2 => _) h h2 S fun v u F1 H1 f1 S1 r1 r2 => by
    have hj := rngOk_of ho
    have w := walk_rngD (X := X) (F1 := F1) (j - 1) (i - 1) (by omega)
    refine ⟨i, j, by rw [show v = V.int i from r1], by rw [show u = V.int j from r2], hj.1.1, hj.1.2.1, hj.1.2.2.1, hj.1.2.2.2, ?_⟩
    by_cases e : j ≤ i
    · have e1 : (j - i).toNat = 0 := by omega
      have e2 : (j - 1 - (i - 1)).toNat = 0 := by omega
      have e3 : rngD (j - 1) (i - 1) = [] := by unfold rngD; rw [e2]; rfl
      rw [e1]
      refine q _ F1 H1 f1 S1 ⟨fun k F H _ _ hk => by (rw [e3] at hk; exact Nat.zero_le k), fun F H _ _ _ => by rw [e3]; exact Nat.zero_le _, fun k x F H _ _ hx => by (rw [e3] at hx; exact nomatch hx), fun k x F H v H' _ b hx hy => by (rw [e3] at hx; exact nomatch hx)⟩
    · rw [show i + (((j - i).toNat : Nat) : Int) - 1 = j - 1 by omega, show (j - i).toNat = (j - 1 - (i - 1)).toNat by omega]
      exact q _ F1 H1 f1 S1 w⟩
end
end Mz

namespace Mz
open PySem PySem.Spec PyProof.Rows L2
/-! ### C.index(x), C a module's tuple of texts; a call without arguments that tells a new list -/
section
variable {X : Cx} {W : Fx} {G G1 G2 G3 : Gm} {e a b c tg : Expr} {es : List Expr} {α β τ : Type} {R : Rp α} {T : Rp β} {x : α} {y : β} {pos p p2 : Pos} {n : Str} {k : Nat} {f : Addr} {fd : FuncData} {ps : List Str} {sp : Sp}
theorem ev_indexG {xs : List Str} {x : Str} {j : Int} {apos cpos : Pos} (h : idxO xs x = some j) (hG : Gc X.K X.mg n (RV X.K RS) xs) (hb : Ev X W b G RS x G2) (hg : Gl X n := by rfl) (hd : (n == ("__debug__" : Str)) = false := by decide) (hbase : attributeBase (.Name n p) "index" X.env (eval (.Name n p) X.env) = eval (.Name n p) X.env := by rfl)
    (hfew : ((backTo cpos (starEach [b] X.env)).all (fun x => !x.1) && (backToKw cpos (keywordEach [] X.env)).all (fun x => x.1.isSome)
      && decide ([b].length + ([] : List Keyword).length + (if ([] : List Keyword).isEmpty then 0 else 1) < 30)) = true := by rfl)
    (hline : (apos.endLine == cpos.line) = true := by rfl) (hs : starEach [b] X.env = (false, eval b X.env) :: starEach [] X.env := by rfl) :
    Ev X W (.Call (.Attribute (.Name n p) "index" apos) [b] [] cpos) G RI j G2 := .mk fun σ F H Q S q => by
  obtain ⟨u, v, h1, h2, h3, h4⟩ := hG.ex
  obtain ⟨pa, vs, rfl, h5, h6⟩ := h3 F
  obtain rfl := all2_str h6
  refine toE (pe_bm PySem.F.plainAttrs_tuple PySem.F.slot_tuple_index PySem.F.type_tuple_index mt_tup_index (pe_glob hg h1 h2 hd) (pa_cons wE_pe pa_nil hs) hbase hfew hline hs (by rfl)) ?_
  refine ⟨.inr (.inl ⟨rfl, ?_⟩), hb.out σ F H _ S fun u F2 H2 e2 S2 r2 => ?_⟩
  · obtain ⟨o, k1, k2⟩ := h4 pa rfl
    obtain ⟨pa', vs', e', h7, _⟩ := h3 (fun _ => none)
    cases e'
    rcases h7 with h7 | ⟨o', its, n, k3, k4, _⟩
    · exfalso
      unfold Rd at h7
      rcases h7 with z | z
      · cases z
      · obtain ⟨_, z⟩ := z
        cases z
    · rw [k1] at k3
      cases k3
      exact ⟨o, k1, k4, k2⟩
  · obtain rfl : u = V.str x := r2
    unfold idxO at h
    cases hf : xs.findIdx? (fun y => decide (y = x)) with
    | none => rw [hf] at h; cases h
    | some m =>
      rw [hf] at h
      cases h
      obtain ⟨hm, hx, hno⟩ := List.findIdx?_eq_some_iff_getElem.mp hf
      refine ⟨pa, xs, x, m, rfl, rfl, ex_sqt (e2.trans S2.ex) h5, by rw [List.getElem?_eq_getElem hm, of_decide_eq_true hx], fun l hl => ?_, q _ F2 H2 e2 S2 rfl⟩
      have hl' : l < xs.length := Nat.lt_trans hl hm
      rw [List.getElem?_eq_getElem hl']
      intro z
      have := hno l hl
      rw [Option.some.inj z, decide_eq_true rfl] at this
      exact this rfl
theorem eo_call0 {r : List α} (Fn : FnOk X.prog X.w X.K X.mg X.base CX0 k f fd ps sp) (hr : Room k X.A) (hm : X.mg n = some (.ref f)) (hk : PySem.W.keepIn X.K (.ref f) = true) (hb : Binds X.K fd ps [])
    (hsp : ∀ H (Qk : VK) W' F', W'.tb = W.tb → Sat W' [] [] F' H → (∀ v H', Rt W' (OwnL R) (fun _ => []) r v H' → Qk v H') → sp [] H Qk E0) (hg : Gl X n := by rfl)
    (hdb : (n == ("__debug__" : Str)) = false := by decide) : EvO X W (.Call (.Name n p) [] [] pos) G (fun l => QL l R r) G := .mk fun σ F H Q S q =>
  toE (pe_call0 Fn hr hg hm hk hb .nil pass0 hdb) (by
    show sp ([] ++ []) H Q E0
    refine hsp H Q (W.rest F H) F rfl (S.args (vs := []) (Ps := []) .nil) fun v H' hv => ?_
    obtain ⟨P, F', vs', ⟨l, rfl⟩, S'⟩ := hv
    obtain ⟨w, h1, h2, h3⟩ := S'.sl 0 _ rfl
    cases Option.some.inj (Option.some.inj h1)
    subst h2
    exact q l F' H' S'.f0 (S.ret0 S') ⟨h3, fun a ha => ret_new S S' (i := 0) rfl ha⟩)
end
end Mz

namespace Mz
open PySem PySem.Spec PyProof.Rows L2
/-! ### a comprehension's test that changes a state -/
theorem turnY {W0 : Fx} {X : Cx} {scope : Scope} {vs : List Nat} {tg elt c : Expr} {α β S : Type} {Gw : S → Gm} {R : Rp α} {T : Rp β} {a : α} {s s' : S} {b : β} (ss : List Nat) (G2 G3 G4 : Gm) (h1 : ∀ i ∈ ss, i ∈ vs) (h2 : ∀ W, W0.lw W → ∀ sh H0 C cl fp, Tg (BX X scope sh H0 C cl fp) W tg ss (Gw s) R a G2)
    (hc : ∀ W, W0.lw W → ∀ sh H0 C cl fp, EvT (BX X scope sh H0 C cl fp) W c G2 true G3) (h3 : ∀ W, W0.lw W → ∀ sh H0 C cl fp, Ev (BX X scope sh H0 C cl fp) W elt G3 T b G4) (h5 : Wk (Gw s') G4) : LcTurn W0 X scope vs tg [c] elt Gw R T a s (some b) s' :=
  ⟨ss, G2, G3, h1, h2, (fun W hl sh H0 C cl fp => eq_one (hc W hl sh H0 C cl fp)), (fun e => nomatch e), fun b' e => ⟨G4, by cases e; exact h3, h5⟩⟩
theorem turnN {W0 : Fx} {X : Cx} {scope : Scope} {vs : List Nat} {tg elt c : Expr} {α β S : Type} {Gw : S → Gm} {R : Rp α} {T : Rp β} {a : α} {s s' : S} (ss : List Nat) (G2 G3 : Gm) (h1 : ∀ i ∈ ss, i ∈ vs) (h2 : ∀ W, W0.lw W → ∀ sh H0 C cl fp, Tg (BX X scope sh H0 C cl fp) W tg ss (Gw s) R a G2)
    (hc : ∀ W, W0.lw W → ∀ sh H0 C cl fp, EvT (BX X scope sh H0 C cl fp) W c G2 false G3) (h4 : Wk (Gw s') G3) : LcTurn W0 X scope vs tg [c] elt Gw R T a s none s' :=
  ⟨ss, G2, G3, h1, h2, (fun W hl sh H0 C cl fp => eq_one (hc W hl sh H0 C cl fp)), (fun _ => h4), fun b' e => nomatch e⟩
theorem et_isW {X : Cx} {W : Fx} {G G1 : Gm} {c : Expr} {b b' : Bool} (h : EvT X W c G b G1) (e : b = b') : EvT X W c G b' G1 := e ▸ h
/-- isinstance of a value or None -/
theorem ev_isiO {X : Cx} {W : Fx} {G G1 : Gm} {a : Expr} {α : Type} {R : Rp α} {o : Option α} {pos p p2 : Pos} {n : Str} {t T : String} (hm : X.mg "isinstance" = none) (hT : X.mg n = none) (hv : bootBuiltins n = some (.type T)) (ht : TyR X.K R t) (hk : kitB t T = some true) (hk2 : kitB "NoneType" T = some false) (ha : Ev X W a G (RO R) o G1) (hg : Gl X "isinstance" := by rfl) (hg2 : Gl X n := by rfl)
    (hn : n ≠ "__name__" := by decide) (hdb : (n == ("__debug__" : Str)) = false := by decide) (hs : starEach [a, .Name n p2] X.env = (false, eval a X.env) :: starEach [.Name n p2] X.env := by rfl) (hs2 : starEach [.Name n p2] X.env = (false, eval (.Name n p2) X.env) :: starEach [] X.env := by rfl) :
    Ev X W (.Call (.Name "isinstance" p) [a, .Name n p2] [] pos) G RB o.isSome G1 := .mk fun σ F H Q S q =>
  toE (pe_callB call_isi hg hm (by decide +kernel) (pa_cons wE_pe (pa_cons (pe_bltn hg2 hT hv (v := .ty T) rfl hn hdb) pa_nil hs2) hs) (by decide) (by decide) hs (by rw [hs2]; rfl)) (ha.out σ F H _ S fun v F' H' e S' r => by
    cases o with
    | none => exact ⟨v, .ty T, .type "NoneType", .type T, false, rfl, .ty T, by rw [show v = V.non from r]; exact .base .non, kit_ty hk2, q _ F' H' e S' rfl⟩
    | some x => exact ⟨v, .ty T, .type t, .type T, true, rfl, .ty T, ht F' H' v x S'.ex r.1, kit_ty hk, q _ F' H' e S' rfl⟩)
end Mz

namespace Mz
open PySem PySem.Spec PyProof.Rows L2
open PySem.W (alike alikeAll)
/-! ### tuples that are known as such (not of the module) -/
def RH {α : Type} (T : Rs α) : Rp α := ⟨fun F v a => ∃ p vs, v = .ref p ∧ F p = some (.tup vs) ∧ T.r F vs a, fun {F F' v as} e h => by
  obtain ⟨p, vs, h1, h2, h3⟩ := h
  exact ⟨p, vs, h1, e _ _ h2, T.mono e h3⟩⟩
section
variable {K : PySem.W.Frag} {α β τ υ : Type} {T : Rs α} {n : Nat} {ok : α → Prop}
theorem rh_rt {F : Hp} {v : V} {a : α} (h : (RH T).r F v a) : (RT K T).r F v a := by
  obtain ⟨p, vs, h1, h2, h3⟩ := h
  exact ⟨p, vs, h1, .inl (.inl h2), h3⟩
theorem nb_H : NB (RH T) := fun F v a h => by obtain ⟨q, vs, e, _⟩ := h; exact nb_ref e
theorem ty_H : TyR K (RH T) "tuple" := fun F H v a e h => ty_T (T := T) (K := K) F H v a e (rh_rt h)
theorem nn_H : NN (RH T) := fun F v a h z => by obtain ⟨p, vs, e, _⟩ := h; rw [e] at z; cases z
def em_H {S : Rs α} (Es : Emr K S n ok) : Emb K (RH S) (n + 1) ok := ⟨(em_T Es).e, fun F v a h => (em_T Es).r F v a (rh_rt h), (em_T Es).k⟩
def d_H {S : Rs α} (E : Dr K S) : Dd K (RH S) := ⟨(d_T E).e, fun F v a h => (d_T E).r F v a (rh_rt h), (d_T E).q, (d_T E).c, (d_T E).n, (d_T E).d⟩
theorem od_H {E : Dr K T} (g : Or_ E) : Od (d_H E) := ⟨(od_T g).al, (od_T g).nn, (od_T g).kd⟩
theorem dn_H {T : Rs α} (h : DnR T) : Dn (RH T) := fun F F' v a l q => by
  obtain ⟨p, vs, h1, h2, h3⟩ := q
  exact ⟨p, vs, h1, less_at l h2 fun z => z, h _ _ _ _ l h3⟩
end
section
variable {X : Cx} {W : Fx} {G G1 G2 G3 : Gm} {a b e : Expr} {es : List Expr} {α β τ : Type} {R : Rp α} {x : α} {pos p p2 : Pos}
/-- a known tuple as any tuple -/
theorem ev_hT {K : Rs τ} {t : τ} (h : Ev X W a G (RH K) t G1) : Ev X W a G (RT X.K K) t G1 := h.as fun _ _ q => rh_rt q
theorem ev_tupH {K : Rs τ} {t : τ} {k} (h : EvR X W es G K t G1) (hn : K.n ≤ sizeLine := by rw [sizeLine_eq]; first | exact Nat.le_of_ble_eq_true rfl | simp) : Ev X W (.Tuple es k pos) G (RH K) t G1 := .mk fun σ F H Q S q =>
  toE (pe_tup wA_pa) (h.out σ F H _ S fun vs F1 H1 e1 S1 r1 => ⟨by rw [K.len r1]; exact hn, fun p hp => by
    have e2 : Ex F1 (upd F1 p (.tup vs)) := Ex.new (S1.ex.back hp)
    exact q _ _ _ (e1.trans e2) (S1.new hp) ⟨p, vs, rfl, upd_same, K.mono e2 r1⟩⟩)
theorem ev_ixH {K : Rs τ} {t : τ} {j : Nat} {i : Int} (h : Pj K t j R x) (hi : ixN K.n i = some j) (ha : Ev X W a G (RH K) t G1) (hb : Ev X W b G1 RI i G2) (hs : PlainIx b := by exact fun _ _ => rfl) : Ev X W (.Subscript a b pos) G R x G2 := ev_ixT h hi (ev_hT ha) hb hs
theorem ev_lenH {K : Rs τ} {t : τ} (hm : X.mg "len" = none) (ha : Ev X W a G (RH K) t G1) (hg : Gl X "len" := by rfl) (hs : starEach [a] X.env = (false, eval a X.env) :: starEach [] X.env := by rfl) : Ev X W (.Call (.Name "len" p) [a] [] pos) G RI (K.n : Int) G1 := ev_lenT hm (ev_hT ha) hg hs
theorem ev_toVH {R : Rp β} {T : Rs α} {f : α → List β} (hh : Ht R T f) (h : Ev X W e G (RH T) x G1) : Ev X W e G (RV X.K R) (f x) G1 := ev_toV hh (ev_hT h)
theorem tg_tupH {ts : List Expr} {ss : List Nat} {K : Rs τ} {t : τ} {k} (h : TgR X W ts ss G K t G1) (hn : (assignEach ts X.env).length = K.n := by rfl) (hc : X.calm = true := by rfl) (hst : (assignEach ts X.env).findIdx? (·.1) = none := by rfl) : Tg X W (.Tuple ts k pos) ss G (RH K) t G1 := .mk fun σ F H v Q S r q =>
  (tg_tup h hn hc hst).out σ F H v Q S (rh_rt r) q
theorem ev_sliceH {υ : Type} {S : Rs τ} {U : Rs υ} {t : τ} {u : υ} {lo hi : Option Expr} {l h : Option Int} (hw : ¬ (HT.sIx S.n 0 l = 0 ∧ HT.sIx S.n S.n h = S.n)) (hk : ∀ F vs, S.r F vs t → U.r F (cutV vs l h) u) (ha : Ev X W a G (RH S) t G1) (hl : EvP X W lo G1 l G2) (hh : EvP X W hi G2 h G3) : Ev X W (.Subscript a (.Slice lo hi none p2) pos) G (RH U) u G3 := .mk fun σ F H Q S0 q => by
  obtain ⟨t1, p1, k1⟩ := hl
  obtain ⟨t2, p2', k2⟩ := hh
  refine toE (pe_slice sl_tup wE_pe p1 p2') (ha.out σ F H _ S0 fun v F1 H1 e1 S1 r1 => k1 σ F1 H1 _ S1 fun F2 H2 e2 S2 => k2 σ F2 H2 _ S2 fun F3 H3 e3 S3 => ?_)
  obtain ⟨pa, vs, rfl, h1, h2⟩ := r1
  have e := e2.trans e3
  refine ⟨pa, vs, rfl, .inl (.inl ((e.trans S3.ex) _ _ h1)), by rw [S.len h2]; exact hw, fun w hwn => ?_⟩
  have nF : F3 w = none := S3.ex.back hwn
  exact q (.ref w) (upd F3 w (.tup (cutV vs l h))) _ ((e1.trans e).trans (Ex.new nF)) (S3.new hwn) ⟨w, cutV vs l h, rfl, upd_same, U.mono (e.trans (Ex.new nF)) (hk _ _ h2)⟩
end
end Mz

namespace Mz
open PySem PySem.Spec PyProof.Rows L2
/-! ### tables -/
section
variable {κ β : Type} [DecidableEq κ]
def dgt (d : List (κ × β)) (k : κ) : Option β := (d.find? fun p => decide (p.1 = k)).map (·.2)
def dpt (d : List (κ × β)) (k : κ) (v : β) : List (κ × β) := if (d.any fun p => decide (p.1 = k)) = true then d.map (fun p => if p.1 = k then (p.1, v) else p) else d ++ [(k, v)]
def dpo (d : List (κ × β)) (k : κ) (v : β) : Option (List (κ × β)) := if d.length < 16000000 then some (dpt d k v) else none
theorem dgt_nil {k : κ} : dgt ([] : List (κ × β)) k = none := rfl
theorem dgt_pos {p : κ × β} {r : List (κ × β)} {k : κ} (e : p.1 = k) : dgt (p :: r) k = some p.2 := by simp [dgt, List.find?_cons, e]
theorem dgt_neg {p : κ × β} {r : List (κ × β)} {k : κ} (e : ¬ p.1 = k) : dgt (p :: r) k = dgt r k := by simp [dgt, List.find?_cons, e]
theorem dgt_any (k : κ) : ∀ d : List (κ × β), (d.any fun p => decide (p.1 = k)) = (dgt d k).isSome
  | [] => rfl
  | p :: r => by
    rw [List.any_cons]
    by_cases e : p.1 = k
    · simp only [dgt_pos e, decide_eq_true e, Bool.true_or, Option.isSome_some]
    · rw [dgt_neg e, decide_eq_false e, Bool.false_or]; exact dgt_any k r
theorem dgt_map (k j : κ) (y : β) : ∀ d : List (κ × β), dgt (d.map fun p => if p.1 = k then (p.1, y) else p) j = (dgt d j).map fun x => if j = k then y else x
  | [] => rfl
  | p :: r => by
    have ih := dgt_map k j y r
    rw [List.map_cons]
    by_cases h : p.1 = k
    · rw [if_pos h]
      by_cases e : p.1 = j
      · rw [dgt_pos (p := (p.1, y)) e, dgt_pos e, Option.map_some, if_pos (e.symm.trans h)]
      · rw [dgt_neg (p := (p.1, y)) e, dgt_neg e, ih]
    · rw [if_neg h]
      by_cases e : p.1 = j
      · rw [dgt_pos (p := p) e, dgt_pos e, Option.map_some, if_neg (fun z => h (e.trans z))]
      · rw [dgt_neg (p := p) e, dgt_neg e, ih]
theorem dgt_snoc (k j : κ) (y : β) : ∀ d : List (κ × β), dgt d k = none → dgt (d ++ [(k, y)]) j = if j = k then some y else dgt d j
  | [], _ => by
    by_cases e : k = j
    · rw [if_pos e.symm]; exact dgt_pos (p := (k, y)) e
    · rw [if_neg (fun z => e z.symm)]; exact dgt_neg (p := (k, y)) e
  | p :: r, hn => by
    rw [List.cons_append]
    have hk : ¬ p.1 = k := fun z => by rw [dgt_pos z] at hn; cases hn
    rw [dgt_neg hk] at hn
    have ih := dgt_snoc k j y r hn
    by_cases e : p.1 = j
    · rw [dgt_pos e, dgt_pos e, if_neg (fun z => hk (e.trans z))]
    · rw [dgt_neg e, dgt_neg e, ih]
theorem dgt_dpt (d : List (κ × β)) (k j : κ) (y : β) : dgt (dpt d k y) j = if j = k then some y else dgt d j := by
  unfold dpt
  by_cases a : (d.any fun p => decide (p.1 = k)) = true
  · rw [if_pos a, dgt_map]
    rw [dgt_any] at a
    by_cases e : j = k
    · obtain ⟨x, hx⟩ := Option.isSome_iff_exists.mp a
      rw [if_pos e, e, hx, Option.map_some, if_pos rfl]
    · rw [if_neg e]
      cases dgt d j with
      | none => rfl
      | some x => rw [Option.map_some, if_neg e]
  · rw [if_neg a]
    refine dgt_snoc k j y d ?_
    rw [dgt_any] at a
    cases q : dgt d k with
    | none => rfl
    | some x => rw [q] at a; exact (a rfl).elim
theorem dpt_new {d : List (κ × β)} {k : κ} (v : β) (h : dgt d k = none) : dpt d k v = d ++ [(k, v)] := by
  unfold dpt
  rw [dgt_any, h]
  exact if_neg Bool.false_ne_true
theorem dpt_old {d : List (κ × β)} {k : κ} {x : β} (v : β) (h : dgt d k = some x) : dpt d k v = d.map (fun p => if p.1 = k then (p.1, v) else p) := by
  unfold dpt
  rw [dgt_any, h]
  exact if_pos rfl
end
/-- what a table bears -/
def DP {κ' κ β : Type} (R : Rp β) (enc : κ → κ') (F : Hp) (kvs : List (κ' × V)) (d : List (κ × β)) : Prop := Paired (fun (p : κ' × V) (q : κ × β) => p.1 = enc q.1 ∧ R.r F p.2 q.2) kvs d
section
variable {κ' κ β : Type} [DecidableEq κ'] [DecidableEq κ] {R : Rp β} {enc : κ → κ'} {F F' : Hp} {kvs : List (κ' × V)} {d : List (κ × β)}
theorem DP.mono (e : Ex F F') (h : DP R enc F kvs d) : DP R enc F' kvs d := Paired.mapP h fun _ _ q => ⟨q.1, R.mono e q.2⟩
theorem DP.len (h : DP R enc F kvs d) : kvs.length = d.length := Paired.length h
theorem DP.val (inj : ∀ a b, enc a = enc b → a = b) (h : DP R enc F kvs d) (k : κ) : (∀ x, dgt d k = some x → ∃ v, valV kvs (enc k) = some v ∧ R.r F v x) ∧ (dgt d k = none → valV kvs (enc k) = none) := by
  have h' : Paired (fun (p : κ' × V) (q : κ × β) => p.1 = enc q.1 ∧ R.r F p.2 q.2) kvs d := h
  clear h
  induction h' with
  | nil => exact ⟨(fun x e => nomatch e), fun _ => rfl⟩
  | @cons p q ps qs r t ih =>
    by_cases e : q.1 = k
    · have e' : p.1 = enc k := by rw [r.1, e]
      rw [dgt_pos e, valV_pos e']
      exact ⟨(fun x z => by cases z; exact ⟨p.2, rfl, r.2⟩), fun z => nomatch z⟩
    · have e' : ¬ p.1 = enc k := fun z => e (inj _ _ (r.1.symm.trans z))
      rw [dgt_neg e, valV_neg e']
      exact ih
theorem DP.valO (inj : ∀ a b, enc a = enc b → a = b) (h : DP R enc F kvs d) (k : κ) : (valV kvs (enc k)).isSome = (dgt d k).isSome := by
  cases q : dgt d k with
  | none => rw [(h.val inj k).2 q]; rfl
  | some x => obtain ⟨v, e, _⟩ := (h.val inj k).1 x q; rw [e]; rfl
theorem DP.repl (inj : ∀ a b, enc a = enc b → a = b) (h : DP R enc F kvs d) (k : κ) {v : V} {x : β} (r : R.r F v x) : DP R enc F (kvs.map fun p => if p.1 = enc k then (p.1, v) else p) (d.map fun p => if p.1 = k then (p.1, x) else p) := by
  have h' : Paired (fun (p : κ' × V) (q : κ × β) => p.1 = enc q.1 ∧ R.r F p.2 q.2) kvs d := h
  show Paired (fun (p : κ' × V) (q : κ × β) => p.1 = enc q.1 ∧ R.r F p.2 q.2) _ _
  clear h
  induction h' with
  | nil => exact .nil
  | @cons p q ps qs hh t ih =>
    rw [List.map_cons, List.map_cons]
    refine .cons ?_ ih
    by_cases e : q.1 = k
    · rw [if_pos e, if_pos (by rw [hh.1, e])]; exact ⟨hh.1, r⟩
    · rw [if_neg e, if_neg (fun z => e (inj _ _ (hh.1.symm.trans z)))]; exact hh
theorem DP.put (inj : ∀ a b, enc a = enc b → a = b) (h : DP R enc F kvs d) (k : κ) {v : V} {x : β} (r : R.r F v x) : DP R enc F (putK kvs (enc k) v) (dpt d k x) := by
  have e : (kvs.any fun p => decide (p.1 = enc k)) = (d.any fun p => decide (p.1 = k)) := by rw [valV_any, dgt_any, h.valO inj]
  unfold putK dpt
  rw [e]
  by_cases q : (d.any fun p => decide (p.1 = k)) = true
  · rw [if_pos q, if_pos q]; exact h.repl inj k r
  · rw [if_neg q, if_neg q]; exact Paired.snoc h ⟨rfl, r⟩
end

/-! ### kinds of keys -/
structure Kx (κ' : Type) [DecidableEq κ'] {κ : Type} (R : Rp κ) where
  enc : κ → κ'
  inj : ∀ a b, enc a = enc b → a = b
  ho : List (κ' × V) → HO
  get : ∀ {F H : Hp} {v : V} {k : κ} {a : Addr} {kvs : List (κ' × V)}, Ex F H → R.r F v k → Rd H a (ho kvs) → DGet H a v (valV kvs (enc k))
  put : ∀ {F H : Hp} {v w : V} {k : κ} {a : Addr} {kvs : List (κ' × V)}, Ex F H → R.r F v k → H a = some (ho kvs) → kvs.length < sizeLine → DPut H a v w (upd H a (ho (putK kvs (enc k) w)))
  isd : ∀ {H : Hp} {a : Addr} {kvs : List (κ' × V)}, Rd H a (ho kvs) → IsD H a
  mt : ∀ kvs, Mut (some (ho kvs))
  ntz : ∀ kvs od, NTp (.frz od (ho kvs))
  ntp : ∀ kvs xs, ho kvs ≠ .tup xs
  plo : ∀ kvs, Pl (ho kvs)
  ntp0 : ∀ kvs, NTp (ho kvs)
  new : ∀ {X : Cx} {pos : Pos}, PE X (.Dict [] [] pos) (fun _ H Q => ∀ p, H p = none → Q (.ref p) (upd H p (ho [])))
  one : ∀ {X : Cx} {pos : Pos} {k v : Expr}, X.A.units + 1 < cLine → PE X (.Dict [some k] [v] pos) (fun σ H Q => ∀ p, H p = none → wE X k σ (upd H p (ho [])) fun x H1 => wE X v σ H1 fun y H2 => H2 p = some (ho []) ∧ ∃ F a, Ex F H2 ∧ R.r F x a ∧ Q (.ref p) (upd H2 p (ho [(enc a, y)])))
  it : Addr → Obj → List (κ' × V) → It
  iter : ∀ {X : Cx} {tg e : Expr}, PI X tg e (fun σ H P => wE X e σ H fun x H1 => ∃ d o kvs, x = .ref d ∧ H1 d = some (.frz o (ho kvs)) ∧ (kvs.length ≤ sizeLine → P (it d o kvs) H1))
  istop : ∀ {d : Addr} {o : Obj} {kvs : List (κ' × V)} {H : Hp} {i : Nat}, H d = some (.frz o (ho kvs)) → kvs.length ≤ i → (it d o kvs).stop i H
  igo : ∀ {d : Addr} {o : Obj} {kvs : List (κ' × V)} {H : Hp} {i : Nat}, H d = some (.frz o (ho kvs)) → i < kvs.length → (it d o kvs).go i H
  iyld : ∀ {d : Addr} {o : Obj} {kvs : List (κ' × V)} {H H' : Hp} {i : Nat} {x : V}, (it d o kvs).yld i H x H' → H' = H ∧ ∃ k v, kvs[i]? = some (k, v) ∧ ∀ (F : Hp) (a : κ), Ex F H → k = enc a → ∃ F', Ex F F' ∧ Ex F' H ∧ (∀ b, H b ≠ none → F' b = F b ∨ ∃ xs, H b = some (.tup xs)) ∧ R.r F' x a
  few : ∀ {X : Cx} {pins : List (Addr × Obj)} {σ : L2.St} {H : Hp} {s : Shared} {a : Addr} {kvs : List (κ' × V)}, Inv X pins σ H s → Rd H a (ho kvs) → kvs.length ≤ sizeLine
  ent : ∀ {X : Cx} {pins : List (Addr × Obj)} {σ : L2.St} {H : Hp} {s : Shared} {d : Addr} {o : Obj} {kvs : List (κ' × V)}, Inv X pins σ H s → H d = some (.frz o (ho kvs)) → (d == sysModules) = false ∧ s.heap.get? d = some o ∧ o.ExactDict ∧ ∃ (es : Array DictEntry) (ep : Nat), o.data = .dict es ep ∧ es.size = kvs.length ∧
    ∀ (i : Nat) (k : κ') (v : V), kvs[i]? = some (k, v) → ∃ (en : DictEntry) (x : V), es[i]? = some en ∧ RelV x en.key ∧ ∀ (F : Hp) (a : κ), Ex F H → k = enc a → ∃ F', Ex F F' ∧ Ex F' H ∧ (∀ b, H b ≠ none → F' b = F b ∨ ∃ xs, H b = some (.tup xs)) ∧ R.r F' x a
  len : ∀ {X : Cx}, CallR X (.builtin "len") (fun xs H Q => ∃ p kvs, xs = [.ref p] ∧ Rd H p (ho kvs) ∧ Q (.int (kvs.length : Int)) H)

theorem rd_dk {H : Hp} {a : Addr} {kvs : List (Key × V)} {v : V} {k : Key} (e : v = kV k) (h : Rd H a (.dK kvs)) : DGet H a v (valV kvs k) := .inl ⟨kvs, k, h, e, rfl⟩
theorem wE_mono {X : Cx} {e : Expr} {σ : L2.St} {H : Hp} {Q Q' : VK} (h : wE X e σ H Q) (m : ∀ v H, Q v H → Q' v H) : wE X e σ H Q' := fun pins s I => thn (h pins s I) fun u s1 ⟨v, H', I', r, q⟩ => ⟨v, H', I', r, fun b => m _ _ (q b)⟩
section
variable {X : Cx} {pos : Pos}
theorem kd_one {k v : Expr} : PE X (.Dict [some k] [v] pos) (fun σ H Q => ∀ p, H p = none → wE X k σ (upd H p (.dK [])) fun x H1 => wE X v σ H1 fun y H2 => H2 p = some (.dK []) ∧ ∃ key : Key, x = kV key ∧ Q (.ref p) (upd H2 p (.dK [(key, y)]))) := by
  have h := pe_disp (pos := pos) (pps_cons (wE_pe (X := X) (e := k)) (wE_pe (X := X) (e := v)) pps_nil) rfl rfl (fun z => by cases z) (Nat.le_of_ble_eq_true rfl)
  refine ⟨fun pins s σ H Q I q => h.run pins s σ H Q I fun p hp => ?_⟩
  show wE X k σ (upd H p (.dK [])) fun x H1 => wE X v σ H1 fun y H2 => _
  refine wE_mono (q p hp) fun x H1 q1 => wE_mono q1 fun y H2 ⟨q2, key, e, q3⟩ => ?_
  subst e
  exact ⟨q2, [(key, y)], rfl, by simp, q3⟩
theorem dt_one {k v : Expr} (hu : X.A.units + 1 < cLine) : PE X (.Dict [some k] [v] pos) (fun σ H Q => ∀ p, H p = none → wE X k σ (upd H p (.dT [])) fun x H1 => wE X v σ H1 fun y H2 => H2 p = some (.dT []) ∧ ∃ (b : Addr) (key : List Key), x = .ref b ∧ H2 b = some (.tup (key.map kV)) ∧ Q (.ref p) (upd H2 p (.dT [(key, y)]))) := by
  refine ⟨fun pins s σ H Q I q => ?_⟩
  have hn := I.hok.fresh (Nat.le_refl s.heap.objs.size)
  have I1 := I.laid (a := s.heap.objs.size) (o := .dT []) (h' := s.heap.push { cls := .type "dict", data := .dict #[] }) (t' := s.toks) (fun _ _ q => Heap.get?_push_of_some _ q) (Nat.le_refl _) (dt_empty s.heap I.big)
  rw [arm_eval_Dict, zip_pairTrees [some k] [v] X.env pos rfl rfl, dictDisplay_pairs _ (by simp [pairTrees]) (by simp [pairTrees])]
  refine wpAny_bind (wpAny_standAt (wpAny_bind ?_))
  unfold subDict
  refine wpAny_bind (wpAny_alloc ?_)
  refine wpAny_bind (wpAny_holding ?_)
  rw [if_pos (by simp [pairTrees])]
  have hp : wpAny (model X.prog X.w) X.A (evalPairs (pairTrees [some k] [v] X.env pos)) (fun vs s3 => ∃ b key y w2 H2, vs = [(.ref b, w2)] ∧ Inv X pins σ H2 s3 ∧ RelV y w2 ∧ H2 s.heap.objs.size = some (.dT []) ∧ H2 b = some (.tup (key.map kV)) ∧ Q (.ref s.heap.objs.size) (upd H2 s.heap.objs.size (.dT [(key, y)]))) X.xe
      { s with heap := s.heap.push { cls := .type "dict", data := .dict #[] } } :=
    pairTrees_cons_walk (thn (q _ hn pins _ I1) fun u s1 ⟨x, H1, J1, rx, q1⟩ => thn (q1 (hb_of J1) pins _ J1) fun w2 s2 ⟨y, H2, J2, ry, q2⟩ => pairTrees_nil_walk (by
      obtain ⟨q3, b, key, e, q4, q5⟩ := q2 (hb_of J2)
      subst e
      obtain rfl : u = Value.ref b := rx
      exact ⟨b, key, y, w2, H2, rfl, J2, ry, q3, q4, q5⟩))
  refine wpAny_bind (thn hp fun vs s3 ⟨b, key, y, w2, H2, ev, J, ry, q3, q4, q5⟩ => ?_)
  subst ev
  refine wpAny_holding ?_
  obtain ⟨z, hd, xs, rel, dd⟩ := dt_of J.hok q3
  cases rel
  rw [List.forIn_cons]
  refine wpAny_bind (wpAny_bind (wpAny_bind (wpAny_dictSet_heap (hsz := Nat.zero_le _) (show (tupleKind (mixKind X.prog X.w)).room X.A from by first | exact Nat.lt_of_succ_lt hu | exact hu) (key_of J.hok q4) dd fun h' dd' hs => wpAny_pure ?_)))
  dsimp only
  rw [List.forIn_nil]
  refine wpAny_pure (wpAny_pure (wpAny_pure (wpAny_pure ?_)))
  obtain ⟨ob, es, ep, hq, h2, h3, h4, _, h5⟩ := dd'
  refine ⟨.ref s.heap.objs.size, upd H2 s.heap.objs.size (.dT [(key, y)]), d_write J (by rw [q3]; exact True.intro) hs ⟨ob, hq⟩ ⟨?_, hd, _, ?_, ob, es, ep, hq, h2, h3, h4, h5⟩, rfl, q5⟩
  · rw [sizeLine_eq]; exact Nat.le_of_ble_eq_true rfl
  · have r := (KT.put (H := H2) (kvs := []) (xs := []) .nil key q4 ry).keeps (H' := upd H2 s.heap.objs.size (.dT [(key, y)])) fun c ys ec => by
      rw [upd_ne (ne_of ec q3 (fun z => nomatch z))]; exact ec
    exact r
end
/-- rows of ints and texts as keys -/
structure Ks {τ : Type} (T : Rs τ) where
  enc : τ → List Key
  inj : ∀ a b, enc a = enc b → a = b
  row : ∀ {F : Hp} {vs : List V} {t : τ}, T.r F vs t → vs = (enc t).map kV
  bk : ∀ (F : Hp) (t : τ), T.r F ((enc t).map kV) t
section
variable {τ : Type} {T : Rs τ}
def ks_1I : Ks (R1 RI) := ⟨fun a => [.inl a], fun a b e => by simpa using e, fun {F vs t} h => by obtain ⟨v, rfl, h2⟩ := h; rw [show v = V.int t from h2]; rfl, fun F t => ⟨_, rfl, rfl⟩⟩
def ks_1S : Ks (R1 RS) := ⟨fun a => [.inr a], fun a b e => by simpa using e, fun {F vs t} h => by obtain ⟨v, rfl, h2⟩ := h; rw [show v = V.str t from h2]; rfl, fun F t => ⟨_, rfl, rfl⟩⟩
def ks_CI (E : Ks T) : Ks (RC RI T) := ⟨fun a => .inl a.1 :: E.enc a.2, fun a b e => by
  injection e with e1 e2
  injection e1 with e1
  exact Prod.ext e1 (E.inj _ _ e2), fun {F vs t} h => by
  obtain ⟨v, ws, rfl, h2, h3⟩ := h
  rw [show v = V.int t.1 from h2, E.row h3]; rfl, fun F t => ⟨_, _, rfl, rfl, E.bk F t.2⟩⟩
def ks_CS (E : Ks T) : Ks (RC RS T) := ⟨fun a => .inr a.1 :: E.enc a.2, fun a b e => by
  injection e with e1 e2
  injection e1 with e1
  exact Prod.ext e1 (E.inj _ _ e2), fun {F vs t} h => by
  obtain ⟨v, ws, rfl, h2, h3⟩ := h
  rw [show v = V.str t.1 from h2, E.row h3]; rfl, fun F t => ⟨_, _, rfl, rfl, E.bk F t.2⟩⟩
end
theorem rd_of_dK {H : Hp} {a : Addr} {kvs : List (Key × V)} (h : H a = some (.dK kvs)) : Rd H a (.dK kvs) := .inl h
def kd_K {κ : Type} (R : Rp κ) (enc : κ → Key) (inj : ∀ a b, enc a = enc b → a = b) (to : ∀ F v k, R.r F v k → v = kV (enc k)) (bk : ∀ F k, R.r F (kV (enc k)) k) : Kx Key R where
  enc := enc
  inj := inj
  ho := .dK
  get := fun {F H v k a kvs} e r h => .inl ⟨kvs, enc k, h, to F v k r, rfl⟩
  put := fun {F H v w k a kvs} e r h l => .inl ⟨kvs, enc k, h, to F v k r, l, rfl⟩
  isd := fun h => .inl ⟨_, h⟩
  mt := fun _ => True.intro
  ntz := fun _ _ => True.intro
  ntp := fun _ _ z => nomatch z
  plo := fun _ => True.intro
  ntp0 := fun _ => True.intro
  new := pe_dnewK
  one := fun {X pos k v} hu => ⟨fun pins s σ H Q I q => kd_one.run pins s σ H Q I fun p hp => wE_mono (q p hp) fun x H1 q1 => wE_mono q1 fun y H2 ⟨q2, F, a, e, r, q3⟩ => ⟨q2, enc a, to F x a r, q3⟩⟩
  it := Itk
  iter := fun {X tg e} => ⟨fun pins s σ H R I h => (pi_keys (X := X) (tg := tg) (wE_pe (X := X) (e := e))).run pins s σ H R I fun pins s I => thn (h pins s I) fun u s1 ⟨v, H', I', r, q⟩ => ⟨v, H', I', r, fun hb => let ⟨d, o, kvs, e, h1, q'⟩ := q hb; ⟨d, o, e, .inl ⟨kvs, h1, q' (dk_rd I'.hok (.inr ⟨o, h1⟩)).1⟩⟩⟩⟩
  istop := fun h l => ⟨h, l⟩
  igo := fun h l => ⟨h, l⟩
  iyld := fun {d o kvs H H' i x} h => by
    obtain ⟨e, k, v, h1, h2⟩ := h
    refine ⟨e, k, v, h1, fun F a ex ek => ⟨F, Ex.refl F, ex, fun _ _ => .inl rfl, ?_⟩⟩
    rw [h2, ek]; exact bk F a
  few := fun I h => (dk_rd I.hok h).1
  ent := fun {X pins σ H s d o kvs} I h => by
    obtain ⟨h1, h2, h3, es, ep, vs, h4, h5, kv, o', es', hd, hx, hdt, r⟩ := I.frzK h
    rw [h2] at hd
    cases hd
    obtain ⟨rfl, _⟩ := dict_ep h4 hdt
    refine ⟨h1, h2, h3, es', ep, h4, h5, fun i k v e => ?_⟩
    obtain ⟨u, e1, e2⟩ := kv_get kv e
    have hi : i < es'.size := by rw [h5]; exact (List.getElem?_eq_some_iff.mp e).1
    obtain ⟨g1, g2⟩ := r.2.1.get? (i := i) (e := es'[i]) (k := k) (v := u) (by rw [Array.getElem?_toList]; exact Array.getElem?_eq_getElem hi) e1
    exact ⟨es'[i], kV k, Array.getElem?_eq_getElem hi, relV_key g1, fun F a ex ek => ⟨F, Ex.refl F, ex, fun _ _ => .inl rfl, by rw [ek]; exact bk F a⟩⟩
  len := by
    intro X pins s σ H xs us Q I r q
    obtain ⟨p, kvs, ex, h, q⟩ := q
    subst ex
    obtain ⟨u, eu, rx⟩ := vals1 r
    subst eu
    cases rx
    exact d_len I h fun t s' I' => ⟨.int kvs.length, H, I', ⟨t, rfl⟩, q⟩
def kd_I : Kx Key RI := kd_K RI Sum.inl (fun _ _ e => by injection e) (fun _ _ _ h => h) (fun _ _ => rfl)
def kd_S : Kx Key RS := kd_K RS Sum.inr (fun _ _ e => by injection e) (fun _ _ _ h => h) (fun _ _ => rfl)
def kd_T {τ : Type} {T : Rs τ} (E : Ks T) : Kx (List Key) (RH T) where
  enc := E.enc
  inj := E.inj
  ho := .dT
  get := fun {F H v k a kvs} e r h => by
    obtain ⟨p, vs, h1, h2, h3⟩ := r
    exact .inr ⟨kvs, E.enc k, p, h, h1, by rw [← E.row h3]; exact e _ _ h2, rfl⟩
  put := fun {F H v w k a kvs} e r h l => by
    obtain ⟨p, vs, h1, h2, h3⟩ := r
    exact .inr ⟨kvs, E.enc k, p, h, h1, by rw [← E.row h3]; exact e _ _ h2, l, rfl⟩
  isd := fun h => .inr ⟨_, h⟩
  mt := fun _ => True.intro
  ntz := fun _ _ => True.intro
  ntp := fun _ _ z => nomatch z
  plo := fun _ => True.intro
  ntp0 := fun _ => True.intro
  new := pe_dnewT
  one := fun {X pos k v} hu => ⟨fun pins s σ H Q I q => (dt_one hu).run pins s σ H Q I fun p hp => wE_mono (q p hp) fun x H1 q1 => wE_mono q1 fun y H2 ⟨q2, F, a, e, r, q3⟩ => by
    obtain ⟨b, vs, h1, h2, h3⟩ := r
    exact ⟨q2, b, E.enc a, h1, by rw [← E.row h3]; exact e _ _ h2, q3⟩⟩
  it := Itkt
  iter := fun {X tg e} => ⟨fun pins s σ H R I h => (pi_keys (X := X) (tg := tg) (wE_pe (X := X) (e := e))).run pins s σ H R I fun pins s I => thn (h pins s I) fun u s1 ⟨v, H', I', r, q⟩ => ⟨v, H', I', r, fun hb => let ⟨d, o, kvs, e, h1, q'⟩ := q hb; ⟨d, o, e, .inr ⟨kvs, h1, q' (dt_rd I'.hok (.inr ⟨o, h1⟩)).1⟩⟩⟩⟩
  istop := fun h l => ⟨h, l⟩
  igo := fun h l => ⟨h, l⟩
  iyld := fun {d o kvs H H' i x} h => by
    obtain ⟨e, k, v, q, h1, h2, h3⟩ := h
    refine ⟨e, k, v, h1, fun F a ex ek => ⟨upd F q (.tup (k.map kV)), fun b o' eb => ?_, fun b o' eb => ?_, fun b _ => ?_, q, k.map kV, h2, upd_same, ?_⟩⟩
    · by_cases z : b = q
      · subst z; have := ex b o' eb; rw [h3] at this; cases this; exact upd_same
      · rw [upd_ne z]; exact eb
    · by_cases z : b = q
      · subst z; rw [upd_same] at eb; cases eb; exact h3
      · rw [upd_ne z] at eb; exact ex b o' eb
    · by_cases z : b = q
      · subst z; exact .inr ⟨_, h3⟩
      · exact .inl (upd_ne z)
    · rw [ek]; exact E.bk _ a
  few := fun I h => (dt_rd I.hok h).1
  ent := fun {X pins σ H s d o kvs} I h => by
    obtain ⟨h1, h2, h3, es, ep, h4, h5, h6⟩ := I.frzT h
    refine ⟨h1, h2, h3, es, ep, h4, h5, fun i k v e => ?_⟩
    obtain ⟨en, q, g1, g2, g3⟩ := h6 i k v e
    refine ⟨en, .ref q, g1, g2, fun F a ex ek => ⟨upd F q (.tup (k.map kV)), fun b o' eb => ?_, fun b o' eb => ?_, fun b _ => ?_, q, k.map kV, rfl, upd_same, ?_⟩⟩
    · by_cases z : b = q
      · subst z; have := ex b o' eb; rw [g3] at this; cases this; exact upd_same
      · rw [upd_ne z]; exact eb
    · by_cases z : b = q
      · subst z; rw [upd_same] at eb; cases eb; exact g3
      · rw [upd_ne z] at eb; exact ex b o' eb
    · by_cases z : b = q
      · subst z; exact .inr ⟨_, g3⟩
      · exact .inl (upd_ne z)
    · rw [ek]; exact E.bk _ a
  len := by
    intro X pins s σ H xs us Q I r q
    obtain ⟨p, kvs, ex, h, q⟩ := q
    subst ex
    obtain ⟨u, eu, rx⟩ := vals1 r
    subst eu
    cases rx
    obtain ⟨z, hd, ys, rel, dd⟩ := dt_rd I.hok h
    have hl : kvs.length = ys.length := Paired.length rel
    refine call_len_dictH hd dd (by rw [← hl]; rw [sizeLine_eq] at z; omega) ?_
    rw [← hl]
    exact ⟨.int ((kvs.length : Nat) : Int), H, I.tok _, ⟨_, rfl⟩, q⟩
end Mz

namespace Mz
open PySem PySem.Spec PyProof.Rows L2
section
variable {κ' κ β : Type} [DecidableEq κ'] [DecidableEq κ] {Rk : Rp κ}
/-- an own dict -/
def QD (l : Addr) (KD : Kx κ' Rk) (R : Rp β) (d : List (κ × β)) : Qd := ⟨[l], fun F H => ∃ kvs, H l = some (KD.ho kvs) ∧ DP R KD.enc F kvs d, (fun {F F' H H'} e f h => by
  obtain ⟨kvs, h1, h2⟩ := h
  exact ⟨kvs, (f l (by simp)).trans h1, h2.mono e⟩), fun ⟨kvs, h, _⟩ => nt_at h (KD.plo kvs)⟩
/-- .. while it is walked -/
def QDz (l : Addr) (KD : Kx κ' Rk) (R : Rp β) (d : List (κ × β)) (z : Obj × List (κ' × V)) : Qd := ⟨[l], fun F H => H l = some (.frz z.1 (KD.ho z.2)) ∧ DP R KD.enc F z.2 d, (fun {F F' H H'} e f h =>
  ⟨(f l (by simp)).trans h.1, h.2.mono e⟩), fun h => nt_at h.1 True.intro⟩
/-- .. lent -/
def RDi (KD : Kx κ' Rk) (R : Rp β) : Rp (List (κ × β)) := ⟨fun F v d => ∃ (p : Addr) (z : Obj × List (κ' × V)), v = .ref p ∧ F p = some (.frz z.1 (KD.ho z.2)) ∧ DP R KD.enc F z.2 d, fun {F F' v d} e h => by
  obtain ⟨p, z, h1, h2, h3⟩ := h
  exact ⟨p, z, h1, e _ _ h2, h3.mono e⟩⟩
section
variable {l : Addr} {KD : Kx κ' Rk} {R : Rp β} {d : List (κ × β)} {z : Obj × List (κ' × V)}
theorem fz2_dict : Fz2 (own l (QDz l KD R d z)) (imm (RDi KD R) d) :=
  { fp0 := rfl
    to := fun F F0 H v e h q => by
      obtain ⟨rfl, h1, h2⟩ := q
      exact ⟨l, z, rfl, (h l (List.mem_singleton.mpr rfl)).trans h1, h2.mono e⟩
    ls := fun F H v a q m => by
      obtain ⟨_, h1, _⟩ := q
      cases List.mem_singleton.mp m
      exact ⟨_, h1, KD.ntz _ _⟩ }
theorem fz_dict : Fzd (own l (QDz l KD R d z)) (imm (RDi KD R) d) := fz2_dict.toFzd
theorem dp_dn {F' F2 : Hp} (hR : Dn R) (h : Less F' F2) {kvs : List (κ' × V)} (q : DP R KD.enc F' kvs d) : DP R KD.enc F2 kvs d := Paired.mapP q fun _ _ r => ⟨r.1, hR _ _ _ _ h r.2⟩
theorem ds_QD {l' : Addr} (h : Dn R) : DnS (own l (QD l' KD R d)) := fun F' F2 H v y q => by
  obtain ⟨h1, kvs, h2, h3⟩ := q
  exact ⟨h1, kvs, h2, dp_dn h y h3⟩
theorem ds_QDz {l' : Addr} (h : Dn R) : DnS (own l (QDz l' KD R d z)) := fun F' F2 H v y q => by
  obtain ⟨h1, h2, h3⟩ := q
  exact ⟨h1, h2, dp_dn h y h3⟩
theorem lock_go {W : Fx} {G : Gm} {σ : L2.St} {F H : Hp} {i : Nat} (S : Sat W G σ F H) (hG : G[i]? = some (some (own l (QD l KD R d)))) :
    ∃ kvs, H l = some (KD.ho kvs) ∧ ∀ od, Sat W (G.set i (some (own l (QDz l KD R d (od, kvs))))) σ F (upd H l (.frz od (KD.ho kvs))) := by
  obtain ⟨v, h1, rfl, kvs, h2, h3⟩ := S.sl i _ hG
  exact ⟨kvs, h2, fun od => S.mut hG (fun a ha => upd_ne fun z => ha (by rw [z]; exact List.mem_singleton.mpr rfl)) ⟨upd_same, h3⟩ fun a ha => ⟨ha, by rw [List.mem_singleton.mp ha, upd_same]; intro z; cases z⟩⟩
theorem unlock_go {W : Fx} {G : Gm} {σ : L2.St} {F H : Hp} {i : Nat} (S : Sat W G σ F H) (hG : G[i]? = some (some (own l (QDz l KD R d z)))) :
    H l = some (.frz z.1 (KD.ho z.2)) ∧ Sat W (G.set i (some (own l (QD l KD R d)))) σ F (upd H l (KD.ho z.2)) := by
  obtain ⟨v, h1, rfl, h2, h3⟩ := S.sl i _ hG
  exact ⟨h2, S.mut hG (fun a ha => upd_ne fun z => ha (by rw [z]; exact List.mem_singleton.mpr rfl)) ⟨z.2, upd_same, h3⟩ fun a ha => ⟨ha, by rw [List.mem_singleton.mp ha, upd_same]; intro z; cases z⟩⟩
end
end
theorem wT_lock {X : Cx} {e : Expr} {σ : L2.St} {H : Hp} {Q : Bool → Hp → Prop} {p : Addr} {u : HO} (hp : H p = some u) (mu : Mut (some u)) (h : ∀ od, wT X e σ (upd H p (.frz od u)) fun b H' => H' p = some (.frz od u) ∧ Q b (upd H' p u)) : wT X e σ H Q := fun pins s I => by
  obtain ⟨od, I1⟩ := I.lock hp mu
  refine thn (h od pins s I1) fun b s1 ⟨H', I', e2, q⟩ => ?_
  exact ⟨_, I'.unlock e2 (I.nofrz hp mu), q⟩
section
variable {κ' κ β : Type} [DecidableEq κ'] [DecidableEq κ] {Rk : Rp κ} {KD : Kx κ' Rk} {R : Rp β} {d : List (κ × β)}
variable {X : Cx} {W : Fx} {G G1 G2 G3 : Gm} {e a b c : Expr} {α : Type} {T : Rp α} {x : α} {i : Nat} {l : Addr} {pos p p0 : Pos} {N : Nat} {n : Str}
theorem ev_lock {G0 G01 : Obj × List (κ' × V) → Gm} (hG : G[i]? = some (some (own l (QD l KD R d)))) (hs : ∀ z, SetAt (some (own l (QDz l KD R d z))) i G (G0 z)) (h : ∀ z, Ev X W e (G0 z) T x (G01 z))
    (hz : ∀ z, (G01 z)[i]? = some (some (own l (QDz l KD R d z)))) (hs2 : ∀ z, SetAt (some (own l (QD l KD R d))) i (G01 z) G1) : Ev X W e G T x G1 := .mk fun σ F H Q S q => by
  obtain ⟨kvs, e1, k⟩ := lock_go S hG
  refine toE (pe_lock wE_pe) ⟨l, KD.ho kvs, e1, KD.mt kvs, fun od => ?_⟩
  refine (h (od, kvs)).out σ F _ _ ((hs (od, kvs)).eq ▸ k od) fun v F' H' e2 S' r => ?_
  obtain ⟨u1, u2⟩ := unlock_go S' (hz (od, kvs))
  exact ⟨u1, q v F' _ e2 ((hs2 (od, kvs)).eq ▸ u2) r⟩
theorem et_lock {k : Bool} {G0 G01 : Obj × List (κ' × V) → Gm} (hG : G[i]? = some (some (own l (QD l KD R d)))) (hs : ∀ z, SetAt (some (own l (QDz l KD R d z))) i G (G0 z)) (h : ∀ z, EvT X W e (G0 z) k (G01 z))
    (hz : ∀ z, (G01 z)[i]? = some (some (own l (QDz l KD R d z)))) (hs2 : ∀ z, SetAt (some (own l (QD l KD R d))) i (G01 z) G1) : EvT X W e G k G1 := .mk fun σ F H Q S q => by
  obtain ⟨kvs, e1, k⟩ := lock_go S hG
  refine wT_lock e1 (KD.mt kvs) fun od => ?_
  refine (h (od, kvs)).out σ F _ _ ((hs (od, kvs)).eq ▸ k od) fun F' H' e2 S' => ?_
  obtain ⟨u1, u2⟩ := unlock_go S' (hz (od, kvs))
  exact ⟨u1, q F' _ e2 ((hs2 (od, kvs)).eq ▸ u2)⟩
theorem eo_lock {O : Addr → Qd} {G0 G01 : Obj × List (κ' × V) → Gm} (hG : G[i]? = some (some (own l (QD l KD R d)))) (hs : ∀ z, SetAt (some (own l (QDz l KD R d z))) i G (G0 z)) (h : ∀ z, EvO X W e (G0 z) O (G01 z))
    (hz : ∀ z, (G01 z)[i]? = some (some (own l (QDz l KD R d z)))) (hs2 : ∀ z, SetAt (some (own l (QD l KD R d))) i (G01 z) G1) : EvO X W e G O G1 := .mk fun σ F H Q S q => by
  obtain ⟨kvs, e1, k⟩ := lock_go S hG
  refine toE (pe_lock wE_pe) ⟨l, KD.ho kvs, e1, KD.mt kvs, fun od => ?_⟩
  refine (h (od, kvs)).out σ F _ _ ((hs (od, kvs)).eq ▸ k od) fun l2 F' H' e2 S' n1 => ?_
  obtain ⟨u1, u2⟩ := unlock_go S' (hz (od, kvs))
  have ne : ∀ a ∈ (O l2).fp, a ≠ l := fun a ha y => (n1.2 a ha).2.2.2 i _ (hz (od, kvs)) (by rw [y]; exact List.mem_singleton.mpr rfl)
  refine ⟨u1, q l2 F' _ e2 ((hs2 (od, kvs)).eq ▸ u2) ⟨(O l2).st (Ex.refl F') (fun a ha => upd_ne (ne a ha)) n1.1, fun a ha => ?_⟩⟩
  obtain ⟨c1, c2, c3, c4⟩ := n1.2 a ha
  refine ⟨c1, c2, by rw [upd_ne (ne a ha)]; exact c3, fun j P hj hm => ?_⟩
  rw [(hs2 (od, kvs)).eq] at hj
  rcases get_set hj with ⟨rfl, e3⟩ | ⟨nj, e3⟩
  · cases Option.some.inj e3
    exact ne a ha (List.mem_singleton.mp hm)
  · exact c4 j P e3 hm

/-! ### reading -/
theorem ev_dget {k : κ} {x : β} (h : dgt d k = some x) (hr : Room N X.A) (ha : Ev X W a G (RDi KD R) d G1) (hb : Ev X W b G1 Rk k G2) (hs : NoSl b := by exact fun _ _ => rfl) : Ev X W (.Subscript a b pos) G R x G2 := .mk fun σ F H Q S q =>
  toE (pe_dget (hu_of hr) wE_pe wE_pe hs) (two ha hb S fun v u F' H' e S' r1 r2 => by
    obtain ⟨p, z, rfl, h2, h3⟩ := r1
    obtain ⟨w, h4, h5⟩ := (h3.val KD.inj k).1 x h
    refine ⟨p, w, rfl, ?_, q w F' H' e S' h5⟩
    rw [← h4]
    exact KD.get S'.ex r2 (.inr ⟨z.1, S'.ex _ _ h2⟩))
theorem ev_dget2 {k : κ} {x : β} {apos cpos : Pos} (hr : Room N X.A) (ha : Ev X W a G (RDi KD R) d G1) (hb : Ev X W b G1 Rk k G2) (hc : Ev X W c G2 R x G3) (m : M2 X a "get" apos b c cpos) : Ev X W (.Call (.Attribute a "get" apos) [b, c] [] cpos) G R ((dgt d k).getD x) G3 := .mk fun σ F H Q S q =>
  toE (pe_dget2 (hu_of hr) wE_pe wE_pe wE_pe m) (ha.out σ F H _ S fun v F1 H1 e1 S1 r1 => by
    obtain ⟨p, z, rfl, h2, h3⟩ := r1
    refine ⟨p, rfl, KD.isd (.inr ⟨z.1, S1.ex _ _ h2⟩), hb.out σ F1 H1 _ S1 fun u F2 H2 e2 S2 r2 => hc.out σ F2 H2 _ S2 fun w F3 H3 e3 S3 r3 => ?_⟩
    have e23 := e2.trans e3
    have g := KD.get S3.ex (Rk.mono e3 r2) (kvs := z.2) (.inr ⟨z.1, S3.ex _ _ (e23 _ _ h2)⟩)
    refine ⟨_, g, q _ F3 H3 (e1.trans e23) S3 ?_⟩
    have v3 := (h3.mono e23).val KD.inj k
    cases y : dgt d k with
    | none => rw [v3.2 y]; exact r3
    | some x' => obtain ⟨w', h4, h5⟩ := v3.1 x' y; rw [h4]; exact h5)
theorem op_dinR (hr : Room N X.A) : OpR X (compareOp .In) (fun y x H Q => ∃ a o, x = .ref a ∧ DGet H a y o ∧ Q (.bl o.isSome) H) := fun pins s σ H y x u w Q I ry rx ⟨a, o, ex, g, q⟩ => by
  subst ex
  obtain rfl : w = Value.ref a := rx
  exact d_in (hu_of hr) I g ry fun s3 I3 => ⟨.bl o.isSome, H, I3, rfl, q⟩
theorem op_dninR (hr : Room N X.A) : OpR X (compareOp .NotIn) (fun y x H Q => ∃ a o, x = .ref a ∧ DGet H a y o ∧ Q (.bl (!o.isSome)) H) := fun pins s σ H y x u w Q I ry rx ⟨a, o, ex, g, q⟩ => by
  subst ex
  obtain rfl : w = Value.ref a := rx
  exact d_notIn (hu_of hr) I g ry fun s3 I3 => ⟨.bl (!o.isSome), H, I3, rfl, q⟩
theorem cmp_inD {k : κ} (hr : Room N X.A) : Cmp X .In Rk k (RDi KD R) d (dgt d k).isSome := ⟨_, op_dinR hr, fun F H v u Q e r1 r2 q => by
  obtain ⟨p, z, rfl, h2, h3⟩ := r2
  refine ⟨p, _, rfl, KD.get e r1 (.inr ⟨z.1, e _ _ h2⟩), ?_⟩
  rw [h3.valO KD.inj]
  exact q _ rfl⟩
theorem cmp_ninD {k : κ} (hr : Room N X.A) : Cmp X .NotIn Rk k (RDi KD R) d (!(dgt d k).isSome) := ⟨_, op_dninR hr, fun F H v u Q e r1 r2 q => by
  obtain ⟨p, z, rfl, h2, h3⟩ := r2
  refine ⟨p, _, rfl, KD.get e r1 (.inr ⟨z.1, e _ _ h2⟩), ?_⟩
  rw [h3.valO KD.inj]
  exact q _ rfl⟩
theorem ev_lenD (hm : X.mg "len" = none) (ha : Ev X W a G (RDi KD R) d G1) (hg : Gl X "len" := by rfl) (hs : starEach [a] X.env = (false, eval a X.env) :: starEach [] X.env := by rfl) : Ev X W (.Call (.Name "len" p) [a] [] pos) G RI (d.length : Int) G1 :=
  ev_cb1 KD.len hm PySem.boot_len ha (fun F H v Q e r q => by
    obtain ⟨p, z, rfl, h2, h3⟩ := r
    exact ⟨p, z.2, rfl, .inr ⟨z.1, e _ _ h2⟩, by rw [h3.len]; exact q _ rfl⟩) hg (by decide) (by decide) hs
/-- the keys, walked -/
theorem src_keysD {tg : Expr} (h : Ev X W e G (RDi KD R) d G1) : Src X W tg e G Rk (d.map (·.1)) G1 := ⟨_, KD.iter, fun σ F H P S q => h.out σ F H _ S fun v F1 H1 e1 S1 r1 => by
  obtain ⟨p, z, rfl, h2, h3⟩ := r1
  have at' : ∀ {F H : Hp}, Ex F1 F → Ex F H → H p = some (.frz z.1 (KD.ho z.2)) := fun a b => b _ _ (a _ _ h2)
  refine ⟨p, z.1, z.2, rfl, S1.ex _ _ h2, fun hl => q _ F1 H1 e1 S1 ⟨fun i F H a b hi => KD.istop (at' a b) (by rw [h3.len]; rw [List.length_map] at hi; exact hi), fun F H a b _ => by rw [List.length_map, ← h3.len]; exact hl, fun i x F H a b hx => KD.igo (at' a b) (by rw [h3.len]; have := (List.getElem?_eq_some_iff.mp hx).1; rw [List.length_map] at this; exact this), fun i x F H v H' a b hx hy => ?_⟩⟩
  obtain ⟨e3, k, w, h4, h5⟩ := KD.iyld hy
  subst e3
  rw [List.getElem?_map] at hx
  obtain ⟨y, hy1, hy2⟩ := Option.map_eq_some_iff.mp hx
  obtain ⟨pw, h6, h7, _⟩ := p2_get h3 hy1
  rw [h4] at h6
  cases Option.some.inj h6
  subst hy2
  obtain ⟨F', f1, f2, f3, f4⟩ := h5 F y.1 b h7
  exact ⟨F', f1, f2, Ex.refl _, f3, f4⟩⟩

/-! ### making, writing -/
theorem eo_dnew : EvO X W (.Dict [] [] pos) G (fun l => QD l KD R ([] : List (κ × β))) G := .mk fun σ F H Q S q => toE KD.new fun p hp => q p F _ (Ex.refl F) (S.newO hp) ⟨⟨[], upd_same, .nil⟩, fun a ha => by
  have e : a = p := List.mem_singleton.mp ha
  subst e
  exact ⟨S.ex.back hp, S.wx.back hp, (by rw [upd_same]; intro z; cases z), fun j P hj hm => (S.fr j P a hj hm).2.2 hp⟩⟩
theorem eo_done {k : κ} {x : β} (hr : Room N X.A) (hk : ∀ W, Ev X W a G Rk k G1) (hv : ∀ W, Ev X W b G1 R x G2) : EvO X W (.Dict [some a] [b] pos) G (fun l => QD l KD R [(k, x)]) G2 := .mk fun σ F H Q S q =>
  toE (KD.one (hu_of hr)) fun p hp => (hk _).out σ F _ _ (S.put (F := F) (o := KD.ho []) hp) fun v F1 H1 e1 S1 r1 => (hv _).out σ F1 H1 _ S1 fun u F2 H2 e2 S2 r2 => by
    obtain ⟨u1, u2, u3, u4⟩ := (S2.reput (o' := KD.ho [(KD.enc k, u)]) (KD.ntp [])).unput S.f0 (S.wx.back hp) (KD.ntp _)
    refine ⟨(S2.unput S.f0 (S.wx.back hp) (KD.ntp [])).2.1, F2, k, S2.ex, Rk.mono e2 r1, q p F2 _ (e1.trans e2) u1 ⟨⟨_, u2, .cons ⟨rfl, r2⟩ .nil⟩, fun a ha => ?_⟩⟩
    have e : a = p := List.mem_singleton.mp ha
    subst e
    exact ⟨u3, S.wx.back hp, (by rw [u2]; intro z; cases z), u4⟩
theorem size16d {n : Nat} (h : n < 16000000) : n < sizeLine := Nat.lt_of_lt_of_le h (by decide)
theorem s_dput {k : κ} {x : β} {d' : List (κ × β)} {rest : List Stmt} {D : Ends} {spos : Pos} (hO : dpo d k x = some d') (hr : Room N X.A) (hN : X.N[i]? = some n) (hv : Vis X.env.scope n) (he : Ev X W e G R x G1) (hG1 : G1[i]? = some (some (own l (QD l KD R d)))) (hb : Ev X W b G1 Rk k G2)
    (hG2 : G2[i]? = some (some (own l (QD l KD R d)))) (q : Tr W (G2.set i (some (own l (QD l KD R d')))) (wS X rest D)) (hd : (n == ("__debug__" : Str)) = false := by decide) (hcd : (n == ("__classdict__" : Str)) = false := by decide)
    (hs : swapsWith e (some (.Subscript (.Name n p0) b pos)) spos.line X.env = pure false := by rfl) : Tr W G (wS X (.Assign [.Subscript (.Name n p0) b pos] e spos :: rest) D) := .mk fun σ F H S => by
  unfold dpo at hO
  split at hO
  · rename_i hl
    cases hO
    refine toS (pss_cons (ps_dput (hu_of hr) (pe_var hN hv hd hcd) wE_pe wE_pe hs) wS_ps) (he.out σ F H _ S fun v F1 H1 e1 S1 r1 => ?_)
    obtain ⟨v', k1, rfl, _⟩ := S1.sl i _ hG1
    refine ⟨.ref l, k1, hb.out σ F1 H1 _ S1 fun u F2 H2 e2 S2 r2 => ?_⟩
    obtain ⟨v2, _, _, kvs, k3, k4⟩ := S2.sl i _ hG2
    refine ⟨l, _, rfl, KD.put S2.ex r2 k3 (by rw [k4.len]; exact size16d hl), ?_⟩
    exact q.out σ F2 _ (S2.mut hG2 (fun a ha => upd_ne fun z => ha (by rw [z]; exact List.mem_singleton.mpr rfl)) ⟨_, upd_same, k4.put KD.inj k (R.mono e2 r1)⟩ fun a ha => ⟨ha, by rw [List.mem_singleton.mp ha, upd_same]; intro z; cases z⟩)
  · cases hO
end
end Mz

namespace Mz
open PySem PySem.Spec PyProof.Rows L2
/-! ### defs that tell a new dict -/
/-- a new thing of any kind back -/
def OwnQ {τ : Type} (O : Addr → τ → Qd) : τ → Sd → Prop := fun q P => ∃ l, P = own l (O l q)
section
variable {X : Cx} {W : Fx} {G G1 G2 : Gm} {a e : Expr} {es : List Expr} {pos p : Pos} {n : Str} {k : Nat} {f : Addr} {fd : FuncData} {ps : List Str} {sp : Sp} {Ps : List Sd} {τ : Type} {r : τ} {O : Addr → τ → Qd} {rest : List Stmt} {D : Ends}
theorem eo_callQ (Fn : FnOk X.prog X.w X.K X.mg X.base CX0 k f fd ps sp) (hr : Room k X.A) (hm : X.mg n = some (.ref f)) (hk : PySem.W.keepIn X.K (.ref f) = true) (hb : Binds X.K fd ps []) (ha : EvA X W (e :: es) G Ps G1)
    (hsp : ∀ vs H (Qk : VK) W' F', W'.tb = W.tb → Sat W' (Ps.map some) (vs.map some) F' H → (∀ v H', Rt W' (OwnQ O) (fun _ => []) r v H' → Qk v H') → sp vs H Qk E0) (hg : Gl X n := by rfl)
    (hdb : (n == ("__debug__" : Str)) = false := by decide) (he : starEach (e :: es) X.env = (false, eval e X.env) :: starEach es X.env := by rfl) (hpl : (backTo pos (starEach es X.env)).any (·.1) = false := by rfl) :
    EvO X W (.Call (.Name n p) (e :: es) [] pos) G (fun l => O l r) G1 := .mk fun σ F H Q S q =>
  toE (pe_call Fn hr hg hm hk hb .nil pass0 wA_pa hdb he hpl) (ha.out σ F H _ S fun vs F1 H1 e1 S1 r1 => by
    rw [List.append_nil]
    refine hsp vs H1 Q (W.rest F1 H1) F1 rfl (S1.args r1) fun v H' hv => ?_
    obtain ⟨P, F', vs', ⟨l, rfl⟩, S'⟩ := hv
    obtain ⟨w, h1, h2, h3⟩ := S'.sl 0 _ rfl
    cases Option.some.inj (Option.some.inj h1)
    subst h2
    exact q l F' H' (e1.trans S'.f0) (S1.ret0 S') ⟨h3, fun a ha => ret_new S1 S' (i := 0) rfl ha⟩)
theorem s_retEQ {ρ : Type} {Outs : ρ → List Sd} {q : ρ} {x : τ} {Or : ρ → Sd → Prop} (hr : ∀ v H, Rt W Or Outs q v H → D.rt v H) (he : EvO X W e G (fun l => O l x) G1) (ho : Outs q = []) (hO : ∀ l, Or q (own l (O l x))) : Tr W G (wS X (.Return (some e) pos :: rest) D) := .mk fun σ F H S =>
  toS (pss_cons (ps_ret wE_pe) wS_ps) (he.out σ F H _ S fun l F' H' e1 S' n1 => by
    refine hr _ H' ⟨own l (O l x), F', [], hO l, ?_⟩
    rw [ho]
    refine ⟨rfl, S'.ex, S'.f0, S'.wx, S'.wf, fun j P hj => ?_, fun j k P Q a hj hk m1 m2 => ?_, fun j P a hj m => ?_, S'.tt.go S'.tt.w0 S'.tt.F0 (fun p hp j P hj m => ?_) (fun p _ o h => h) fun c q h => h⟩
    · cases j with
      | zero => cases Option.some.inj (Option.some.inj hj); exact ⟨_, rfl, rfl, n1.1⟩
      | succ j => cases j <;> exact nomatch hj
    · cases j with
      | zero =>
        cases k with
        | zero => rfl
        | succ k => cases k <;> exact nomatch hk
      | succ j => cases j <;> exact nomatch hj
    · cases j with
      | zero =>
        cases Option.some.inj (Option.some.inj hj)
        obtain ⟨c1, c2, c3, _⟩ := n1.2 a m
        exact ⟨c1, c2, c3⟩
      | succ j => cases j <;> exact nomatch hj
    · cases j with
      | zero =>
        cases Option.some.inj (Option.some.inj hj)
        obtain ⟨ps, z⟩ := S'.tt.H0 p hp
        exact Sd.nB (P := own l (O l x)) (v := .ref l) ⟨rfl, n1.1⟩ _ m ps z
      | succ j => cases j <;> exact nomatch hj)
end

/-! ### for k in d, d an own dict -/
section
variable {κ' κ β : Type} [DecidableEq κ'] [DecidableEq κ] {Rk : Rp κ} {KD : Kx κ' Rk} {R : Rp β} {d : List (κ × β)}
variable {X : Cx} {W : Fx} {G G1 G2 G3 : Gm} {i : Nat} {l : Addr} {pos p p0 : Pos} {n : Str} {D : Ends} {body rest : List Stmt} {tg : Expr} {S τ ρ : Type} {r : τ}
theorem for_coreG {J : It} {H1 : Hp} {σ : L2.St} {g : TG} {tb : TS} (n : Nat) (P : Nat → L2.St → Hp → Prop) (hstop : ∀ σ H, P n σ H → J.stop n H) (hgo : ∀ i σ H, i < n → P i σ H → J.go i H) (h0 : P 0 σ H1)
    (hs : ∀ i σ H, i < n → P i σ H → ∀ v H', J.yld i H v H' → g v σ H' fun σ2 H2 => tb { D with nx := P (i + 1), ct := P (i + 1), bk := D.nx } σ2 H2) (hd : ∀ σ H, P n σ H → D.nx σ H) :
    ∃ W : Nat → Nat → L2.St → Hp → Prop, (∃ m, W 0 m σ H1) ∧ ∀ i m σ H, W i m σ H →
      (J.stop i H ∧ D.nx σ H) ∨ (J.go i H ∧ ∃ N : L2.St → Hp → Prop, (∀ σ' H', N σ' H' → ∃ m', m' < m ∧ W (i + 1) m' σ' H') ∧ ∀ x H', J.yld i H x H' → g x σ H' fun σ2 H2 => tb { D with nx := N, ct := N, bk := D.nx } σ2 H2) := by
  refine ⟨fun i m σ H => m = n - i ∧ i ≤ n ∧ P i σ H, ⟨n, by simp, Nat.zero_le _, h0⟩, ?_⟩
  rintro i m σ H ⟨rfl, hi, p⟩
  by_cases hlt : i < n
  · exact .inr ⟨hgo i σ H hlt p, P (i + 1), fun σ' H' p' => ⟨n - (i + 1), by omega, rfl, hlt, p'⟩, hs i σ H hlt p⟩
  · have e : i = n := by omega
    subst e
    exact .inl ⟨hstop σ H p, hd σ H p⟩
/-- the next key, told by the walk -/
theorem yldD {z : Obj × List (κ' × V)} {j : Nat} {σ : L2.St} {F H H' : Hp} {v : V} {a : κ} (S : Sat W G σ F H) (hG : G[i]? = some (some (own l (QDz l KD R d z)))) (ha : (d.map (·.1))[j]? = some a) (hy : (KD.it l z.1 z.2).yld j H v H') :
    H' = H ∧ ∃ F', Ex F F' ∧ Sat W G σ F' H ∧ Rk.r F' v a := by
  obtain ⟨w, _, _, h2, h3⟩ := S.sl i _ hG
  obtain ⟨e3, k, u, h4, h5⟩ := KD.iyld hy
  rw [List.getElem?_map] at ha
  obtain ⟨y, hy1, hy2⟩ := Option.map_eq_some_iff.mp ha
  obtain ⟨pw, h6, h7, _⟩ := p2_get h3 hy1
  rw [h4] at h6
  cases Option.some.inj h6
  subst hy2
  obtain ⟨F', f1, f2, f3, f4⟩ := h5 F y.1 S.ex h7
  exact ⟨e3, F', f1, S.stepT f1 f2 (Ex.refl _) f3, f4⟩
theorem walkD {z : Obj × List (κ' × V)} {σ : L2.St} {F H : Hp} (S : Sat W G σ F H) (hG : G[i]? = some (some (own l (QDz l KD R d z)))) : H l = some (.frz z.1 (KD.ho z.2)) ∧ z.2.length = (d.map (·.1)).length := by
  obtain ⟨w, _, _, h2, h3⟩ := S.sl i _ hG
  exact ⟨h2, by rw [List.length_map]; exact h3.len⟩
theorem s_forK {k : S → Option τ} {f : κ → S → Option S} (s0 : S) (Gs : Obj × List (κ' × V) → S → Gm) (hN : X.N[i]? = some n) (hv : Vis X.env.scope n) (hG : G[i]? = some (some (own l (QD l KD R d))))
    {G' : Obj × List (κ' × V) → Gm} (hs' : ∀ z, SetAt (some (own l (QDz l KD R d z))) i G (G' z)) (h0 : ∀ z, Wk (Gs z s0) (G' z)) (hz : ∀ z s, (Gs z s)[i]? = some (some (own l (QDz l KD R d z)))) (hm : (lp f (d.map (·.1)) s0).bind k = some r)
    (bd : ∀ W', W.le W' → ∀ z a s s', a ∈ d.map (·.1) → f a s = some s' → ∃ ss G2, Tg X W' tg ss (Gs z s) Rk a G2 ∧ Tr W' G2 (wS X body { D with nx := At W' (Gs z s'), ct := At W' (Gs z s'), bk := fun _ _ => False, rt := fun _ _ => False }))
    (nx : ∀ z s, k s = some r → Tr W ((Gs z s).set i (some (own l (QD l KD R d)))) (wS X rest D)) (hd : (n == ("__debug__" : Str)) = false := by decide) (hcd : (n == ("__classdict__" : Str)) = false := by decide) (hx : X.xe = fun _ _ => False := by rfl) (hc : X.calm = true := by rfl)
    (hs : ∀ x, foldedSetIterable (.Name n p0) X.env x = pure x := by intro _; rfl) : Tr W G (wS X (.For tg (.Name n p0) body [] pos :: rest) D) := by
  obtain ⟨sE, e1, e2⟩ := Option.bind_eq_some_iff.mp hm
  obtain ⟨z, z0, z1, z2⟩ := lp_get e1
  refine .mk fun σ F H S => ?_
  obtain ⟨v0, hv0, ev0, _⟩ := S.sl i _ hG
  subst ev0
  obtain ⟨kvs, hl, lk⟩ := lock_go S hG
  refine toS (pss_cons (ps_lock (ps_for (xm hx) hc KD.iter wG_pg (wS_ps (st := body)) hs)) wS_ps) ⟨l, KD.ho kvs, hl, KD.mt kvs, fun od => ?_⟩
  refine toE (pe_var hN hv hd hcd) ⟨.ref l, hv0, l, od, kvs, rfl, upd_same, fun _ => ?_⟩
  refine for_coreG (d.map (·.1)).length (fun j σ H => ∃ F, Sat W (Gs (od, kvs) (z j)) σ F H) ?_ ?_ ⟨F, by rw [z0]; exact ((hs' (od, kvs)).eq ▸ lk od : Sat W (G' (od, kvs)) σ F _).wk (h0 (od, kvs))⟩ ?_ ?_
  · rintro σ2 H2 ⟨F2, S2⟩
    obtain ⟨w1, w2⟩ := walkD S2 (hz (od, kvs) _)
    exact KD.istop w1 (Nat.le_of_eq w2)
  · rintro j σ2 H2 hj ⟨F2, S2⟩
    obtain ⟨w1, w2⟩ := walkD S2 (hz (od, kvs) _)
    exact KD.igo w1 (by rw [show kvs.length = _ from w2]; exact hj)
  · rintro j σ2 H2 hj ⟨F2, S2⟩ v H' hy
    obtain ⟨a, ha⟩ : ∃ a, (d.map (·.1))[j]? = some a := ⟨_, List.getElem?_eq_getElem hj⟩
    obtain ⟨rfl, F3, g1, S3, g5⟩ := yldD S2 (hz (od, kvs) _) ha hy
    have le : W.le ⟨W.w, F3, W.tb⟩ := ⟨rfl, S3.f0, rfl⟩
    obtain ⟨ss, G2, t1, t2⟩ := bd ⟨W.w, F3, W.tb⟩ le (od, kvs) a (z j) (z (j + 1)) (List.mem_of_getElem? ha) (z2 j a ha)
    refine t1.out σ2 F3 H' v _ S3.pin g5 fun σ3 _ S4 => ?_
    have h5 := t2.out σ3 F3 H' S4
    refine fun pins s1 I => thn (h5 pins s1 I) fun fl s2 hf => ?_
    cases fl with
    | next =>
      obtain ⟨σ', H5, I5, F5, S5⟩ := hf
      exact ⟨σ', H5, I5, F5, S5.le le⟩
    | cont =>
      obtain ⟨σ', H5, I5, F5, S5⟩ := hf
      exact ⟨σ', H5, I5, F5, S5.le le⟩
    | brk =>
      obtain ⟨σ', H5, I5, q⟩ := hf
      exact q.elim
    | ret v =>
      obtain ⟨_, _, _, _, _, q⟩ := hf
      exact q.elim
  · rintro σ2 H2 ⟨F2, S2⟩
    obtain ⟨u1, u2⟩ := unlock_go S2 (hz (od, kvs) _)
    exact ⟨u1, (nx (od, kvs) (z (d.map (·.1)).length) (by rw [z1]; exact e2)).out σ2 F2 _ u2⟩
theorem Sat.drop1 {P Q : Option Sd} {A : Gm} {u w : Option V} {vs : L2.St} {F H : Hp} (S : Sat W (P :: Q :: A) (u :: w :: vs) F H) : Sat W (P :: A) (u :: vs) F H := by
  have up : ∀ j : Nat, (P :: A)[j]? = (P :: Q :: A)[if j = 0 then 0 else j + 1]? ∧ (u :: vs)[j]? = (u :: w :: vs)[if j = 0 then 0 else j + 1]? := fun j => by
    cases j with
    | zero => exact ⟨rfl, rfl⟩
    | succ j => rw [if_neg (by omega)]; exact ⟨rfl, rfl⟩
  refine ⟨by have := S.len; simp at this ⊢; omega, S.ex, S.f0, S.wx, S.wf, fun j T h => ?_, fun j k T U a h1 h2 m1 m2 => ?_, fun j T a h m => ?_, S.tt.go S.tt.w0 S.tt.F0 (fun p hp j T h m => by
    rw [(up j).1] at h
    exact S.tt.G0 p hp _ T h m) (fun p _ o h => h) fun c q h => h⟩
  · rw [(up j).1] at h
    obtain ⟨v, k1, k2⟩ := S.sl _ T h
    exact ⟨v, by rw [(up j).2]; exact k1, k2⟩
  · rw [(up j).1] at h1
    rw [(up k).1] at h2
    have := S.dj _ _ T U a h1 h2 m1 m2
    by_cases z : j = 0 <;> by_cases z' : k = 0 <;> simp only [z, z', if_true, if_false] at this <;> omega
  · rw [(up j).1] at h
    exact S.fr _ T a h m
theorem rt_unlock {z : Obj × List (κ' × V)} {Or : ρ → Sd → Prop} {Outs : ρ → List Sd} {q : ρ} {v : V} {H : Hp} (h : Rt W Or (fun q => own l (QDz l KD R d z) :: Outs q) q v H) : H l = some (.frz z.1 (KD.ho z.2)) ∧ Rt W Or Outs q v (upd H l (KD.ho z.2)) := by
  obtain ⟨P, F, vs', h1, S⟩ := h
  obtain ⟨u1, u2⟩ := unlock_go (i := 1) S rfl
  refine ⟨u1, P, F, ?_⟩
  cases vs' with
  | nil => have := S.len; simp at this
  | cons w vs' => exact ⟨vs', h1, u2.drop1⟩
theorem s_forKC {k : S → Option τ} {f : κ → S → Option (Ctl S ρ)} {ro : ρ → Option τ} {Or : ρ → Sd → Prop} {Outs : ρ → List Sd} (s0 : S) (Gs : Obj × List (κ' × V) → S → Gm) (hN : X.N[i]? = some n) (hv : Vis X.env.scope n) (hG : G[i]? = some (some (own l (QD l KD R d))))
    {G' : Obj × List (κ' × V) → Gm} (hs' : ∀ z, SetAt (some (own l (QDz l KD R d z))) i G (G' z)) (h0 : ∀ z, Wk (Gs z s0) (G' z)) (hz : ∀ z s, (Gs z s)[i]? = some (some (own l (QDz l KD R d z)))) (hm : ((lpC f (d.map (·.1)) s0).bind fun c => c.on k ro) = some r)
    (bd : ∀ W', W.le W' → ∀ z a s c, a ∈ d.map (·.1) → f a s = some c → ∃ ss G2, Tg X W' tg ss (Gs z s) Rk a G2 ∧ Tr W' G2 (wS X body (LD W' (Gs z) (Rt W Or (fun q => own l (QDz l KD R d z) :: Outs q)) c)))
    (nx : ∀ z s, k s = some r → Tr W ((Gs z s).set i (some (own l (QD l KD R d)))) (wS X rest D)) (hq : ∀ q, ro q = some r → ∀ v H, Rt W Or Outs q v H → D.rt v H) (hd : (n == ("__debug__" : Str)) = false := by decide) (hcd : (n == ("__classdict__" : Str)) = false := by decide) (hx : X.xe = fun _ _ => False := by rfl) (hc : X.calm = true := by rfl)
    (hs : ∀ x, foldedSetIterable (.Name n p0) X.env x = pure x := by intro _; rfl) : Tr W G (wS X (.For tg (.Name n p0) body [] pos :: rest) D) := by
  obtain ⟨cE, e1, e2⟩ := Option.bind_eq_some_iff.mp hm
  obtain ⟨nn, z, z0, zn, z1, z2⟩ := lpC_get e1
  refine .mk fun σ F H S => ?_
  obtain ⟨v0, hv0, ev0, _⟩ := S.sl i _ hG
  subst ev0
  obtain ⟨kvs, hl, lk⟩ := lock_go S hG
  refine toS (pss_cons (ps_lock (ps_for (xm hx) hc KD.iter wG_pg (wS_ps (st := body)) hs)) wS_ps) ⟨l, KD.ho kvs, hl, KD.mt kvs, fun od => ?_⟩
  refine toE (pe_var hN hv hd hcd) ⟨.ref l, hv0, l, od, kvs, rfl, upd_same, fun _ => ?_⟩
  refine for_coreG (d.map (·.1)).length (fun j σ H => j ≤ nn ∧ ∃ F, Sat W (Gs (od, kvs) (z j)) σ F H) ?_ ?_ ⟨Nat.zero_le _, F, by rw [z0]; exact ((hs' (od, kvs)).eq ▸ lk od : Sat W (G' (od, kvs)) σ F _).wk (h0 (od, kvs))⟩ ?_ ?_
  · rintro σ2 H2 ⟨_, F2, S2⟩
    obtain ⟨w1, w2⟩ := walkD S2 (hz (od, kvs) _)
    exact KD.istop w1 (Nat.le_of_eq w2)
  · rintro j σ2 H2 hj ⟨_, F2, S2⟩
    obtain ⟨w1, w2⟩ := walkD S2 (hz (od, kvs) _)
    exact KD.igo w1 (by rw [show kvs.length = _ from w2]; exact hj)
  · rintro j σ2 H2 hj ⟨hi, F2, S2⟩ v H' hy
    obtain ⟨a, ha⟩ : ∃ a, (d.map (·.1))[j]? = some a := ⟨_, List.getElem?_eq_getElem hj⟩
    obtain ⟨rfl, F3, g1, S3, g5⟩ := yldD S2 (hz (od, kvs) _) ha hy
    have le : W.le ⟨W.w, F3, W.tb⟩ := ⟨rfl, S3.f0, rfl⟩
    have hfa : ∃ c, f a (z j) = some c ∧ (∀ s, c = .next s → j < nn ∧ s = z (j + 1)) ∧ (∀ s, c = .brk s → cE = .next s) ∧ ∀ q, c = .ret q → cE = .ret q := by
      by_cases hlt : j < nn
      · exact ⟨_, z1 j a hlt ha, (fun s e => ⟨hlt, by cases e; rfl⟩), (fun s e => nomatch e), (fun q e => nomatch e)⟩
      · have e : j = nn := by omega
        subst e
        rcases z2 with ⟨q1, q2⟩ | ⟨b, q1, q2⟩
        · rw [q1] at ha
          simp at ha
        · rw [q1] at ha
          cases Option.some.inj ha
          rcases q2 with ⟨s', q2, q3⟩ | ⟨q, q2, q3⟩
          · exact ⟨_, q2, (fun s e => nomatch e), (fun s e => by cases e; exact q3), (fun q e => nomatch e)⟩
          · exact ⟨_, q2, (fun s e => nomatch e), (fun s e => nomatch e), (fun q e => by cases e; exact q3)⟩
    obtain ⟨c, hf1, hf2, hf3, hf4⟩ := hfa
    obtain ⟨ss, G2, t1, t2⟩ := bd ⟨W.w, F3, W.tb⟩ le (od, kvs) a (z j) c (List.mem_of_getElem? ha) hf1
    refine t1.out σ2 F3 H' v _ S3.pin g5 fun σ3 _ S4 => ?_
    have h5 := t2.out σ3 F3 H' S4
    refine fun pins s1 I => thn (h5 pins s1 I) fun fl s2 hf => ?_
    cases fl with
    | next =>
      obtain ⟨σ', H5, I5, s, es, F5, S5⟩ := hf
      obtain ⟨l1, l2⟩ := hf2 s es
      subst l2
      exact ⟨σ', H5, I5, l1, F5, S5.le le⟩
    | cont =>
      obtain ⟨σ', H5, I5, s, es, F5, S5⟩ := hf
      obtain ⟨l1, l2⟩ := hf2 s es
      subst l2
      exact ⟨σ', H5, I5, l1, F5, S5.le le⟩
    | brk =>
      obtain ⟨σ', H5, I5, s, es, F5, S5⟩ := hf
      have e3 := hf3 s es
      subst e3
      obtain ⟨u1, u2⟩ := unlock_go (S5.le le) (hz (od, kvs) _)
      exact ⟨σ', H5, I5, u1, (nx (od, kvs) s e2).out σ' F5 _ u2⟩
    | ret v =>
      obtain ⟨v', σ', H5, I5, rv, q, eq, hq'⟩ := hf
      have e3 := hf4 q eq
      subst e3
      obtain ⟨u1, u2⟩ := rt_unlock hq'
      exact ⟨v', σ', H5, I5, rv, u1, hq q e2 v' _ u2⟩
  · rintro σ2 H2 ⟨hi, F2, S2⟩
    obtain ⟨u1, u2⟩ := unlock_go S2 (hz (od, kvs) _)
    rcases z2 with ⟨q1, q2⟩ | ⟨b, q1, q2⟩
    · subst q2
      rw [← q1] at u2
      exact ⟨u1, (nx (od, kvs) (z nn) e2).out σ2 F2 _ u2⟩
    · have := (List.getElem?_eq_some_iff.mp q1).1
      omega
/-- x = y, y an own thing that is y's no more -/
theorem s_move {Q : Qd} {j : Nat} {m : Str} {spos p' : Pos} (hM : X.N[j]? = some m) (hv : Vis X.env.scope m) (hG : G[j]? = some (some (own l Q))) (hN : X.N.Nodup) (hi : X.N[i]? = some n) (hx : Loc X.env.scope n) (q : Tr W ((G.set j none).set i (some (own l Q))) (wS X rest D))
    (hs : swapsWith (.Name m p) (some (.Name n p')) spos.line X.env = pure false := by rfl) (hf : X.fn n = true ∨ X.env.scope.names.lookup n = some .local := by first | exact .inl rfl | exact .inr rfl)
    (hd : (m == ("__debug__" : Str)) = false := by decide) (hcd : (m == ("__classdict__" : Str)) = false := by decide) : Tr W G (wS X (.Assign [.Name n p'] (.Name m p) spos :: rest) D) := .mk fun σ F H S => by
  obtain ⟨v, h1, h2⟩ := S.sl j _ hG
  refine toS (pss_cons (ps_set hN hi hx (pe_var hM hv hd hcd) hs hf) wS_ps) ⟨v, h1, ?_⟩
  have S1 : Sat W (G.set j none) σ F H := S.weak (by rw [List.length_set]) fun k P e => by
    rcases get_set e with ⟨_, e2⟩ | ⟨_, e2⟩
    · cases e2
    · exact ⟨P, e2, fun _ q => q, fun _ m => m⟩
  refine q.out (σ.set i (some v)) F H (S1.set (P := own l Q) h2 fun a ha => ?_)
  obtain ⟨c1, c2, c3⟩ := S.fr j _ a hG ha
  refine ⟨c1, c2, c3, fun k P e hm => ?_⟩
  rcases get_set e with ⟨_, e2⟩ | ⟨ne, e2⟩
  · cases e2
  · exact ne (S.dj k j P _ a e2 hG hm ha)
end
theorem EvO.eqD {κ' κ β : Type} [DecidableEq κ'] [DecidableEq κ] {Rk : Rp κ} {KD : Kx κ' Rk} {R : Rp β} {X : Cx} {W : Fx} {e : Expr} {G G1 : Gm} {d d' : List (κ × β)} (h : EvO X W e G (fun l => QD l KD R d) G1) (q : d = d') : EvO X W e G (fun l => QD l KD R d') G1 := q ▸ h
end Mz

namespace MzD
open PySem PySem.W PySem.Calls PyProof.Rows PySem.Spec
section
variable {prog : Program} {w : World} {A : Around} {d : Addr} {o : Obj} {es : Array DictEntry} {ep : Nat}
theorem walks (hh : A.handled = none) (I : Addr) (hne : d ≠ I) (hda : o.data = .dict es ep) :
    Walks prog w A I [I, d] [I] es.size (fun i v => ∃ en, es[i]? = some en ∧ v = en.key) (fun i h => h.IsKeyIter I d i es.size ep ∧ h.get? d = some o) where
  sub := fun b hb => by simp at hb; simp [hb]
  frame := fun _ _ _ st hk => ⟨st.1.at fun o e => hk I (by simp) o e, hk d (by simp) _ st.2⟩
  item := fun i s Q E hi st hQ => by
    obtain ⟨en, hx⟩ : ∃ p, es[i]? = some p := ⟨es[i], by simp [hi]⟩
    refine L2.next_key_item st.1 st.2 hda rfl hx fun h' hit' hs' => ?_
    exact hQ en.key h' s.toks ⟨en, hx, rfl⟩ ⟨hit', hs'.extBut d o hne st.2⟩ fun b o hb e => hs'.extBut b o (fun h => hb (by simp [h])) e
  done := fun s Q E st hQ => L2.next_key_end hh st.1 st.2 hda rfl (Nat.le_refl _) fun h' he' => hQ h' s.toks fun b o hb e => he' b o (fun h => hb (by simp [h])) e
  self := fun _ _ _ _ st hQ => wpAny_pyIter_keyiter st.1 hQ
theorem src (lo : (d == sysModules) = false) (hx : o.ExactDict) (hda : o.data = .dict es ep) : KdlSrc prog w "dict" d d es.size (fun i v => ∃ en, es[i]? = some en ∧ v = en.key) (fun h => h.get? d = some o) where
  type := fun _ hm => ⟨o, hm, hx.1⟩
  there := fun _ hm => ⟨Heap.lt_size hm, Heap.lt_size hm⟩
  keep := fun _ _ hm hk => hk d (.inl rfl) o hm
  notList := by decide
  notTuple := by decide
  hint := fun _ _ s _ hm hq => kdl_hint_dict (s := s) ⟨o, hm, hx.1⟩ hq
  iter := fun _ s hh hm => ⟨_, _, (fun _ _ hq => L2.iter_keys lo hm hx hda hq), walks hh _ (Nat.ne_of_lt (Heap.lt_size hm)) hda, ⟨⟨_, Heap.get?_push_size _ rfl, rfl, rfl⟩, Heap.get?_push_of_some _ hm⟩⟩
variable {E : Value → Shared → Prop} {s : Shared}
theorem sortedD {β : Type} {us : List Value} {bs : List β} {en : β → PyData} {R : Value → β → Prop} {Q : Value → Shared → Prop} (hh : A.handled = none) (hd : s.heap.get? d = some o) (lo : (d == sysModules) = false) (hx : o.ExactDict) (hda : o.data = .dict es ep) (hz : es.size ≤ sizeLine)
    (hus : us = es.toList.map (·.key)) (e : EachIs R us bs) (er : EachIs (fun v b => ∃ as, Reads s.heap v (en b) as) us bs) (hal : AllAlike (bs.map en)) (hk : Sortable (bs.map en))
    (hu : ∀ b, b ∈ bs → A.units + 2 + (en b).depth < cLine)
    (h : ∀ (h1 : Heap) (tk : Nat) (out : List Value), (∀ b o, s.heap.get? b = some o → h1.get? b = some o) → out.length = bs.length → EachIs R out (bs.mergeSort (dataLe false en)) →
      Q (.ref h1.objs.size) { s with heap := sortedHeap (h1.push (seqObj "list" us.toArray 0)) h1.objs.size us (List.toArray out), toks := tk }) :
    wpAny (model prog w) A (call (.builtin "sorted") [.ref d]) Q E s := by
  have hlen : us.length = es.size := by rw [hus, List.length_map, Array.length_toList]
  refine call_function_entry kind_sorted plain_sorted entry_sorted (args_sorted1 _) ?_
  unfold Builtin.«sorted»
  refine wpAny_bind (m := checkCount "sorted" 1 1 _) (wpAny_pure ?_)
  refine wpAny_bind (kdu_collect (A := A.in1) (src lo hx hda) hh hd hz fun h' tk acc hk' hacc => ?_)
  have hacc' : acc.toList = us := by
    apply List.ext_getElem?
    intro j
    rw [hus, List.getElem?_map, Array.getElem?_toList, Array.getElem?_toList]
    by_cases hj : j < es.size
    · have ha : j < acc.size := by rw [hacc.1]; exact hj
      obtain ⟨en', e1, e2⟩ := hacc.2 j _ (Array.getElem?_eq_getElem ha)
      rw [Array.getElem?_eq_getElem ha, e1, e2]; rfl
    · rw [Array.getElem?_eq_none (by rw [hacc.1]; omega), Array.getElem?_eq_none (by omega)]; rfl
  rw [hacc']
  refine wpAny_bind (wpAny_newList ?_ (by rw [hlen]; exact hz))
  have hoL : (h'.push (seqObj "list" us.toArray 0)).get? h'.objs.size = some (seqObj "list" us.toArray 0) := Heap.get?_push_size _ rfl
  show wpAny _ _ _ _ _ { s with heap := h'.push (seqObj "list" us.toArray 0), toks := tk }
  have er2 : EachIs (fun v b => ∃ as, Reads (sortingHeap (h'.push (seqObj "list" us.toArray 0)) h'.objs.size us) v (en b) as) us bs := er.mono fun _ _ ⟨as, r⟩ => ⟨as, PyProof.Rows.Reads.keeps (fun b ob eb => sortingHeap_old (Nat.ne_of_lt (Heap.lt_size (hk' b ob eb))) (Heap.get?_push_of_some _ (hk' b ob eb))) r⟩
  refine wpAny_bind (wpAny_holding (wpAny_call_entry slot_list_sort ⟨_, hoL, rfl⟩ entry_list_sort ?goB (args_list_sort _)))
  case goB =>
    show wpAny (model prog w) A.in1.in1 (Builtin.«list.sort» ⟨[.ref h'.objs.size], []⟩) _ _ _
    refine list_sort_vals (s := { s with heap := h'.push (seqObj "list" us.toArray 0), toks := tk }) hoL (SortsAt.data (s := { s with heap := sortingHeap (h'.push (seqObj "list" us.toArray 0)) h'.objs.size us, toks := tk }) (each_map (R := fun v d => ∃ as, Reads (sortingHeap (h'.push (seqObj "list" us.toArray 0)) h'.objs.size us) v d as) en er2) hal hk (bound_map hu)) (by rw [hlen]; exact hz) ⟨_, rfl, wpAny_pure ⟨_, rfl, ?_⟩⟩
    exact h h' tk _ hk' (by rw [sortVals_length false rfl]; exact e.length) (sortVals_data false e er2 hal)
end
end MzD
namespace Mz
open PySem PySem.Spec PyProof.Rows L2
open PySem.W (alike alikeAll dataLt dataLe AllAlike Sortable EachIs minD maxD)
section
variable {κ' κ β : Type} [DecidableEq κ'] [DecidableEq κ] {Rk : Rp κ} {KD : Kx κ' Rk} {R : Rp β} {d : List (κ × β)}
variable {X : Cx} {W : Fx} {G G1 : Gm} {a : Expr} {pos p : Pos} {N : Nat}
/-- all keys' values, known at once -/
theorem keys_all {F H : Hp} {kvs : List (κ' × V)} {es : List DictEntry} (hex : Ex F H) (hp : DP R KD.enc F kvs d) (hl : es.length = kvs.length)
    (he : ∀ (i : Nat) (k : κ') (v : V), kvs[i]? = some (k, v) → ∃ (en : DictEntry) (x : V), es[i]? = some en ∧ RelV x en.key ∧ ∀ (F : Hp) (a : κ), Ex F H → k = KD.enc a → ∃ F', Ex F F' ∧ Ex F' H ∧ (∀ b, H b ≠ none → F' b = F b ∨ ∃ xs, H b = some (.tup xs)) ∧ Rk.r F' x a) :
    ∃ (F' : Hp) (xs : List V), Ex F F' ∧ Ex F' H ∧ (∀ b, H b ≠ none → F' b = F b ∨ ∃ xs, H b = some (.tup xs)) ∧ Vals xs (es.map (·.key)) ∧ All2 Rk F' xs (d.map (·.1)) := by
  have hp' : Paired (fun (p : κ' × V) (q : κ × β) => p.1 = KD.enc q.1 ∧ R.r F p.2 q.2) kvs d := hp
  clear hp
  have main : ∀ {kvs : List (κ' × V)} {d : List (κ × β)}, Paired (fun (p : κ' × V) (q : κ × β) => p.1 = KD.enc q.1 ∧ R.r F p.2 q.2) kvs d → ∀ (es : List DictEntry), es.length = kvs.length →
      (∀ (i : Nat) (k : κ') (v : V), kvs[i]? = some (k, v) → ∃ (en : DictEntry) (x : V), es[i]? = some en ∧ RelV x en.key ∧ ∀ (F : Hp) (a : κ), Ex F H → k = KD.enc a → ∃ F', Ex F F' ∧ Ex F' H ∧ (∀ b, H b ≠ none → F' b = F b ∨ ∃ xs, H b = some (.tup xs)) ∧ Rk.r F' x a) →
      ∀ F0, Ex F0 H → ∃ (F' : Hp) (xs : List V), Ex F0 F' ∧ Ex F' H ∧ (∀ b, H b ≠ none → F' b = F0 b ∨ ∃ xs, H b = some (.tup xs)) ∧ Vals xs (es.map (·.key)) ∧ All2 Rk F' xs (d.map (·.1)) := by
    intro kvs d h
    induction h with
    | nil =>
      intro es hl _ F0 h0
      have : es = [] := List.length_eq_zero_iff.mp hl
      subst this
      exact ⟨F0, [], Ex.refl _, h0, fun _ _ => .inl rfl, .nil, .nil⟩
    | @cons q r qs rs hh t ih =>
      intro es hl he F0 h0
      cases es with
      | nil => simp at hl
      | cons en es =>
        obtain ⟨en', x, e1, e2, e3⟩ := he 0 q.1 q.2 rfl
        cases Option.some.inj e1
        obtain ⟨F1, f1, f2, f3, f4⟩ := e3 F0 r.1 h0 hh.1
        obtain ⟨F2, xs, g1, g2, g3, g4, g5⟩ := ih es (by simpa using hl) (fun i k v e => by
          obtain ⟨en2, x2, y1, y2, y3⟩ := he (i + 1) k v (by simpa using e)
          exact ⟨en2, x2, by simpa using y1, y2, y3⟩) F1 f2
        refine ⟨F2, x :: xs, f1.trans g1, g2, fun b hb => ?_, .cons e2 g4, .cons (Rk.mono g1 f4) g5⟩
        rcases g3 b hb with z | z
        · rcases f3 b hb with y | y
          · exact .inl (z.trans y)
          · exact .inr y
        · exact .inr z
  exact main hp' es hl he F hex
theorem each_rel {P : V → κ → Prop} {s : Shared} {us : List Value} {ks : List κ} (h : EachIs (fun v b => ∃ x, RelV x v ∧ P x b) us ks) : ∃ xs, Vals xs us ∧ Paired P xs ks := each_back h
/-- sorted(d), the keys in order -/
theorem eo_sortedD {D : Dd X.K Rk} (en : κ → PyData) (O : Od D) (he : D.e = en) (hr : Room N X.A) (hd : D.n ≤ 60) (hm : X.mg "sorted" = none) (ha : Ev X W a G (RDi KD R) d G1) (hc : X.calm = true := by rfl) (hg : Gl X "sorted" := by rfl) (hs : starEach [a] X.env = (false, eval a X.env) :: starEach [] X.env := by rfl) :
    EvO X W (.Call (.Name "sorted" p) [a] [] pos) G (fun l => QL l Rk (srtE en (d.map (·.1)))) G1 := .mk fun σ F H Q S q => by
  subst he
  have cr : CallR X (.builtin "sorted") (fun vs H Q => ∃ (pa : Addr) (z : Obj × List (κ' × V)) (F : Hp), vs = [.ref pa] ∧ H pa = some (.frz z.1 (KD.ho z.2)) ∧ DP R KD.enc F z.2 d ∧ Ex F H ∧
      ∀ (F' : Hp) (ys : List V) (l : Addr), Ex F F' → Ex F' H → (∀ b, H b ≠ none → F' b = F b ∨ ∃ xs, H b = some (.tup xs)) → All2 Rk F' ys (srtE D.e (d.map (·.1))) → H l = none → Q (.ref l) (upd H l (.lst ys))) := by
    intro pins s σ H vs us Q I r h
    obtain ⟨pa, z, F, rfl, h1, h2, h3, q⟩ := h
    obtain ⟨u, eu, rx⟩ := vals1 r
    subst eu
    cases rx
    obtain ⟨lo, hget, hx, es, ep, hda, hsz, ent⟩ := KD.ent I h1
    have few := KD.few I (.inr ⟨z.1, h1⟩)
    obtain ⟨F', xs, f1, f2, f3, f4, f5⟩ := keys_all (KD := KD) (es := es.toList) h3 h2 (by rw [Array.length_toList]; exact hsz) fun i k v e => by
      obtain ⟨en', x, e1, e2, e3⟩ := ent i k v e
      exact ⟨en', x, by rw [Array.getElem?_toList]; exact e1, e2, e3⟩
    have er := each_of I (P := fun x b => Rk.r F' x b) (e := D.e) (fun x b h => ex_dp f2 (D.r F' x b h)) f4 f5
    refine MzD.sortedD (R := fun v b => ∃ x, RelV x v ∧ Rk.r F' x b) (en := D.e) (bs := d.map (·.1)) (I.ok.hd hc) hget lo hx hda (by rw [hsz]; exact few) rfl (er.mono fun _ _ h => h.1) (er.mono fun _ _ h => h.2) (AllAlike.of fun b b' => O.al b b') ?_ (fun b _ => ?_) fun h1' tk out k1 k2 k3 => ?_
    · rcases O.kd with k | k
      · exact Sortable.tuples k
      · exact Sortable.others fun b => ⟨O.nn b, k b⟩
    · have := D.d b
      have := room64 hr
      omega
    · obtain ⟨ys, g1, g2⟩ := each_back k3
      have hoL : (h1'.push (seqObj "list" (es.toList.map (·.key)).toArray 0)).get? h1'.objs.size = some (seqObj "list" (es.toList.map (·.key)).toArray 0) := Heap.get?_push_size _ rfl
      obtain ⟨ep', he'⟩ := PyProof.Rows.sortedHeap_at (vs := es.toList.map (·.key)) (out := List.toArray out) hoL
      have I1 : Inv X pins σ H { s with heap := h1', toks := tk } := I.kept k1
      have hy : ys.length ≤ sizeLine := by rw [g1.length, k2, List.length_map, ← h2.len]; exact few
      refine ⟨.ref _, upd H h1'.objs.size (.lst ys), I1.laid (t' := tk) (fun b u e => ?_) (Nat.le_refl _) (show ObjOk X.prog X.w _ _ _ (.lst ys) from ⟨hy, out, ep', g1, he'⟩), rfl, q F' ys _ f1 f2 f3 g2 (I1.hok.fresh (Nat.le_refl _))⟩
      have hb : b < h1'.objs.size := Heap.lt_size e
      rw [PyProof.Rows.sortedHeap_old (Nat.ne_of_lt hb) (by rw [size_push']; exact Nat.lt_succ_of_lt hb)]
      exact Heap.get?_push_of_some _ e
  exact toE (pe_callB cr hg hm (by decide +kernel) (pa_cons wE_pe pa_nil hs) (by decide) (by decide) hs rfl) (ha.out σ F H _ S fun v F1 H1 e1 S1 r1 => by
    obtain ⟨pa, z, rfl, h2, h3⟩ := r1
    refine ⟨pa, z, F1, rfl, S1.ex _ _ h2, h3, S1.ex, fun F' ys l f1 f2 f3 g hl => ?_⟩
    have S2 := S1.stepT f1 f2 (Ex.refl _) f3
    obtain ⟨s1, s2⟩ := NewO.list (R := Rk) (as := srtE D.e (d.map (·.1))) S2 hl g
    exact q l F' _ (e1.trans f1) s1 s2)
end
end Mz

namespace Mz
open PySem PySem.Spec PyProof.Rows L2
/-! ### x[i], x[j] = a, b; x.insert(i, a); k in f(..) -/
def insO {α : Type} (xs : List α) (i : Int) (a : α) : Option (List α) := if xs.length < 16000000 ∧ 0 ≤ i ∧ i < 2 ^ 62 then some (xs.take i.toNat ++ [a] ++ xs.drop i.toNat) else none
section
variable {X : Cx} {W : Fx} {G G1 G2 : Gm} {D : Ends} {e ea eb a b ka kb : Expr} {rest : List Stmt} {α : Type} {R : Rp α} {x y : α} {pos p p' : Pos} {n : Str} {i : Nat} {l : Addr}
theorem s_sub2 {as b1 b2 : List α} {k1 k2 : Int} {pa pb p0 p1 pt pv spos : Pos} {kt kv : Nat} (hO : setO as k1 x = some b1) (hO2 : setO b1 k2 y = some b2) (hN : X.N[i]? = some n) (hv : Vis X.env.scope n) (he : EvR X W [ea, eb] G (RC R (R1 R)) (x, y) G1) (hG1 : G1[i]? = some (some (own l (QL l R as))))
    (hs1 : SetAt (some (own l (QL l R b1))) i G1 G2) (hka : Ev X W ka G1 RI k1 G1) (hkb : Ev X W kb G2 RI k2 G2) (q : Tr W (G2.set i (some (own l (QL l R b2)))) (wS X rest D)) (hc : X.calm = true := by rfl) (hd : (n == ("__debug__" : Str)) = false := by decide) (hcd : (n == ("__classdict__" : Str)) = false := by decide)
    (ha : ∀ v, assign (.Subscript (.Name n p0) ka pa) X.env v = (do
      let ov ← holding [v] (eval (.Name n p0) X.env)
      let iv ← holding [v, ov] (eval ka X.env)
      standAt pa
      holding [v, ov, iv] (setItem ov iv v)
      release [v, ov, iv] []) := by intro _; rfl)
    (hb : ∀ v, assign (.Subscript (.Name n p1) kb pb) X.env v = (do
      let ov ← holding [v] (eval (.Name n p1) X.env)
      let iv ← holding [v, ov] (eval kb X.env)
      standAt pb
      holding [v, ov, iv] (setItem ov iv v)
      release [v, ov, iv] []) := by intro _; rfl)
    (hs : swapsWithSole [.Tuple [.Subscript (.Name n p0) ka pa, .Subscript (.Name n p1) kb pb] kt pt] (.Tuple [ea, eb] kv pv) spos.line X.env = pure false := by rfl)
    (hw : swappedStores [.Tuple [.Subscript (.Name n p0) ka pa, .Subscript (.Name n p1) kb pb] kt pt] (.Tuple [ea, eb] kv pv) X.env = pure none := by rfl)
    (h1 : (assignEach [.Tuple [.Subscript (.Name n p0) ka pa, .Subscript (.Name n p1) kb pb] kt pt] X.env).map (·.2) = [assign (.Tuple [.Subscript (.Name n p0) ka pa, .Subscript (.Name n p1) kb pb] kt pt) X.env] := by rfl)
    (hn : (assignEach [.Subscript (.Name n p0) ka pa, .Subscript (.Name n p1) kb pb] X.env).length = 2 := by rfl) (hst : (assignEach [.Subscript (.Name n p0) ka pa, .Subscript (.Name n p1) kb pb] X.env).findIdx? (·.1) = none := by rfl)
    (hg0 : (assignEach [.Subscript (.Name n p0) ka pa, .Subscript (.Name n p1) kb pb] X.env).map (·.2) = assign (.Subscript (.Name n p0) ka pa) X.env :: (assignEach [.Subscript (.Name n p1) kb pb] X.env).map (·.2) := by rfl)
    (hg1 : (assignEach [.Subscript (.Name n p1) kb pb] X.env).map (·.2) = assign (.Subscript (.Name n p1) kb pb) X.env :: (assignEach [] X.env).map (·.2) := by rfl) :
    Tr W G (wS X (.Assign [.Tuple [.Subscript (.Name n p0) ka pa, .Subscript (.Name n p1) kb pb] kt pt] (.Tuple [ea, eb] kv pv) spos :: rest) D) := .mk fun σ F H S => by
  have hE := ev_tup (pos := pv) (k := kv) he
  unfold setO at hO hO2
  split at hO
  · rename_i j1 hj1
    cases hO
    split at hO2
    · rename_i j2 hj2
      cases hO2
      refine toS (pss_cons (ps_asg wE_pe (pg_tup hc (pgs_cons (pg_sub (pe_var hN hv hd hcd) wE_pe set_list ha) (pgs_cons (pg_sub (pe_var hN hv hd hcd) wE_pe set_list hb) pgs_nil hg1) hg0) hn hst) hs hw h1) wS_ps) (hE.out σ F H _ S fun v F1 H1 e1 S1 r1 => ?_)
      obtain ⟨pt', vs, rfl, ht, w1, ws, rfl, r1, w2, rfl, r2⟩ := r1
      obtain ⟨v', k1', rfl, _⟩ := S1.sl i _ hG1
      refine ⟨pt', _, rfl, ex_sqt S1.ex ht, rfl, w1, _, rfl, .ref l, k1', hka.out σ F1 H1 _ S1 fun u F2 H2 e2 S2 r3 => ?_⟩
      obtain ⟨v2, _, _, vs', k3, k4⟩ := S2.sl i _ hG1
      refine ⟨l, vs', k1, j1, rfl, r3, k3, by rw [k4.len]; exact hj1, ?_⟩
      have S3 : Sat W (G1.set i (some (own l (QL l R (as.set j1 x))))) σ F2 (upd H2 l (.lst (vs'.set j1 w1))) := S2.mut hG1 (fun a ha => upd_ne fun z => ha (by rw [z]; exact List.mem_singleton.mpr rfl)) ⟨vs'.set j1 w1, upd_same, All2.set (R.mono e2 r1) j1 k4⟩ fun a ha => ⟨ha, by rw [List.mem_singleton.mp ha, upd_same]; intro z; cases z⟩
      rw [← hs1.eq] at S3
      have hl : i < G1.length := (List.getElem?_eq_some_iff.mp hG1).1
      have hG2 : G2[i]? = some (some (own l (QL l R (as.set j1 x)))) := by rw [hs1.eq, List.getElem?_set_self hl]
      obtain ⟨v3, k5, rfl, _⟩ := S3.sl i _ hG2
      refine ⟨w2, [], rfl, .ref l, k5, hkb.out σ F2 _ _ S3 fun u2 F4 H4 e4 S4 r4 => ?_⟩
      obtain ⟨v4, _, _, vs2, k6, k7⟩ := S4.sl i _ hG2
      refine ⟨l, vs2, k2, j2, rfl, r4, k6, by rw [k7.len]; exact hj2, rfl, ?_⟩
      exact q.out σ F4 _ (S4.mut hG2 (fun a ha => upd_ne fun z => ha (by rw [z]; exact List.mem_singleton.mpr rfl)) ⟨vs2.set j2 w2, upd_same, All2.set (R.mono (e2.trans e4) r2) j2 k7⟩ fun a ha => ⟨ha, by rw [List.mem_singleton.mp ha, upd_same]; intro z; cases z⟩)
    · cases hO2
  · cases hO
theorem s_ins {as bs : List α} {k : Int} {apos cpos spos p0 : Pos} (hO : insO as k x = some bs) (hN : X.N[i]? = some n) (hv : Vis X.env.scope n) (hG : G[i]? = some (some (own l (QL l R as)))) (hk : Ev X W b G RI k G1) (he : Ev X W e G1 R x G2) (hG2 : G2[i]? = some (some (own l (QL l R as))))
    (q : Tr W (G2.set i (some (own l (QL l R bs)))) (wS X rest D)) (hs : starEach [b, e] X.env = (false, eval b X.env) :: starEach [e] X.env := by rfl) (hs2 : starEach [e] X.env = (false, eval e X.env) :: starEach [] X.env := by rfl) (hbase : attributeBase (.Name n p0) "insert" X.env (eval (.Name n p0) X.env) = eval (.Name n p0) X.env := by rfl)
    (hfew : ((backTo cpos (starEach [b, e] X.env)).all (fun x => !x.1) && (backToKw cpos (keywordEach [] X.env)).all (fun x => x.1.isSome)
      && decide ([b, e].length + ([] : List Keyword).length + (if ([] : List Keyword).isEmpty then 0 else 1) < 30)) = true := by rfl)
    (hline : (apos.endLine == cpos.line) = true := by rfl) (hpl : (backTo cpos (starEach [e] X.env)).any (·.1) = false := by rfl) (hd : (n == ("__debug__" : Str)) = false := by decide) (hcd : (n == ("__classdict__" : Str)) = false := by decide)
    (hsw : swapsWith (.Call (.Attribute (.Name n p0) "insert" apos) [b, e] [] cpos) none spos.line X.env = pure false := by rfl) :
    Tr W G (wS X (.Expr (.Call (.Attribute (.Name n p0) "insert" apos) [b, e] [] cpos) spos :: rest) D) := .mk fun σ F H S => by
  obtain ⟨v, h1, rfl, vs, h2, h3⟩ := S.sl i _ hG
  unfold insO at hO
  split at hO
  · rename_i hl
    cases hO
    refine toS (pss_cons (ps_expr (pe_bm PySem.F.plainAttrs_list PySem.F.slot_list_insert PySem.F.type_list_insert mt_insert (pe_var hN hv hd hcd) (pa_cons wE_pe (pa_cons wE_pe pa_nil hs2) hs) hbase hfew hline hs hpl) hsw) wS_ps) ?_
    refine ⟨.ref l, h1, .inl ⟨rfl, vs, .inl (.inl h2)⟩, hk.out σ F H _ S fun u F1 H1 e1 S1 r1 => he.out σ F1 H1 _ S1 fun w F2 H2 e2 S2 r2 => ?_⟩
    obtain ⟨v', k1, k2, vs', k3, k4⟩ := S2.sl i _ hG2
    refine ⟨l, vs', k, w, rfl, by rw [show u = V.int k from r1], k3, by rw [k4.len]; exact size16 hl.1, hl.2.1, by have := hl.2.2; omega, ?_⟩
    exact q.out σ F2 _ (S2.mut hG2 (fun a ha => upd_ne fun z => ha (by rw [z]; exact List.mem_singleton.mpr rfl)) ⟨_, upd_same, ((k4.take k.toNat).app (All2.cons r2 .nil)).app (k4.drop k.toNat)⟩ fun a ha => ⟨ha, by rw [List.mem_singleton.mp ha, upd_same]; intro z; cases z⟩)
  · cases hO
end
section
variable {κ' κ β : Type} [DecidableEq κ'] [DecidableEq κ] {Rk : Rp κ} {KD : Kx κ' Rk} {R : Rp β} {d : List (κ × β)}
variable {X : Cx} {W : Fx} {G G1 G2 : Gm} {a b : Expr} {pos : Pos} {N : Nat} {k : κ}
theorem et_inO (hr : Room N X.A) (ha : Ev X W a G Rk k G1) (hb : EvO X W b G1 (fun l => QD l KD R d) G2) (hm : behindInMarks .In b = false) : EvT X W (.Compare a [.In] [b] pos) G (dgt d k).isSome G2 := .mk fun σ F H Q S q =>
  toT (pt_cmpR (op_dinR hr) wE_pe wE_pe hm) (ha.out σ F H _ S fun v F1 H1 e1 S1 r1 => hb.out σ F1 H1 _ S1 fun l F2 H2 e2 S2 n => by
    obtain ⟨⟨kvs, n1, n2⟩, _⟩ := n
    refine ⟨l, _, rfl, KD.get S2.ex (Rk.mono e2 r1) (.inl n1), (dgt d k).isSome, ?_, q F2 H2 (e1.trans e2) S2⟩
    rw [n2.valO KD.inj])
theorem et_ninO (hr : Room N X.A) (ha : Ev X W a G Rk k G1) (hb : EvO X W b G1 (fun l => QD l KD R d) G2) (hm : behindInMarks .NotIn b = false) : EvT X W (.Compare a [.NotIn] [b] pos) G (!(dgt d k).isSome) G2 := .mk fun σ F H Q S q =>
  toT (pt_cmpR (op_dninR hr) wE_pe wE_pe hm) (ha.out σ F H _ S fun v F1 H1 e1 S1 r1 => hb.out σ F1 H1 _ S1 fun l F2 H2 e2 S2 n => by
    obtain ⟨⟨kvs, n1, n2⟩, _⟩ := n
    refine ⟨l, _, rfl, KD.get S2.ex (Rk.mono e2 r1) (.inl n1), !(dgt d k).isSome, ?_, q F2 H2 (e1.trans e2) S2⟩
    rw [n2.valO KD.inj])
end
end Mz

namespace Mz
open PySem PySem.Spec PyProof.Rows L2
/-! ### a name that a loop may have set -/
theorem tr_wk {W : Fx} {A B : Gm} {P : L2.St → Hp → Prop} (h : Wk A B) (k : Tr W A P) : Tr W B P := .mk fun σ F H S => k.out σ F H (S.wk h)
theorem tr_may {W : Fx} {α : Type} {P : L2.St → Hp → Prop} {w : α} (o : Option α) (Gf : Option α → Gm) (G' : Gm) (h : o = some w) (e : Gf (some w) = G') (k : Tr W G' P) : Tr W (Gf o) P := by
  subst h
  rw [e]
  exact k
end Mz

namespace Mz
open PySem PySem.Spec PyProof.Rows L2
/-! ### displays of several pairs, update -/
section
variable {κ β : Type} [DecidableEq κ]
def dmg (d : List (κ × β)) (kxs : List (κ × β)) : List (κ × β) := kxs.foldl (fun d p => dpt d p.1 p.2) d
theorem dmg_len : ∀ (kxs d : List (κ × β)), (dmg d kxs).length ≤ d.length + kxs.length
  | [], d => by show d.length ≤ _; omega
  | p :: r, d => by
    have h1 := dmg_len r (dpt d p.1 p.2)
    have h2 : (dpt d p.1 p.2).length ≤ d.length + 1 := by
      unfold dpt
      split
      · rw [List.length_map]; omega
      · rw [List.length_append]; exact Nat.le_refl _
    show (dmg (dpt d p.1 p.2) r).length ≤ _
    rw [List.length_cons]; omega
theorem DP.merge {Rk : Rp κ} {R : Rp β} {enc : κ → Key} (inj : ∀ a b, enc a = enc b → a = b) {F : Hp} : ∀ {more : List (Key × V)} {kxs : List (κ × β)} {kvs : List (Key × V)} {d : List (κ × β)}, DP R enc F more kxs → DP R enc F kvs d → DP R enc F (mergeK kvs more) (dmg d kxs) := by
  intro more kxs kvs d r
  have r' : Paired (fun (p : Key × V) (q : κ × β) => p.1 = enc q.1 ∧ R.r F p.2 q.2) more kxs := r
  clear r
  induction r' generalizing kvs d with
  | nil => intro q; exact q
  | @cons p q ps qs h t ih =>
    intro r0
    have e : DP R enc F (putK kvs p.1 p.2) (dpt d q.1 q.2) := by
      have := r0.put inj q.1 h.2
      rw [← h.1] at this; exact this
    exact ih e
end
/-- a kind of keys that are ints or texts -/
structure KxK {κ : Type} [DecidableEq κ] {Rk : Rp κ} (KD : Kx Key Rk) : Prop where
  ho : ∀ kvs, KD.ho kvs = .dK kvs
  to : ∀ F v k, Rk.r F v k → v = kV (KD.enc k)
theorem kk_I : KxK kd_I := ⟨fun _ => rfl, fun _ _ _ h => h⟩
theorem kk_S : KxK kd_S := ⟨fun _ => rfl, fun _ _ _ h => h⟩
section
variable {κ β : Type} [DecidableEq κ] {Rk : Rp κ} {KD : Kx Key Rk} {R : Rp β} {d d2 : List (κ × β)} {X : Cx} {W : Fx} {G G1 G2 G3 : Gm} {a b e : Expr} {i : Nat} {l : Addr} {n : Str} {pos p p0 : Pos} {k : κ} {x : β}
/-- the pairs of a display -/
def PrD (X : Cx) (pos : Pos) (KD : Kx Key Rk) (R : Rp β) (keys : List (Option Expr)) (values : List Expr) (G : Gm) (kxs : List (κ × β)) (G' : Gm) : Prop :=
  Lk (∃ trs, PPs X pos keys values trs ∧ ∀ W σ F H (Q : List (V × V) → Hp → Prop), Sat W G σ F H → (∀ kvs F' H', Ex F F' → Sat W G' σ F' H' → DP R KD.enc F' kvs kxs → Q (kvs.map fun kv => (kV kv.1, kv.2)) H') → tPairs trs σ H Q)
theorem pd_nil : PrD X pos KD R [] [] G ([] : List (κ × β)) G := .mk ⟨[], pps_nil, fun W σ F H Q S q => q [] F H (Ex.refl F) S .nil⟩
theorem pd_cons {ks : List (Option Expr)} {vs : List Expr} {r : List (κ × β)} (hK : KxK KD) (hk : ∀ W, Ev X W a G Rk k G1) (hv : ∀ W, Ev X W b G1 R x G2) (hr : PrD X pos KD R ks vs G2 r G3) : PrD X pos KD R (some a :: ks) (b :: vs) G ((k, x) :: r) G3 := by
  obtain ⟨trs, h1, h2⟩ := hr.out
  refine .mk ⟨_, pps_cons wE_pe wE_pe h1, fun W σ F H Q S q => ?_⟩
  refine (hk W).out σ F H _ S fun v F1 H1 e1 S1 r1 => (hv W).out σ F1 H1 _ S1 fun u F2 H2 e2 S2 r2 => h2 W σ F2 H2 _ S2 fun kvs F3 H3 e3 S3 r3 => ?_
  have := q ((KD.enc k, u) :: kvs) F3 H3 (e1.trans (e2.trans e3)) S3 (.cons ⟨rfl, R.mono e3 r2⟩ r3)
  rw [List.map_cons] at this
  rw [hK.to F1 v k r1]
  exact this
theorem eo_disp {keys : List (Option Expr)} {values : List Expr} {kxs : List (κ × β)} (hK : KxK KD) (h : PrD X pos KD R keys values G kxs G2) (hlen : kxs.length ≤ 15) (hall : keys.all (·.isSome) = true) (hl : keys.length = values.length) (h0 : keys ≠ []) (h15 : keys.length ≤ 15) :
    EvO X W (.Dict keys values pos) G (fun l => QD l KD R (dmg [] kxs)) G2 := .mk fun σ F H Q S q => by
  obtain ⟨trs, h1, h2⟩ := h.out
  refine toE (pe_disp h1 hall hl h0 h15) fun p hp => ?_
  have S1 : Sat _ G σ _ (upd H p (KD.ho [])) := S.put (F := F) (o := KD.ho []) hp
  rw [hK.ho] at S1
  refine h2 _ σ _ _ _ S1 fun kvs F2 H2 e2 S2 r2 => ?_
  have ntp : ∀ kvs, ∀ xs, KD.ho kvs ≠ .tup xs := KD.ntp
  obtain ⟨u1, u2, u3, u4⟩ := (S2.reput (o' := .dK (mergeK [] kvs)) (by have := KD.ntp []; rw [hK.ho] at this; exact this)).unput S.f0 (S.wx.back hp) (by have := KD.ntp (mergeK [] kvs); rw [hK.ho] at this; exact this)
  refine ⟨(S2.unput S.f0 (S.wx.back hp) (by have := KD.ntp []; rw [hK.ho] at this; exact this)).2.1, kvs, rfl, by rw [r2.len]; exact hlen, q p F2 _ e2 u1 ⟨⟨mergeK [] kvs, by rw [u2, hK.ho], DP.merge (Rk := Rk) KD.inj r2 .nil⟩, fun a ha => ?_⟩⟩
  have e : a = p := List.mem_singleton.mp ha
  subst e
  exact ⟨u3, S.wx.back hp, (by rw [u2]; intro z; cases z), u4⟩
end
/-! ### d.update(e) of a new dict -/
section
variable {X : Cx} {pins : List (Addr × Obj)} {σ : L2.St} {H : Hp} {s : Shared} {a b : Addr} {A : Around} {E : Value → Shared → Prop} {kvs more : List (Key × V)}
theorem d_upd {Q : Value → Shared → Prop} (I : Inv X pins σ H s) (e : H a = some (.dK kvs)) (e2 : H b = some (.dK more)) (hab : a ≠ b) (hsz : kvs.length + more.length ≤ sizeLine) (h : ∀ s', Inv X pins σ (upd H a (.dK (mergeK kvs more))) s' → Q .none s') :
    wpAny (model X.prog X.w) A (call (.builtin "dict.update") [.ref a, .ref b]) Q E s := by
  obtain ⟨z, hd, vs, rel, dd⟩ := dk_of I.hok e
  obtain ⟨z2, hd2, vs2, rel2, dd2⟩ := dk_of I.hok e2
  refine call_meetsIn PySem.F.slot_dict_update dd.typeIs PySem.F.entry_dict_update (PySem.F.args_dict_update_2 _ _) (PySem.meets_dict_update (mixKind X.prog X.w) a b hab hd2) ⟨vs, vs2, dd, dd2, by rw [← rel.length, ← rel2.length]; exact hsz, fun h' dd' _ hs => h _ ?_⟩
  have he : ∃ q, h'.get? a = some q := let ⟨q, _, _, hq, _⟩ := dd'; ⟨q, hq⟩
  exact d_write (t' := s.toks) I (by rw [e]; exact True.intro) hs he (dk_new (Nat.le_trans (length_mergeK more kvs) hsz) hd (rel2.merge rel) dd')
end
def tDUpd (td ty : TE) : TE := fun σ H Q => td σ H fun x H1 => ∃ a, x = .ref a ∧ IsD H1 a ∧ ty σ H1 fun y H2 => ∃ b kvs more, y = .ref b ∧ a ≠ b ∧ H2 a = some (.dK kvs) ∧ H2 b = some (.dK more) ∧ kvs.length + more.length ≤ sizeLine ∧ Q .non (upd H2 a (.dK (mergeK kvs more)))
theorem pe_dupd {X : Cx} {o e : Expr} {apos cpos : Pos} {td ty : TE} (ho : PE X o td) (he : PE X e ty) (m : M1 X o "update" apos e cpos) : PE X (.Call (.Attribute o "update" apos) [e] [] cpos) (tDUpd td ty) := by
  refine ⟨fun pins s σ H Q I h => ?_⟩
  refine wpAny_Call_method m.base m.few m.line PySem.F.plainAttrs_dict PySem.F.slot_dict_update PySem.F.type_dict_update (thn (ho.run pins s σ H _ I h) fun u s1 ⟨x, H1, I1, rx, a, ex, d, q1⟩ => ?_)
  subst ex
  obtain rfl : u = Value.ref a := rx
  obtain ⟨t1, t2, _⟩ := isD_at I1 d
  refine ⟨t1, t2, ?_⟩
  rw [m.trees]
  refine Calls.callWith_builtin rfl (Calls.evalArgs_plain (Calls.spliced_cons (thn (he.run pins s1 σ H1 _ I1 q1) fun iv s2 ⟨y, H2, I2, ry, b, kvs, more, ey, hab, ea, eb, hz, q2⟩ => Calls.spliced_nil ?_)))
  subst ey
  obtain rfl : iv = Value.ref b := ry
  exact d_upd I2 ea eb hab hz fun s3 I3 => ⟨.non, _, I3, rfl, q2⟩
section
variable {κ β τ : Type} [DecidableEq κ] {Rk : Rp κ} {KD : Kx Key Rk} {R : Rp β} {d d2 : List (κ × β)} {X : Cx} {W : Fx} {G G1 G2 G3 : Gm} {e : Expr} {i : Nat} {l : Addr} {n : Str} {pos p p0 apos cpos spos : Pos} {rest : List Stmt} {D : Ends}
theorem s_dupd (hK : KxK KD) (hl : d.length + d2.length ≤ 1000) (hN : X.N[i]? = some n) (hv : Vis X.env.scope n) (hG : G[i]? = some (some (own l (QD l KD R d)))) (he : EvO X W e G (fun l => QD l KD R d2) G1) (hG1 : G1[i]? = some (some (own l (QD l KD R d))))
    (q : Tr W (G1.set i (some (own l (QD l KD R (dmg d d2))))) (wS X rest D)) (m : M1 X (.Name n p0) "update" apos e cpos) (hd : (n == ("__debug__" : Str)) = false := by decide) (hcd : (n == ("__classdict__" : Str)) = false := by decide)
    (hsw : swapsWith (.Call (.Attribute (.Name n p0) "update" apos) [e] [] cpos) none spos.line X.env = pure false := by rfl) :
    Tr W G (wS X (.Expr (.Call (.Attribute (.Name n p0) "update" apos) [e] [] cpos) spos :: rest) D) := .mk fun σ F H S => by
  obtain ⟨v, h1, rfl, kvs, h2, h3⟩ := S.sl i _ hG
  refine toS (pss_cons (ps_expr (pe_dupd (pe_var hN hv hd hcd) wE_pe m) hsw) wS_ps) ?_
  refine ⟨.ref l, h1, l, rfl, KD.isd (.inl h2), he.out σ F H _ S fun l2 F1 H1 e1 S1 n1 => ?_⟩
  obtain ⟨⟨more, n2, n3⟩, n4⟩ := n1
  obtain ⟨v', k1, k2, kvs', k3, k4⟩ := S1.sl i _ hG1
  have ne : l ≠ l2 := fun z => by
    have := (n4 l2 (List.mem_singleton.mpr rfl)).2.2.2 i _ hG1
    exact this (by rw [z]; exact List.mem_singleton.mpr rfl)
  rw [hK.ho] at k3 n2
  refine ⟨l2, kvs', more, rfl, ne, k3, n2, by rw [k4.len, n3.len]; exact Nat.le_trans hl (by decide), ?_⟩
  exact q.out σ F1 _ (S1.mut hG1 (fun a ha => upd_ne fun z => ha (by rw [z]; exact List.mem_singleton.mpr rfl)) ⟨mergeK kvs' more, by rw [hK.ho]; exact upd_same, DP.merge (Rk := Rk) KD.inj n3 k4⟩ fun a ha => ⟨ha, by rw [List.mem_singleton.mp ha, upd_same]; intro z; cases z⟩)
end
/-! ### x.index(t), x a list of texts -/
theorem eqv_str (a b : Str) : eqV (.str a) (.str b) = decide (a = b) := by
  show (a == b) = _
  rw [Bool.eq_iff_iff, beq_iff_eq, decide_eq_true_iff]
theorem ev_indexS {X : Cx} {W : Fx} {G G1 G2 : Gm} {a b : Expr} {xs : List Str} {x : Str} {j : Int} {apos cpos : Pos} (h : idxO xs x = some j) (ha : Ev X W a G (RL X.K RS) xs G1) (hb : Ev X W b G1 RS x G2) (hbase : attributeBase a "index" X.env (eval a X.env) = eval a X.env := by rfl)
    (hfew : ((backTo cpos (starEach [b] X.env)).all (fun x => !x.1) && (backToKw cpos (keywordEach [] X.env)).all (fun x => x.1.isSome)
      && decide ([b].length + ([] : List Keyword).length + (if ([] : List Keyword).isEmpty then 0 else 1) < 30)) = true := by rfl)
    (hline : (apos.endLine == cpos.line) = true := by rfl) (hs : starEach [b] X.env = (false, eval b X.env) :: starEach [] X.env := by rfl) :
    Ev X W (.Call (.Attribute a "index" apos) [b] [] cpos) G RI j G2 := .mk fun σ F H Q S q =>
  toE (pe_bm PySem.F.plainAttrs_list PySem.F.slot_list_index PySem.F.type_list_index mt_index wE_pe (pa_cons wE_pe pa_nil hs) hbase hfew hline hs (by rfl)) (ha.out σ F H _ S fun v F1 H1 e1 S1 r1 => by
    obtain ⟨pa, vs, rfl, h1, h2⟩ := r1
    obtain rfl := all2_str h2
    refine ⟨.inl ⟨rfl, _, ex_sql S1.ex h1⟩, hb.out σ F1 H1 _ S1 fun u F2 H2 e2 S2 r2 => ?_⟩
    obtain rfl : u = V.str x := r2
    unfold idxO at h
    cases hf : xs.findIdx? (fun y => decide (y = x)) with
    | none => rw [hf] at h; cases h
    | some m =>
      rw [hf] at h
      cases h
      obtain ⟨hm, hx, hno⟩ := List.findIdx?_eq_some_iff_getElem.mp hf
      refine ⟨pa, xs.map V.str, .str x, m, .str xs[m], rfl, rfl, ex_sql (e2.trans S2.ex) h1, rfl, ?_, ?_, ?_, fun l z hl hz => ?_, q _ F2 H2 (e1.trans e2) S2 rfl⟩
      · rw [List.all_map, List.all_eq_true]; intro y _; rfl
      · rw [List.getElem?_map, List.getElem?_eq_getElem hm]; rfl
      · rw [eqv_str]; exact hx
      · have hl' : l < xs.length := Nat.lt_trans hl hm
        rw [List.getElem?_map, List.getElem?_eq_getElem hl'] at hz
        cases hz
        rw [eqv_str]
        have := hno l hl
        simpa using this)
/-! ### data with texts told apart, where every text is one -/
def okqS (z : Str) : Bool := z.cps.all (· < 0x110000)
def okqL {α : Type} (ok : α → Bool) (l : List α) : Bool := l.all ok
structure Df {α : Type} (K : PySem.W.Frag) (R : Rp α) (ok : α → Bool) where
  e : α → PyData
  r : ∀ F v a, R.r F v a → Dp K F v (e a)
  q : ∀ a b, PyData.eqv (e a) (e b) = true ↔ a = b
  c : ∀ a, ok a = true → (e a).canLay0 = true
  n : Nat
  d : ∀ a, (e a).depth ≤ n
section
variable {K : PySem.W.Frag} {α : Type} {R : Rp α} {ok : α → Bool}
def f_S : Df K RS okqS := ⟨PyData.str, fun F v a h => by rw [show v = V.str a from h]; exact .str a, fun a b => by simp [PyData.eqv], fun a h => by simp only [PyData.canLay0]; exact h, 0, fun a => by simp [PyData.depth]⟩
theorem dpAllF {F : Hp} (D : Df K R ok) {vs : List V} {as : List α} (h : All2 R F vs as) : DpAll K F vs (as.map D.e) := by
  have h' : Paired (fun v a => R.r F v a) vs as := h
  clear h
  induction h' with
  | nil => exact .nil
  | cons r t ih => exact .cons (D.r F _ _ r) ih
theorem eqvAllF (D : Df K R ok) : ∀ (as bs : List α), PyData.eqvAll (as.map D.e) (bs.map D.e) = true ↔ as = bs
  | [], [] => by simp [PyData.eqvAll]
  | [], b :: bs => by simp [PyData.eqvAll]
  | a :: as, [] => by simp [PyData.eqvAll]
  | a :: as, b :: bs => by simp [PyData.eqvAll, D.q, eqvAllF D as bs]
theorem canAllF (D : Df K R ok) : ∀ as : List α, as.all ok = true → PyData.canLayAll0 (as.map D.e) = true
  | [], _ => by simp [PyData.canLayAll0]
  | a :: as, h => by
    rw [List.all_cons, Bool.and_eq_true] at h
    simp [PyData.canLayAll0, D.c a h.1, canAllF D as h.2]
theorem depAllF (D : Df K R ok) : ∀ as : List α, PyData.depthAll (as.map D.e) ≤ D.n
  | [] => by simp [PyData.depthAll]
  | a :: as => by
    have h1 := D.d a
    have h2 := depAllF D as
    simp only [List.map_cons, PyData.depthAll]
    omega
def f_L (D : Df K R ok) : Df K (RL K R) (okqL ok) := ⟨fun l => .list (l.map D.e), fun F v l h => by obtain ⟨p, vs, rfl, h1, h2⟩ := h; exact .lst (.inl h1) (dpAllF D h2), fun a b => by simp [PyData.eqv, eqvAllF], fun a h => by simp only [PyData.canLay0]; exact canAllF D a h, D.n + 1, fun a => by have := depAllF D a; simp [PyData.depth]; omega⟩
theorem Df.sh (D : Df K R ok) (h : D.n ≤ 64) {a : α} (k : ok a = true) : SeqAt.shaped (D.e a) = true := by
  unfold SeqAt.shaped
  rw [D.c a k, decide_eq_true (Nat.le_trans (D.d a) h)]
  rfl
end
section
variable {X : Cx} {α : Type} {R : Rp α} {ok : α → Bool} {x y : α} {k : Nat}
theorem cmp_eqF [inst : Decidable (x = y)] (E : Df X.K R ok) (hr : Room k X.A) (h : E.n ≤ 64) (g : (ok x && ok y) = true) : Cmp X .Eq R x R y (decide (x = y)) := ⟨_, op_eqD (by have := room64 hr; omega), fun F H v u Q e r1 r2 q => ⟨E.e x, E.e y, ex_dp e (E.r F v x r1), ex_dp e (E.r F u y r2), E.sh h (Bool.and_eq_true _ _ ▸ g).1, E.sh h (Bool.and_eq_true _ _ ▸ g).2, q _ (by
  show V.bl _ = V.bl _
  congr 1
  rw [Bool.eq_iff_iff, E.q, decide_eq_true_iff])⟩⟩
theorem cmp_neF [inst : Decidable (x = y)] (E : Df X.K R ok) (hr : Room k X.A) (h : E.n ≤ 64) (g : (ok x && ok y) = true) : Cmp X .NotEq R x R y (!decide (x = y)) := ⟨_, op_neD (by have := room64 hr; omega), fun F H v u Q e r1 r2 q => ⟨E.e x, E.e y, ex_dp e (E.r F v x r1), ex_dp e (E.r F u y r2), E.sh h (Bool.and_eq_true _ _ ▸ g).1, E.sh h (Bool.and_eq_true _ _ ▸ g).2, q _ (by
  show V.bl _ = V.bl _
  congr 2
  rw [Bool.eq_iff_iff, E.q, decide_eq_true_iff])⟩⟩
theorem any_eqvF {K : PySem.W.Frag} (E : Df K R ok) (xs : List α) (x : α) [inst : Decidable (x ∈ xs)] : ((xs.map E.e).any fun z => PyData.eqv z (E.e x)) = decide (x ∈ xs) := by
  rw [Bool.eq_iff_iff, List.any_eq_true, decide_eq_true_iff]
  constructor
  · rintro ⟨z, h1, h2⟩
    obtain ⟨w, h3, rfl⟩ := List.mem_map.mp h1
    rw [← (E.q w x).mp h2]; exact h3
  · intro h
    exact ⟨E.e x, List.mem_map.mpr ⟨x, h, rfl⟩, (E.q x x).mpr rfl⟩
theorem cmp_inF {xs : List α} [inst : Decidable (x ∈ xs)] (E : Df X.K R ok) (hr : Room k X.A) (h : E.n < 64) (g : (ok x && okqL ok xs) = true) : Cmp X .In R x (RL X.K R) xs (decide (x ∈ xs)) := ⟨_, op_inD (room64 hr), fun F H v u Q e r1 r2 q => ⟨E.e x, xs.map E.e, ex_dp e (E.r F v x r1), ex_dp e ((f_L E).r F u xs r2), E.sh (by omega) (Bool.and_eq_true _ _ ▸ g).1, (f_L E).sh (by show E.n + 1 ≤ 64; omega) (Bool.and_eq_true _ _ ▸ g).2, q _ (by
  show V.bl _ = V.bl _
  rw [any_eqvF])⟩⟩
theorem cmp_ninF {xs : List α} [inst : Decidable (x ∈ xs)] (E : Df X.K R ok) (hr : Room k X.A) (h : E.n < 64) (g : (ok x && okqL ok xs) = true) : Cmp X .NotIn R x (RL X.K R) xs (!decide (x ∈ xs)) := ⟨_, op_notInD (room64 hr), fun F H v u Q e r1 r2 q => ⟨E.e x, xs.map E.e, ex_dp e (E.r F v x r1), ex_dp e ((f_L E).r F u xs r2), E.sh (by omega) (Bool.and_eq_true _ _ ▸ g).1, (f_L E).sh (by show E.n + 1 ≤ 64; omega) (Bool.and_eq_true _ _ ▸ g).2, q _ (by
  show V.bl _ = V.bl _
  rw [any_eqvF])⟩⟩
end
end Mz

namespace Mz
open PySem PySem.Spec PyProof.Rows L2
/-! ### more of texts -/
section
variable {X : Cx} {W : Fx} {G G1 G2 G3 : Gm} {e a b c tg : Expr} {es : List Expr} {α β : Type} {R : Rp α} {x : α} {pos p p2 : Pos} {n : Str} {lo hi : Option Expr} {l h : Option Int}
theorem ev_sliceS {u : Str} (ha : Ev X W a G RS u G1) (hl : EvP X W lo G1 l G2) (hh : EvP X W hi G2 h G3) (hz : u.length ≤ sizeLine) : Ev X W (.Subscript a (.Slice lo hi none p2) pos) G RS (Txt.slice u l h) G3 := .mk fun σ F H Q S q => by
  obtain ⟨t1, p1, k1⟩ := hl
  obtain ⟨t2, p2', k2⟩ := hh
  refine toE (pe_slice C8.sl_txt wE_pe p1 p2') (ha.out σ F H _ S fun v F1 H1 e1 S1 r1 => k1 σ F1 H1 _ S1 fun F2 H2 e2 S2 => k2 σ F2 H2 _ S2 fun F3 H3 e3 S3 => ?_)
  exact ⟨u, r1, hz, q _ F3 H3 (e1.trans (e2.trans e3)) S3 rfl⟩
/-- a in b, two texts -/
def inS (a b : Str) : Bool := !(Builtin.Str.occurrences b a 0 b.length 1).isEmpty
theorem cmp_inS {u z : Str} : Cmp X .In RS u RS z (inS u z) := ⟨_, op_in_str, fun F H v w Q e r1 r2 q => ⟨u, z, r1, r2, q _ rfl⟩⟩
theorem cmp_ninS {u z : Str} : Cmp X .NotIn RS u RS z (!inS u z) := ⟨_, op_notIn_str, fun F H v w Q e r1 r2 q => ⟨u, z, r1, r2, q _ rfl⟩⟩
theorem inS_one (z : Str) (c : Nat) : inS ⟨#[c]⟩ z = decide (c ∈ z.cps.toList) := PySem.StrLaws.found_one z c
/-- the signs of a text -/
def sigs (z : Str) : List Str := z.cps.toList.map fun c => ⟨#[c]⟩
theorem src_str {z : Str} (hz : z.length ≤ sizeLine) (h : Ev X W e G RS z G1) : Src X W tg e G RS (sigs z) G1 := ⟨_, pi_str wE_pe, fun σ F H P S q => h.out σ F H _ S fun v F1 H1 e1 S1 r1 => by
  have len : (sigs z).length = z.cps.size := by unfold sigs; rw [List.length_map, Array.length_toList]
  refine ⟨z, r1, q _ F1 H1 e1 S1 ⟨fun i F H _ _ hi => by rw [len] at hi; exact hi, fun F H _ _ _ => by rw [len]; exact hz, fun i y F H _ _ hy => ?_, fun i y F H v H' _ b hy hv => ?_⟩⟩
  · have := (List.getElem?_eq_some_iff.mp hy).1
    rw [len] at this
    exact this
  · obtain ⟨rfl, c, h1, rfl⟩ := hv
    refine ⟨F, Ex.refl F, b, Ex.refl _, fun _ _ => .inl rfl, ?_⟩
    unfold sigs at hy
    rw [List.getElem?_map, Array.getElem?_toList, h1] at hy
    cases Option.some.inj hy
    rfl⟩
/-- int(t) -/
def intS (z : Str) : Option Int := if z.length ≤ 640 then PySem.intText? z else none
theorem ev_intS {z : Str} {k : Int} (h : intS z = some k) (hm : X.mg "int" = none) (ha : Ev X W a G RS z G1) (hg : Gl X "int" := by rfl) (hs : starEach [a] X.env = (false, eval a X.env) :: starEach [] X.env := by rfl) : Ev X W (.Call (.Name "int" p) [a] [] pos) G RI k G1 := by
  unfold intS at h
  split at h
  · rename_i c
    exact ev_ct1 call_int_str hm (by decide +kernel) ha (fun F H v Q e r q => ⟨z, k, by rw [show v = V.str z from r], h, c, q _ rfl⟩) hg (by decide) (by decide) hs
  · cases h
end
/-! ### {..}[k] -/
section
variable {κ' κ β : Type} [DecidableEq κ'] [DecidableEq κ] {Rk : Rp κ} {KD : Kx κ' Rk} {R : Rp β} {d : List (κ × β)}
variable {X : Cx} {W : Fx} {G G1 G2 : Gm} {a b : Expr} {pos : Pos} {N : Nat} {k : κ} {x : β}
theorem ev_dgetO (h : dgt d k = some x) (hr : Room N X.A) (ha : EvO X W a G (fun l => QD l KD R d) G1) (hb : Ev X W b G1 Rk k G2) (hs : NoSl b := by exact fun _ _ => rfl) : Ev X W (.Subscript a b pos) G R x G2 := .mk fun σ F H Q S q =>
  toE (pe_dget (hu_of hr) wE_pe wE_pe hs) (ha.out σ F H _ S fun l F1 H1 e1 S1 ⟨⟨kvs, n1, n2⟩, n3⟩ => by
    have nl := n3 l (List.mem_singleton.mpr rfl)
    have e2 : Ex F1 (upd F1 l (KD.ho kvs)) := Ex.new nl.1
    have S2 : Sat W G1 σ (upd F1 l (KD.ho kvs)) H1 := by
      refine S1.stepG e2 (fun b o hb => ?_) (Ex.refl _) (fun b hb => ?_) (fun i P b h1 h2 => ?_) fun pt hpt => ?_
      · by_cases z : b = l
        · subst z; rw [upd_same] at hb; cases hb; exact n1
        · rw [upd_ne z] at hb; exact S1.ex b o hb
      · rw [upd_ne fun z => hb (by rw [z]; exact nl.2.1)]; exact S1.wf b hb
      · rw [upd_ne fun z => nl.2.2.2 i P h1 (by rw [← z]; exact h2)]; exact (S1.fr i P b h1 h2).1
      · obtain ⟨ps, hz⟩ := S1.tt.H0 pt hpt
        rw [upd_ne fun z => by
          rw [z, n1] at hz
          exact KD.plo kvs |> fun y => by rw [Option.some.inj hz] at y; exact y]; exact S1.tt.F0 pt hpt
    refine hb.out σ _ H1 _ S2 fun u F3 H3 e3 S3 r3 => ?_
    obtain ⟨w, h4, h5⟩ := (n2.val KD.inj k).1 x h
    refine ⟨l, w, rfl, ?_, q w F3 H3 (e1.trans (e2.trans e3)) S3 (R.mono (e2.trans e3) h5)⟩
    rw [← h4]
    exact KD.get S3.ex r3 (.inl (S3.ex _ _ (e3 _ _ upd_same))))
end
/-! ### a def that tells a new list, or None -/
def OwnO {α : Type} (R : Rp α) : Option (List α) → Sd → Prop
  | none, P => P = imm RU ()
  | some q, P => ∃ l, P = own l (QL l R q)
section
variable {X : Cx} {W : Fx} {G G1 : Gm} {e : Expr} {es : List Expr} {α : Type} {R : Rp α} {pos p : Pos} {n : Str} {k : Nat} {f : Addr} {fd : FuncData} {ps : List Str} {sp : Sp} {Ps : List Sd} {o : Option (List α)} {xs : List α}
theorem eo_callOO (ho : o = some xs) (Fn : FnOk X.prog X.w X.K X.mg X.base CX0 k f fd ps sp) (hr : Room k X.A) (hm : X.mg n = some (.ref f)) (hk : PySem.W.keepIn X.K (.ref f) = true) (hb : Binds X.K fd ps []) (ha : EvA X W (e :: es) G Ps G1)
    (hsp : ∀ vs H (Qk : VK) W' F', W'.tb = W.tb → Sat W' (Ps.map some) (vs.map some) F' H → (∀ v H', Rt W' (OwnO R) (fun _ => []) o v H' → Qk v H') → sp vs H Qk E0) (hg : Gl X n := by rfl)
    (hdb : (n == ("__debug__" : Str)) = false := by decide) (he : starEach (e :: es) X.env = (false, eval e X.env) :: starEach es X.env := by rfl) (hpl : (backTo pos (starEach es X.env)).any (·.1) = false := by rfl) :
    EvO X W (.Call (.Name n p) (e :: es) [] pos) G (fun l => QL l R xs) G1 := by
  subst ho
  exact eo_call Fn hr hm hk hb ha (fun vs H Qk W' F' hT S k => hsp vs H Qk W' F' hT S fun v H' ⟨P, F2, vs2, hP, S2⟩ => k v H' ⟨P, F2, vs2, hP, S2⟩) hg hdb he hpl
theorem ev_callOO (Fn : FnOk X.prog X.w X.K X.mg X.base CX0 k f fd ps sp) (hr : Room k X.A) (hm : X.mg n = some (.ref f)) (hk : PySem.W.keepIn X.K (.ref f) = true) (hb : Binds X.K fd ps []) (ha : EvA X W (e :: es) G Ps G1)
    (hsp : ∀ vs H (Qk : VK) W' F', W'.tb = W.tb → Sat W' (Ps.map some) (vs.map some) F' H → (∀ v H', Rt W' (OwnO R) (fun _ => []) o v H' → Qk v H') → sp vs H Qk E0) (hg : Gl X n := by rfl)
    (hdb : (n == ("__debug__" : Str)) = false := by decide) (he : starEach (e :: es) X.env = (false, eval e X.env) :: starEach es X.env := by rfl) (hpl : (backTo pos (starEach es X.env)).any (·.1) = false := by rfl) :
    Ev X W (.Call (.Name n p) (e :: es) [] pos) G (RO (RL X.K R)) o G1 := by
  cases o with
  | some xs => exact ev_some nn_L (EvO.fix (eo_callOO rfl Fn hr hm hk hb ha hsp hg hdb he hpl))
  | none => exact Ev.none (ev_call (R := RU) (r := ()) Fn hr hm hk hb ha (fun vs H Qk W' F' hT S k => hsp vs H Qk W' F' hT S fun v H' ⟨P, F2, vs2, hP, S2⟩ => k v H' ⟨P, F2, vs2, hP, S2⟩) hg hdb he hpl)
end
end Mz

namespace Mz
open PySem PySem.Spec PyProof.Rows L2
/-! ### new lists within kept data; whole trees of new lists handed back -/
/-- a known list at a place of which φ holds -/
def RLp {α : Type} (φ : Addr → Prop) (R : Rp α) : Rp (List α) := ⟨fun F v as => ∃ p vs, v = .ref p ∧ F p = some (.lst vs) ∧ φ p ∧ All2 R F vs as, fun {F F' v as} e h => by
  obtain ⟨p, vs, h1, h2, h3, h4⟩ := h
  exact ⟨p, vs, h1, e _ _ h2, h3, h4.mono e⟩⟩
/-- new since the def's entry -/
def Fsh (W : Fx) (p : Addr) : Prop := W.f0 p = none ∧ W.w p = none
def Sb {α : Type} (R R' : Rp α) : Prop := ∀ F v a, R.r F v a → R'.r F v a
def SbR {α : Type} (R R' : Rs α) : Prop := ∀ F v a, R.r F v a → R'.r F v a
section
variable {K : PySem.W.Frag} {α β : Type} {R R' : Rp α} {T T' : Rs α} {U U' : Rs β} {φ : Addr → Prop}
theorem sb_refl : Sb R R := fun _ _ _ h => h
theorem sb_all (h : Sb R R') {F : Hp} {vs : List V} {as : List α} (q : All2 R F vs as) : All2 R' F vs as := Paired.mapP q fun _ _ z => h _ _ _ z
theorem sb_p (h : Sb R R') : Sb (RLp φ R) (RL K R') := fun F v a ⟨p, vs, h1, h2, _, h4⟩ => ⟨p, vs, h1, .inl h2, sb_all h h4⟩
theorem sb_L (h : Sb R R') : Sb (RL K R) (RL K R') := fun F v a ⟨p, vs, h1, h2, h4⟩ => ⟨p, vs, h1, h2, sb_all h h4⟩
theorem sb_V (h : Sb R R') : Sb (RV K R) (RV K R') := fun F v a ⟨p, vs, h1, h2, h4⟩ => ⟨p, vs, h1, h2, sb_all h h4⟩
theorem sb_O (h : Sb R R') : Sb (RO R) (RO R') := fun F v a q => by
  cases a with
  | none => exact q
  | some a => exact ⟨h _ _ _ q.1, q.2⟩
theorem sb_T (h : SbR T T') : Sb (RT K T) (RT K T') := fun F v a ⟨p, vs, h1, h2, h4⟩ => ⟨p, vs, h1, h2, h _ _ _ h4⟩
theorem sb_H (h : SbR T T') : Sb (RH T) (RH T') := fun F v a ⟨p, vs, h1, h2, h4⟩ => ⟨p, vs, h1, h2, h _ _ _ h4⟩
theorem sbr_1 (h : Sb R R') : SbR (R1 R) (R1 R') := fun F v a ⟨u, h1, h2⟩ => ⟨u, h1, h _ _ _ h2⟩
theorem sbr_C (h : Sb R R') (g : SbR U U') : SbR (RC R U) (RC R' U') := fun F v a ⟨u, ws, h1, h2, h3⟩ => ⟨u, ws, h1, h _ _ _ h2, g _ _ _ h3⟩
theorem nn_P : NN (RLp φ R) := fun F v a h z => by obtain ⟨p, vs, e, _⟩ := h; rw [e] at z; cases z
end
/-- holds for more places -/
def Mo {α : Type} (Rf : (Addr → Prop) → Rp α) : Prop := ∀ (F : Hp) (φ ψ : Addr → Prop) (v : V) (x : α), (∀ p vs, F p = some (.lst vs) → φ p → ψ p) → (Rf φ).r F v x → (Rf ψ).r F v x
def MoR {α : Type} (Rf : (Addr → Prop) → Rs α) : Prop := ∀ (F : Hp) (φ ψ : Addr → Prop) (v : List V) (x : α), (∀ p vs, F p = some (.lst vs) → φ p → ψ p) → (Rf φ).r F v x → (Rf ψ).r F v x
section
variable {K : PySem.W.Frag} {α β : Type} {R : Rp α} {Rf : (Addr → Prop) → Rp α} {Tf : (Addr → Prop) → Rs α} {Uf : (Addr → Prop) → Rs β}
theorem mo_k : Mo fun _ => R := fun _ _ _ _ _ _ h => h
theorem mo_all (h : Mo Rf) {F : Hp} {φ ψ : Addr → Prop} (k : ∀ p vs, F p = some (.lst vs) → φ p → ψ p) {vs : List V} {as : List α} (q : All2 (Rf φ) F vs as) : All2 (Rf ψ) F vs as := Paired.mapP q fun _ _ z => h _ _ _ _ _ k z
theorem mo_p (h : Mo Rf) : Mo fun φ => RLp φ (Rf φ) := fun F φ ψ v x k ⟨p, vs, h1, h2, h3, h4⟩ => ⟨p, vs, h1, h2, k _ _ h2 h3, mo_all h k h4⟩
theorem mo_L (h : Mo Rf) : Mo fun φ => RL K (Rf φ) := fun F φ ψ v x k ⟨p, vs, h1, h2, h4⟩ => ⟨p, vs, h1, h2, mo_all h k h4⟩
theorem mo_V (h : Mo Rf) : Mo fun φ => RV K (Rf φ) := fun F φ ψ v x k ⟨p, vs, h1, h2, h4⟩ => ⟨p, vs, h1, h2, mo_all h k h4⟩
theorem mo_O (h : Mo Rf) : Mo fun φ => RO (Rf φ) := fun F φ ψ v x k q => by
  cases x with
  | none => exact q
  | some a => exact ⟨h _ _ _ _ _ k q.1, q.2⟩
theorem mo_T (h : MoR Tf) : Mo fun φ => RT K (Tf φ) := fun F φ ψ v x k ⟨p, vs, h1, h2, h4⟩ => ⟨p, vs, h1, h2, h _ _ _ _ _ k h4⟩
theorem mo_H (h : MoR Tf) : Mo fun φ => RH (Tf φ) := fun F φ ψ v x k ⟨p, vs, h1, h2, h4⟩ => ⟨p, vs, h1, h2, h _ _ _ _ _ k h4⟩
theorem mor_1 (h : Mo Rf) : MoR fun φ => R1 (Rf φ) := fun F φ ψ v x k ⟨u, h1, h2⟩ => ⟨u, h1, h _ _ _ _ _ k h2⟩
theorem mor_C (h : Mo Rf) (g : MoR Uf) : MoR fun φ => RC (Rf φ) (Uf φ) := fun F φ ψ v x k ⟨u, ws, h1, h2, h3⟩ => ⟨u, ws, h1, h _ _ _ _ _ k h2, g _ _ _ _ _ k h3⟩
end
open Classical in
noncomputable def mrg (fp : List Addr) (F H : Hp) : Hp := fun a => if a ∈ fp then H a else F a
theorem mrg_in {fp : List Addr} {F H : Hp} {a : Addr} (h : a ∈ fp) : mrg fp F H a = H a := if_pos h
theorem mrg_out {fp : List Addr} {F H : Hp} {a : Addr} (h : a ∉ fp) : mrg fp F H a = F a := if_neg h
theorem mrg_ex {fp : List Addr} {F H : Hp} (h : ∀ a ∈ fp, F a = none) : Ex F (mrg fp F H) := fun a o e => by
  rw [mrg_out fun z => by rw [h a z] at e; cases e]; exact e
theorem mrg_le {fp : List Addr} {F F0 H : Hp} (e : Ex F F0) (h : ∀ a ∈ fp, F0 a = H a) : Ex (mrg fp F H) F0 := fun a o q => by
  by_cases z : a ∈ fp
  · rw [mrg_in z] at q; rw [h a z]; exact q
  · rw [mrg_out z] at q; exact e a o q
/-- a datum with all the lists of fp, that stand for it alone -/
noncomputable def tree {α : Type} (fp : List Addr) (R : Rp α) (x : α) : Sd := ⟨fp, fun F H v => R.r (mrg fp F H) v x ∧ ∀ a ∈ fp, ∃ xs, H a = some (.lst xs), (fun {F F' H H' v} e f h => by
  refine ⟨R.mono (fun a o q => ?_) h.1, fun a ha => ?_⟩
  · by_cases z : a ∈ fp
    · rw [mrg_in z] at q ⊢; rw [f a z]; exact q
    · rw [mrg_out z] at q ⊢; exact e a o q
  · rw [f a ha]; exact h.2 a ha), fun {F H v} h a ha => by
  obtain ⟨ys, e⟩ := h.2 a ha
  exact ⟨_, e, trivial⟩⟩
theorem fz_tree {α : Type} {fp : List Addr} {R R' : Rp α} {x : α} (h : Sb R R') : Fzd (tree fp R x) (imm R' x) := ⟨rfl, fun F F0 H v e k q => h _ _ _ (R.mono (mrg_le e k) q.1)⟩
theorem fz2_tree {α : Type} {fp : List Addr} {R R' : Rp α} {x : α} (h : Sb R R') : Fz2 (tree fp R x) (imm R' x) := ⟨fz_tree h, fun F H v a q m => by
  obtain ⟨xs, e⟩ := q.2 a m
  exact ⟨_, e, trivial⟩⟩
section
variable {X : Cx} {W We : Fx} {G G0 G1 G2 : Gm} {D : Ends} {rest : List Stmt} {a b e : Expr} {es : List Expr} {α β : Type} {R R' : Rp α} {T : Rp β} {x : α} {y : β} {pos p p' : Pos} {n : Str} {i : Nat}
theorem Ev.sb (h : Sb R R') (q : Ev X W e G R x G1) : Ev X W e G R' x G1 := q.as fun _ _ z => h _ _ _ z
/-- a new list that is kept as it is, known to be new -/
theorem EvO.fixF {as : List α} (h : EvO X W a G (fun l => QL l R as) G1) (le : We.lw W) : Ev X W a G (RLp (Fsh We) R) as G1 := .mk fun σ F H Q S q =>
  h.out σ F H Q S fun l F' H' e1 S1 ⟨⟨vs, n1, n2⟩, n3⟩ => by
    have nl := n3 l (List.mem_singleton.mpr rfl)
    have e2 : Ex F' (upd F' l (.lst vs)) := Ex.new nl.1
    have f0 : We.f0 l = none := by
      cases z : We.f0 l with
      | none => rfl
      | some o =>
        have := S1.f0 _ _ (le.2.1 _ _ z)
        rw [nl.1] at this; cases this
    refine q (.ref l) (upd F' l (.lst vs)) H' (e1.trans e2) ?_ ⟨l, vs, rfl, upd_same, ⟨f0, le.1 _ nl.2.1⟩, n2.mono e2⟩
    refine S1.stepG e2 (fun b o hb => ?_) (Ex.refl _) (fun b hb => ?_) (fun i P b h1 h2 => ?_) fun pt hpt => ?_
    · by_cases z : b = l
      · subst z; rw [upd_same] at hb; cases hb; exact n1
      · rw [upd_ne z] at hb; exact S1.ex b o hb
    · rw [upd_ne fun z => hb (by rw [z]; exact nl.2.1)]; exact S1.wf b hb
    · rw [upd_ne fun z => nl.2.2.2 i P h1 (by rw [← z]; exact h2)]; exact (S1.fr i P b h1 h2).1
    · obtain ⟨ps, hz⟩ := S1.tt.H0 pt hpt
      rw [upd_ne fun z => by rw [z, n1] at hz; cases hz]; exact S1.tt.F0 pt hpt
theorem Fx.le.trans {W0 W1 W2 : Fx} (h : W0.le W1) (g : W1.le W2) : W0.le W2 := ⟨g.1.trans h.1, h.2.1.trans g.2.1, g.2.2.trans h.2.2⟩
theorem we_start (W : Fx) : ∃ We : Fx, We = W := ⟨W, rfl⟩
/-- the known part of memory has an end -/
theorem wE_fin {σ H Q} (h : wE X e σ H fun v H' => (∃ N : Nat, ∀ a, H' a ≠ none → a < N) → Q v H') : wE X e σ H Q := fun pins s I => thn (h pins s I) fun u s1 ⟨v, H', I', r, q⟩ => ⟨v, H', I', r, fun b => q b ⟨s1.heap.objs.size, fun a ha => by
  cases z : H' a with
  | none => exact absurd z ha
  | some o => exact I'.hok.lt z⟩⟩
open Classical in
theorem tree_of {F H : Hp} {v : V} {N : Nat} (Rf : (Addr → Prop) → Rp α) (mo : Mo Rf) (S : Sat W G (σ : L2.St) F H) (le : We.le W) (hN : ∀ a, H a ≠ none → a < N) (r : (Rf (Fsh We)).r F v x) :
    ∃ fp F2, Sat We (some (tree fp (Rf (· ∈ fp)) x) :: []) (some v :: []) F2 H := by
  let fp : List Addr := (List.range N).filter fun a => decide ((∃ xs, F a = some (.lst xs)) ∧ Fsh We a)
  have in1 : ∀ a, a ∈ fp → (∃ xs, F a = some (.lst xs)) ∧ Fsh We a := fun a h => of_decide_eq_true (List.mem_filter.mp h).2
  have in2 : ∀ a xs, F a = some (.lst xs) → Fsh We a → a ∈ fp := fun a xs h k => List.mem_filter.mpr ⟨List.mem_range.mpr (hN a (by rw [S.ex a _ h]; intro z; cases z)), decide_eq_true ⟨⟨xs, h⟩, k⟩⟩
  have e2 : Ex (fun a => if a ∈ fp then none else F a) F := fun a o h => by
    have h' : (if a ∈ fp then none else F a) = some o := h
    by_cases z : a ∈ fp
    · rw [if_pos z] at h'; cases h'
    · rw [if_neg z] at h'; exact h'
  have e3 : Ex F (mrg fp (fun a => if a ∈ fp then none else F a) H) := fun a o h => by
    by_cases z : a ∈ fp
    · rw [mrg_in z]; exact S.ex a o h
    · rw [mrg_out z]; show (if a ∈ fp then none else F a) = some o; rw [if_neg z]; exact h
  refine ⟨fp, fun a => if a ∈ fp then none else F a, rfl, e2.trans S.ex, fun a o h => ?_, fun a o h => ?_, fun a h => ?_, fun j P hj => ?_, fun j k P Q a hj hk m1 m2 => ?_, fun j P a hj m => ?_, ?_⟩
  · show (if a ∈ fp then none else F a) = some o
    rw [if_neg fun z => by have := (in1 a z).2.1; rw [h] at this; cases this]
    exact S.f0 _ _ (le.2.1 _ _ h)
  · exact S.wx _ _ (by rw [le.1]; exact h)
  · show (if a ∈ fp then none else F a) = none ∨ _
    by_cases z : a ∈ fp
    · exact .inl (if_pos z)
    · rw [if_neg z, ← le.1]; exact S.wf a (by rw [le.1]; exact h)
  · cases j with
    | zero =>
      cases Option.some.inj (Option.some.inj hj)
      refine ⟨v, rfl, mo _ _ _ _ _ (fun p vs hp hf => ?_) ((Rf (Fsh We)).mono e3 r), fun a ha => ?_⟩
      · by_cases z : p ∈ fp
        · exact z
        · rw [mrg_out z] at hp
          have hp' : (if p ∈ fp then none else F p) = some (.lst vs) := hp
          rw [if_neg z] at hp'
          exact in2 p vs hp' hf
      · obtain ⟨xs, h⟩ := (in1 a ha).1
        exact ⟨xs, S.ex _ _ h⟩
    | succ j => cases j <;> exact nomatch hj
  · cases j with
    | zero =>
      cases k with
      | zero => rfl
      | succ k => cases k <;> exact nomatch hk
    | succ j => cases j <;> exact nomatch hj
  · cases j with
    | zero =>
      cases Option.some.inj (Option.some.inj hj)
      have z : a ∈ fp := m
      obtain ⟨⟨xs, h⟩, k⟩ := in1 a z
      exact ⟨if_pos z, k.2, by rw [S.ex _ _ h]; intro z; cases z⟩
    | succ j => cases j <;> exact nomatch hj
  · have tt := S.tt
    rw [le.1, le.2.2] at tt
    refine tt.go tt.w0 (fun p hp => ?_) (fun p hp j P hj m => ?_) (fun p _ o h => h) fun c q h => ?_
    · show (if p.1 ∈ fp then none else F p.1) = none
      by_cases z : p.1 ∈ fp
      · exact if_pos z
      · rw [if_neg z]; exact tt.F0 p hp
    · cases j with
      | zero =>
        cases Option.some.inj (Option.some.inj hj)
        obtain ⟨⟨xs, h⟩, _⟩ := in1 p.1 m
        rw [tt.F0 p hp] at h; cases h
      | succ j => cases j <;> exact nomatch hj
    · show (if c ∈ fp then none else F c) = _
      rw [if_neg fun z => by obtain ⟨⟨xs, h'⟩, _⟩ := in1 c z; rw [h] at h'; cases h']
      exact h
/-- a return of a whole tree of new lists -/
theorem s_retX {ρ : Type} {Or : ρ → Sd → Prop} {Outs : ρ → List Sd} {q : ρ} (Rf : (Addr → Prop) → Rp α) (mo : Mo Rf) (hr : ∀ v H, Rt We Or Outs q v H → D.rt v H) (he : Ev X W e G (Rf (Fsh We)) x G1) (ho : Outs q = []) (hO : ∀ fp : List Addr, Or q (tree fp (Rf (· ∈ fp)) x)) (le : We.le W) :
    Tr W G (wS X (.Return (some e) pos :: rest) D) := .mk fun σ F H S =>
  toS (pss_cons (ps_ret wE_pe) wS_ps) (wE_fin (he.out σ F H _ S fun v F' H' e1 S' r1 ⟨N, hN⟩ => by
    obtain ⟨fp, F2, S2⟩ := tree_of (σ := σ) Rf mo S' le hN r1
    exact hr v H' ⟨_, F2, [], hO fp, by rw [ho]; exact S2⟩))
def OwnX {ρ : Type} (P : List Addr → ρ → Sd) : ρ → Sd → Prop := fun q S => ∃ fp, S = P fp q
/-- a new tree -/
def EvX (X : Cx) (W : Fx) (e : Expr) (G : Gm) (P : List Addr → Sd) (G' : Gm) : Prop :=
  Lk (∀ σ F H (Q : VK), Sat W G σ F H → (∀ fp v F' H', Ex F F' → Sat W G' σ F' H' → (P fp).p F' H' v → (∀ a ∈ (P fp).fp, F' a = none ∧ W.w a = none ∧ H' a ≠ none ∧ ∀ (j : Nat) (P' : Sd), G'[j]? = some (some P') → a ∉ P'.fp) → Q v H') → wE X e σ H Q)
theorem ex_call {k : Nat} {f : Addr} {fd : FuncData} {ps : List Str} {sp : Sp} {Ps : List Sd} {ρ : Type} {r : ρ} {P : List Addr → ρ → Sd} (Fn : FnOk X.prog X.w X.K X.mg X.base CX0 k f fd ps sp) (hr : Room k X.A) (hm : X.mg n = some (.ref f)) (hk : PySem.W.keepIn X.K (.ref f) = true) (hb : Binds X.K fd ps []) (ha : EvA X W (e :: es) G Ps G1)
    (hsp : ∀ vs H (Qk : VK) W' F', W'.tb = W.tb → Sat W' (Ps.map some) (vs.map some) F' H → (∀ v H', Rt W' (OwnX P) (fun _ => []) r v H' → Qk v H') → sp vs H Qk E0) (hg : Gl X n := by rfl)
    (hdb : (n == ("__debug__" : Str)) = false := by decide) (he : starEach (e :: es) X.env = (false, eval e X.env) :: starEach es X.env := by rfl) (hpl : (backTo pos (starEach es X.env)).any (·.1) = false := by rfl) :
    EvX X W (.Call (.Name n p) (e :: es) [] pos) G (fun fp => P fp r) G1 := .mk fun σ F H Q S q =>
  toE (pe_call Fn hr hg hm hk hb .nil pass0 wA_pa hdb he hpl) (ha.out σ F H _ S fun vs F1 H1 e1 S1 r1 => by
    rw [List.append_nil]
    refine hsp vs H1 Q (W.rest F1 H1) F1 rfl (S1.args r1) fun v H' hv => ?_
    obtain ⟨P', F', vs', ⟨fp, rfl⟩, S'⟩ := hv
    obtain ⟨w, h1, h2⟩ := S'.sl 0 _ rfl
    cases Option.some.inj (Option.some.inj h1)
    exact q fp v F' H' (e1.trans S'.f0) (S1.ret0 S') h2 fun a ha => ret_new S1 S' (i := 0) rfl ha)
/-- a new tree that is kept as it is -/
theorem EvX.fix {Rf : List Addr → Rp α} (h : EvX X W a G (fun fp => tree fp (Rf fp) x) G1) (sb : ∀ fp, Sb (Rf fp) R') : Ev X W a G R' x G1 := .mk fun σ F H Q S q =>
  h.out σ F H Q S fun fp v F' H' e1 S1 ⟨n1, n2⟩ n3 => by
    have e2 : Ex F' (mrg fp F' H') := mrg_ex fun a ha => (n3 a ha).1
    refine q v (mrg fp F' H') H' (e1.trans e2) ?_ (sb fp _ _ _ n1)
    refine S1.stepG e2 (mrg_le S1.ex fun _ _ => rfl) (Ex.refl _) (fun b hb => ?_) (fun i P b h1 h2 => ?_) fun pt hpt => ?_
    · rw [mrg_out (fp := fp) fun z => hb (n3 b z).2.1]; exact S1.wf b hb
    · rw [mrg_out (fp := fp) fun z => (n3 b z).2.2.2 i P h1 h2]; exact (S1.fr i P b h1 h2).1
    · obtain ⟨ps, hz⟩ := S1.tt.H0 pt hpt
      rw [mrg_out (fp := fp) fun z => by obtain ⟨xs, h⟩ := n2 _ z; rw [hz] at h; cases h]; exact S1.tt.F0 pt hpt
/-- x = a new tree -/
theorem s_newX {O : List Addr → Sd} (he : EvX X W e G O G1) (hN : X.N.Nodup) (hi : X.N[i]? = some n) (hx : Loc X.env.scope n) (q : ∀ fp, Tr W (G1.set i (some (O fp))) (wS X rest D)) (hs : swapsWith e (some (.Name n p')) pos.line X.env = pure false := by rfl)
    (hf : X.fn n = true ∨ X.env.scope.names.lookup n = some .local := by first | exact .inl rfl | exact .inr rfl) :
    Tr W G (wS X (.Assign [.Name n p'] e pos :: rest) D) := .mk fun σ F H S =>
  toS (pss_cons (ps_set hN hi hx wE_pe hs hf) wS_ps) (he.out σ F H _ S fun fp v F' H' e1 S' n1 n2 => (q fp).out (σ.set i (some v)) F' H' (S'.set (P := O fp) n1 n2))
/-- one of a tree's lists is changed: the tree is forgotten -/
theorem Sat.dropM {σ : L2.St} {F H H' : Hp} {P : Sd} (S : Sat W G σ F H) (hi : G[i]? = some (some P)) (ex : ∀ a, a ∉ P.fp → H' a = H a) : Sat W (G.set i none) σ F H' := by
  have nf : ∀ a, a ∈ P.fp → F a = none ∧ W.w a = none ∧ H a ≠ none := fun a h => S.fr i _ a hi h
  have go : ∀ {j : Nat} {Q : Sd}, (G.set i none)[j]? = some (some Q) → j ≠ i ∧ G[j]? = some (some Q) := fun {j Q} h => by
    rcases get_set h with ⟨_, e⟩ | h
    · cases e
    · exact h
  refine ⟨by rw [List.length_set]; exact S.len, fun a o h => ?_, S.f0, fun a o h => ?_, S.wf, fun j Q h2 => ?_, fun j k Q T a h1 h2 m1 m2 => S.dj j k Q T a (go h1).2 (go h2).2 m1 m2, fun j Q a h1 h2 => ?_, S.tt.go S.tt.w0 S.tt.F0 (fun p hp j Q h m => S.tt.G0 p hp j Q (go h).2 m) (fun p hp o h => by rw [ex p.1 (S.tt.G0 p hp i P hi)]; exact h) fun c q h => h⟩
  · rw [ex a fun z => by rw [(nf a z).1] at h; cases h]
    exact S.ex a o h
  · rw [ex a fun z => by rw [(nf a z).2.1] at h; cases h]
    exact S.wx a o h
  · obtain ⟨ne, e⟩ := go h2
    obtain ⟨v, h3, h4⟩ := S.sl j Q e
    exact ⟨v, h3, Q.st (Ex.refl F) (fun a m => ex a fun z => ne (S.dj j i Q _ a e hi m z)) h4⟩
  · obtain ⟨ne, e⟩ := go h1
    obtain ⟨q1, q2, q3⟩ := S.fr j Q a e h2
    refine ⟨q1, q2, ?_⟩
    rw [ex a fun z => ne (S.dj j i Q _ a e hi h2 z)]
    exact q3
/-- a.append(e), a a list of the tree at i, that is forgotten -/
theorem s_appX {fp : List Addr} {xs : List β} {U : Rp α} {γ : Type} {R0 : Rp γ} {z : γ} {apos cpos spos : Pos} (hG : G[i]? = some (some (tree fp R0 z))) (hl : Ln G G0) (ha : Ev X W a G0 (RLp (· ∈ fp) T) xs G0) (hn : xs.length < 16000000) (he : Ev X W e G0 U x G0)
    (q : Tr W (G.set i none) (wS X rest D)) (hs : starEach [e] X.env = (false, eval e X.env) :: starEach [] X.env := by rfl) (hbase : attributeBase a "append" X.env (eval a X.env) = eval a X.env := by rfl)
    (hfew : ((backTo cpos (starEach [e] X.env)).all (fun x => !x.1) && (backToKw cpos (keywordEach [] X.env)).all (fun x => x.1.isSome)
      && decide ([e].length + ([] : List Keyword).length + (if ([] : List Keyword).isEmpty then 0 else 1) < 30)) = true := by rfl)
    (hline : (apos.endLine == cpos.line) = true := by rfl)
    (hsw : swapsWith (.Call (.Attribute a "append" apos) [e] [] cpos) none spos.line X.env = pure false := by rfl) :
    Tr W G (wS X (.Expr (.Call (.Attribute a "append" apos) [e] [] cpos) spos :: rest) D) := .mk fun σ F H S => by
  obtain ⟨F0, e0, S0, bk⟩ := lend_go hl S
  refine toS (pss_cons (ps_expr (pe_bm PySem.F.plainAttrs_list PySem.F.slot_list_append PySem.F.type_list_append mt_append wE_pe (pa_cons wE_pe pa_nil hs) hbase hfew hline hs (by rfl)) hsw) wS_ps) ?_
  refine ha.out σ F0 H _ S0 fun v F1 H1 e1 S1 r1 => ?_
  obtain ⟨pa, vs, rfl, h1, h2, h3⟩ := r1
  refine ⟨.inl ⟨rfl, vs, .inl (.inl (S1.ex _ _ h1))⟩, he.out σ F1 H1 _ S1 fun w F2 H2 e2 S2 r2 => ?_⟩
  obtain ⟨F3, e3, S3⟩ := bk F2 H2 (e1.trans e2) S2
  refine ⟨pa, vs, w, rfl, rfl, S2.ex _ _ (e2 _ _ h1), by rw [h3.len]; exact size16 hn, ?_⟩
  exact q.out σ F3 _ (S3.dropM hG fun b hb => upd_ne fun z => hb (by rw [z]; exact h2))
/-- what slot i owns stands fast from here on, known to be new -/
theorem s_fixF {l : Addr} {as : List α} {P : L2.St → Hp → Prop} (i : Nat) (hi : G[i]? = some (some (own l (QL l R as)))) (le : We.le W) (q : Tr W (G.set i (some (imm (RLp (Fsh We) R) as))) P) : Tr W G P := .mk fun σ F H S => by
  obtain ⟨v, h1, rfl, vs, h3, h4⟩ := S.sl i _ hi
  have nf := S.fr i _ l hi (List.mem_singleton.mpr rfl)
  have e1 : Ex F (upd F l (.lst vs)) := Ex.new nf.1
  have f0 : We.f0 l = none := by
    cases z : We.f0 l with
    | none => rfl
    | some o =>
      have := S.f0 _ _ (le.2.1 _ _ z)
      rw [nf.1] at this; cases this
  refine q.out σ (upd F l (.lst vs)) H ⟨by rw [List.length_set]; exact S.len, fun a o h => ?_, S.f0.trans e1, S.wx, fun a h => ?_, fun j P h2 => ?_, fun j k P T a h1 h2 m1 m2 => ?_, fun j P a h1 h2 => ?_, S.tt.go S.tt.w0 (fun p hp => ?_) (fun p hp j P h m => ?_) (fun p _ o h => h) fun c q h => e1 _ _ h⟩
  rotate_right
  · rcases get_set h with ⟨rfl, e⟩ | ⟨n1, e⟩
    · cases Option.some.inj e; exact nomatch m
    · exact S.tt.G0 p hp j P e m
  rotate_right
  · obtain ⟨ps, hz⟩ := S.tt.H0 p hp
    rw [upd_ne fun z => by rw [z, h3] at hz; cases hz]; exact S.tt.F0 p hp
  · by_cases z : a = l
    · subst z; rw [upd_same] at h; cases h; exact h3
    · rw [upd_ne z] at h; exact S.ex a o h
  · rw [upd_ne fun z => h (by rw [z]; exact nf.2.1)]
    exact S.wf a h
  · rcases get_set h2 with ⟨rfl, e⟩ | ⟨ne, e⟩
    · cases Option.some.inj e
      exact ⟨_, h1, l, vs, rfl, upd_same, ⟨f0, by rw [← le.1]; exact nf.2.1⟩, h4.mono e1⟩
    · obtain ⟨w, h5, h6⟩ := S.sl j P e
      exact ⟨w, h5, P.st e1 (fun _ _ => rfl) h6⟩
  · rcases get_set h1 with ⟨rfl, e⟩ | ⟨n1, e1'⟩
    · cases Option.some.inj e; exact nomatch m1
    · rcases get_set h2 with ⟨rfl, e⟩ | ⟨n2, e2⟩
      · cases Option.some.inj e; exact nomatch m2
      · exact S.dj j k P T a e1' e2 m1 m2
  · rcases get_set h1 with ⟨rfl, e⟩ | ⟨n1, e1'⟩
    · cases Option.some.inj e; exact nomatch h2
    · obtain ⟨q1, q2, q3⟩ := S.fr j P a e1' h2
      refine ⟨?_, q2, q3⟩
      rw [upd_ne fun z => n1 (S.dj j i P _ a e1' hi h2 (by rw [z]; exact List.mem_singleton.mpr rfl))]
      exact q1
theorem ld_retX {S ρ : Type} {W : Fx} {Gs : S → Gm} {RQ : ρ → V → Hp → Prop} {c : Ctl S ρ} {q : ρ} {v : V} {H : Hp} (e : some (Ctl.ret q) = some c) (h : RQ q v H) : (LD W Gs RQ c).rt v H := ⟨q, (Option.some.inj e).symm, h⟩
theorem ld_retXE {S ι ρ : Type} {W : Fx} {Gs : S → ι → Gm} {RQ : ρ → V → Hp → Prop} {c : Ctl S ρ} {q : ρ} {v : V} {H : Hp} (e : some (Ctl.ret q) = some c) (h : RQ q v H) : (LDE W Gs RQ c).rt v H := ⟨q, (Option.some.inj e).symm, h⟩
end
end Mz

namespace Mz
open PySem PySem.Spec PyProof.Rows L2
/-! ### lambdas of one parameter, handed as a key -/
/-- the object at f is the lambda of F's words, its body e -/
def LamO (f : Addr) (F : NdefX.NF) (e : Expr) : HO := .ext fun h => ∃ (pm ctv : Value), h.get? f = some (PySem.W.kla_obj F.name F.qual F.params e F.scope F.cl pm F.c ctv)
/-- the words of a lambda made in X, its code object at c -/
abbrev lamF (X : Cx) (params : Arguments) (scope : Scope) (c : Addr) : NdefX.NF := ⟨"<lambda>", X.env.qual ++ "<lambda>", params, [], scope, cloFrom X.env.cells scope.names [], c⟩
/-- a lambda made in X -/
def RLam (X : Cx) (params : Arguments) (e : Expr) (scope : Scope) : Rp Unit := ⟨fun F v _ => ∃ f c, v = .ref f ∧ F f = some (LamO f (lamF X params scope c) e) ∧ F c = some (LamX.CodeO c (X.env.qual ++ "<lambda>")), fun {F F' v a} e h => by
  obtain ⟨f, c, h1, h2, h3⟩ := h
  exact ⟨f, c, h1, e _ _ h2, e _ _ h3⟩⟩
section
variable {X : Cx} {pins : List (Addr × Obj)} {σ : L2.St} {H : Hp} {s : Shared}
theorem inv_lam {F : NdefX.NF} {e : Expr} {h' : Heap} {t' : Nat} {pm ctv : Value} (I : Inv X pins σ H s) (hx : ∀ b o, s.heap.get? b = some o → h'.get? b = some o) (hs : s.heap.objs.size ≤ h'.objs.size) :
    Inv X pins σ (upd H h'.objs.size (LamO h'.objs.size F e)) { s with heap := h'.push (PySem.W.kla_obj F.name F.qual F.params e F.scope F.cl pm F.c ctv), toks := t' } := by
  have z : (h'.push (PySem.W.kla_obj F.name F.qual F.params e F.scope F.cl pm F.c ctv)).get? h'.objs.size = some (PySem.W.kla_obj F.name F.qual F.params e F.scope F.cl pm F.c ctv) := Heap.get?_push_size _ rfl
  exact I.laid (a := h'.objs.size) (fun b u e => Heap.get?_push_of_some _ (hx b u e)) hs ⟨⟨pm, ctv, z⟩, ⟨_, z⟩, fun h1 h2 ⟨p, t, z⟩ st => ⟨p, t, st _ z⟩⟩
end
section
variable {X : Cx} {W : Fx} {G : Gm}
theorem ev_lam {c P : Addr} {params : Arguments} {e : Expr} {scope : Scope} {pos : Pos} (TB : LamX.TabB X.base X.mg c P) (hcode : X.env.code = .ref c) (hm : (P, X.env.qual ++ "<lambda>") ∈ W.tb) (hu : ∀ p ∈ W.tb, p.1 = P → p.2 = X.env.qual ++ "<lambda>")
    (hfree : ∀ y ∈ scope.names, y.2 = .free → X.env.scope.names.lookup y.1 = some .cell ∨ X.env.scope.names.lookup y.1 = some .free) (hdef : defaultsOf params X.env = ([], []) := by rfl) :
    Ev X W (.Lambda params e scope pos) G (RLam X params e scope) () G := .mk fun σ F H Q S q pins s I => by
  have hf : ∀ y ∈ scope.names, y.2 = .free → ∃ c, X.env.cells.lookup y.1 = some c := fun y hy z => (hfree y hy z).elim (fun z => I.ok.has _ (.inl z)) fun z => I.ok.has _ (.inr z)
  obtain ⟨t1, t2, t3, ps, hP, ht, ha⟩ := S.tt _ hm
  refine PySem.W.kla_eval hdef ?_
  have bP : s.heap.BuiltinsAt X.mg P := TB.bm.keeps I.bk
  have hP' : s.heap.get? P = some { cls := .none, data := .fields ps } := I.hok P _ hP
  cases hc : codeAmong pos ps.toList with
  | none =>
    refine PySem.W.kla_makeFunction (mg := X.mg) (c := c) (P := P) (ps := ps) (closure_ok hf) I.ok.glob (I.mod.glob.keeps I.bk) hcode (TB.code.keeps I.bk) hP' ht hc TB.gP bP fun c' ctv h' tk hx hge hlt hrec htb => ?_
    obtain ⟨c2, oc, vs, t, e2, hoc, hd, hv⟩ := hrec
    cases e2
    have nC : H c' = none := I.hok.fresh hge
    have FP : F P = none := t2
    have FC : F c' = none := S.ex.back nC
    have PC : P ≠ c' := ne_of_none hP nC
    have I1 := LamX.inv_table (t' := s.toks) (more := #[rawInt pos.line, rawInt pos.col, .ref c']) (h' := h') I hP (fun b o hb e => hx b o hb e) htb hge ⟨oc, vs, t, hoc, hd, hv⟩
    have nF : upd (upd H P (.tbl (ps ++ #[rawInt pos.line, rawInt pos.col, .ref c']))) c' (LamX.CodeO c' (X.env.qual ++ "<lambda>")) h'.objs.size = none := I1.hok.fresh (Nat.le_refl _)
    have cF : c' ≠ h'.objs.size := Nat.ne_of_lt hlt
    have PF : P ≠ h'.objs.size := fun z => by rw [← z, upd_ne PC, upd_same] at nF; cases nF
    have HF : H h'.objs.size = none := by rw [upd_ne cF.symm, upd_ne PF.symm] at nF; exact nF
    have FF : F h'.objs.size = none := S.ex.back HF
    have I2 := inv_lam (F := lamF X params scope c') (e := e) (h' := h') (t' := tk) (pm := (X.mg "__name__").getD .none) (ctv := ctv) I1 (fun b o z => z) (Nat.le_refl _)
    have e1 : Ex F (upd (upd F c' (LamX.CodeO c' (X.env.qual ++ "<lambda>"))) h'.objs.size (LamO h'.objs.size (lamF X params scope c') e)) := (Ex.new FC).trans (Ex.new (by rw [upd_ne cF.symm]; exact FF))
    have eL : (ps ++ #[rawInt pos.line, rawInt pos.col, .ref c']).toList = ps.toList ++ [rawInt pos.line, rawInt pos.col, .ref c'] := by simp
    refine ⟨.ref h'.objs.size, _, I2, rfl, fun _ => q (.ref h'.objs.size) (upd (upd F c' (LamX.CodeO c' (X.env.qual ++ "<lambda>"))) h'.objs.size (LamO h'.objs.size (lamF X params scope c') e)) _ e1 (S.stepTN e1 ?_ ?_ ?_ ?_) ⟨_, c', rfl, upd_same, by rw [upd_ne cF, upd_same]⟩⟩
    · exact Ex.up (Ex.up (Ex.mut S.ex FP))
    · intro a o n h
      rw [upd_ne (ne_of_none h HF), upd_ne (ne_of_none h nC), upd_ne (n _ hm)]
      exact h
    · intro a n h
      left
      rw [upd_ne fun z => h (by rw [z]; exact HF), upd_ne fun z => h (by rw [z]; exact nC)]
    · intro p hp
      obtain ⟨u1, u2, u3, ps', a1, a2, a3⟩ := S.tt p hp
      have pF : p.1 ≠ h'.objs.size := ne_of_none a1 HF
      have pC : p.1 ≠ c' := ne_of_none a1 nC
      refine ⟨u1, by rw [upd_ne pF, upd_ne pC]; exact u2, u3, ?_⟩
      by_cases hb : p.1 = P
      · refine ⟨_, by rw [upd_ne pF, upd_ne pC, hb, upd_same], by rw [eL]; exact PySem.TriplesOk_snoc _ _ _ _ ht, fun p' cv hcv => ?_⟩
        rw [eL] at hcv
        rw [hu p hp hb]
        rcases LamX.among_app _ ht hcv with z | z
        · obtain ⟨c0, e1', e2⟩ := ha p' cv z
          exact ⟨c0, e1', e1 _ _ e2⟩
        · exact ⟨c', z, by rw [upd_ne cF, upd_same]⟩
      · refine ⟨ps', by rw [upd_ne pF, upd_ne pC, upd_ne hb]; exact a1, a2, fun p' cv hcv => ?_⟩
        obtain ⟨c0, e1', e2⟩ := a3 p' cv hcv
        exact ⟨c0, e1', e1 _ _ e2⟩
  | some cv =>
    obtain ⟨c', e', hco⟩ := ha pos cv hc
    subst e'
    refine PySem.W.kla_makeFunctionHit (mg := X.mg) (c := c) (P := P) (ps := ps) (closure_ok hf) I.ok.glob (I.mod.glob.keeps I.bk) hcode (TB.code.keeps I.bk) hP' ht hc bP fun ctv h' tk hx hsz => ?_
    have I2 := inv_lam (F := lamF X params scope c') (e := e) (h' := h') (t' := tk) (pm := (X.mg "__name__").getD .none) (ctv := ctv) I hx hsz
    have HF : H h'.objs.size = none := I.hok.fresh hsz
    have FF : F h'.objs.size = none := S.ex.back HF
    have e1 : Ex F (upd F h'.objs.size (LamO h'.objs.size (lamF X params scope c') e)) := Ex.new FF
    refine ⟨.ref h'.objs.size, _, I2, rfl, fun _ => q (.ref h'.objs.size) _ _ e1 (S.step e1 S.ex.up (Ex.new HF) fun a h => ?_) ⟨_, c', rfl, upd_same, e1 _ _ hco⟩⟩
    rw [upd_ne fun z => h (by rw [z]; exact HF)]
end
/-- a lambda's words with its own cells, its frame at L -/
abbrev lamC (X : Cx) (params : Arguments) (scope : Scope) (c : Addr) (L : Addr) : NdefX.NF := ⟨"<lambda>", X.env.qual ++ "<lambda>", params, [], scope, cellsFrom (L + 1) scope.names (cloFrom X.env.cells scope.names []), c⟩
/-- the context of a lambda's body, f called at s -/
abbrev lcx (X : Cx) (N : List Str) (params : Arguments) (scope : Scope) (f c : Addr) (A : Around) (s : Shared) (H : Hp) : Cx := (NdefX.ncx CX0 X.prog X.w X.K X.mg X.base N (lamC X params scope c s.heap.objs.size) f A X.stack s H E0).nox
/-- the names of a lambda's scope -/
structure LScope (N : List Str) (p : Str) (fr : List Str) (sc : Scope) : Prop where
  kind : sc.kind = .function
  co : sc.isCoroutine = false
  gen : sc.isGenerator = false
  nd : N.Nodup
  pre : N.take (1 + fr.length) = p :: fr
  par : sc.names.lookup p = some .local ∨ sc.names.lookup p = some .cell
  free : ∀ y ∈ sc.names, y.2 = .free → y.1 ∈ fr
  frk : ∀ x ∈ fr, sc.names.lookup x = some .free
  frc : ∀ x ∈ fr, (x, NameKind.cell) ∉ sc.names
def lscB (N : List Str) (p : Str) (fr : List Str) (sc : Scope) : Bool :=
  decide (sc.kind = .function) && !sc.isCoroutine && !sc.isGenerator && decide N.Nodup && decide (N.take (1 + fr.length) = p :: fr) && decide (sc.names.lookup p = some .local ∨ sc.names.lookup p = some .cell) && sc.names.all (fun y => !decide (y.2 = .free) || decide (y.1 ∈ fr)) && fr.all (fun x => decide (sc.names.lookup x = some .free)) && fr.all (fun x => !decide ((x, NameKind.cell) ∈ sc.names))
theorem lscope_by {N : List Str} {p : Str} {fr : List Str} {sc : Scope} (h : lscB N p fr sc = true) : LScope N p fr sc := by
  unfold lscB at h
  simp only [Bool.and_eq_true, Bool.not_eq_true', decide_eq_true_eq, List.all_eq_true, Bool.or_eq_true, decide_eq_false_iff_not] at h
  obtain ⟨⟨⟨⟨⟨⟨⟨⟨h1, h2⟩, h3⟩, h4⟩, h5⟩, h6⟩, h7⟩, h8⟩, h9⟩ := h
  exact ⟨h1, h2, h3, h4, h5, h6, fun y hy z => (h7 y hy).resolve_left fun w => w z, h8, h9⟩
theorem cells_app : ∀ (names : List (Str × NameKind)) (n : Nat) (a b : List (Str × Addr)), cellsFrom n names (a ++ b) = cellsFrom n names a ++ b
  | [], _, _, _ => rfl
  | (x, k) :: r, n, a, b => by
    unfold cellsFrom
    by_cases h : (k == NameKind.cell) = true
    · rw [if_pos h, if_pos h]; exact cells_app r (n + 1) ((x, n) :: a) b
    · rw [if_neg h, if_neg h]; exact cells_app r n a b
theorem cells_own (names : List (Str × NameKind)) (n : Nat) (b : List (Str × Addr)) : cellsFrom n names b = cellsFrom n names [] ++ b := cells_app names n [] b
theorem cells_in : ∀ (names : List (Str × NameKind)) (n : Nat) (a : List (Str × Addr)) (x : Str) (c : Addr), (x, c) ∈ cellsFrom n names a → (x, c) ∈ a ∨ (x, NameKind.cell) ∈ names
  | [], _, _, _, _, h => .inl h
  | (y, k) :: r, n, a, x, c, h => by
    unfold cellsFrom at h
    by_cases hk : (k == NameKind.cell) = true
    · rw [if_pos hk] at h
      rcases cells_in r (n + 1) _ x c h with z | z
      · rcases List.mem_cons.mp z with z | z
        · cases z; right; rw [beq_iff_eq.mp hk]; exact List.mem_cons_self
        · exact .inl z
      · exact .inr (List.mem_cons_of_mem _ z)
    · rw [if_neg hk] at h
      exact (cells_in r n a x c h).imp id (List.mem_cons_of_mem _)
section
variable {M : Model} {A : Around} {E : Value → Shared → Prop} {s : Shared}
/-- a frame with cells of its own and captured ones, one parameter -/
theorem newEnv1 {scope : Scope} {globals : Addr} {cl : List (Str × Addr)} {p : Str} {u : Value} {qual : Str} {func : Option Addr} {code : Value} {builtins : Addr} {Q : Env → Shared → Prop}
    (hk : scope.kind = .function) (hp : scope.names.lookup p = some .local ∨ scope.names.lookup p = some .cell)
    (hQ : ∀ (h' : Heap) (tk : Nat) (m : Str → Option Value), h'.Ns s.heap.objs.size m → (∀ b o, s.heap.get? b = some o → h'.get? b = some o) →
      ((scope.names.lookup p = some .local ∧ m p = some u) ∨ (scope.names.lookup p = some .cell ∧ ∃ c, (cellsFrom (s.heap.objs.size + 1) scope.names []).lookup p = some c ∧ h'.IsCell c (some u))) →
      (∀ x c, (x, c) ∈ cellsFrom (s.heap.objs.size + 1) scope.names [] → s.heap.objs.size < c ∧ ∃ v, h'.IsCell c v) →
      ((cellsFrom (s.heap.objs.size + 1) scope.names []).Pairwise fun x y => x.2 ≠ y.2) →
      Q (newEnv scope s.heap.objs.size globals (cellsFrom (s.heap.objs.size + 1) scope.names cl) qual func code none builtins) { s with heap := h', toks := tk }) :
    wpAny M A (newFunctionEnv scope globals cl [(p, u)] qual func code none builtins) Q E s := by
  simp only [newFunctionEnv, Option.isSome_none, Bool.false_eq_true, if_false]
  refine wpAny_bind (wpAny_alloc ?_)
  refine wpAny_bind (wpAny_layCells _ (fun name kind cells => by cases hkc : kind == NameKind.cell <;> simp [hkc]) _ _ _ _ ?_)
  have ok := cellsFrom_ok scope.names (s.heap.push { cls := .type "frame", data := .dict #[] }) (s.heap.objs.size + 1) [] ⟨fun _ _ hm => (nomatch hm), List.Pairwise.nil⟩ (by rw [Heap.size_push]; exact Nat.le_refl _)
  rw [Heap.size_push] at ok
  rw [show ({ s with heap := s.heap.push { cls := .type "frame", data := .dict #[] } } : Shared).heap.objs.size = s.heap.objs.size + 1 from Heap.size_push ..]
  have ns : (pushCells (s.heap.push { cls := .type "frame", data := .dict #[] }) scope.names).Ns s.heap.objs.size (fun _ => none) := (Heap.Ns.new s.heap (.type "frame")).keeps (pushCells_keeps _ _)
  have kp : ∀ b o, s.heap.get? b = some o → (pushCells (s.heap.push { cls := .type "frame", data := .dict #[] }) scope.names).get? b = some o := fun b o e => pushCells_keeps _ _ b o (Heap.get?_push_of_some _ e)
  simp only [List.forIn_cons, List.forIn_nil]
  rcases hp with hl | hc
  · refine wpAny_bind (wpAny_bind (wpAny_bind (wpAny_storeName_local hl ns (fun h' hn' hs' => wpAny_pure (wpAny_pure (wpAny_pure ?_))) (by rw [hk]; rfl))))
    refine hQ h' _ _ hn' (fun b o e => hs'.extBut b o (Nat.ne_of_lt (Heap.lt_size e)) (kp b o e)) (.inl ⟨hl, by simp⟩) (fun x c hm => ⟨(ok.empty x c hm).2, _, (ok.empty x c hm).1.sameBut hs' (Nat.ne_of_gt (ok.empty x c hm).2)⟩) ok.apart
  · obtain ⟨c, ec⟩ := cell_has (n := s.heap.objs.size + 1) hc
    have o1 := ok.empty p c (PySem.mem_of_lookup ec)
    have el : (cellsFrom (s.heap.objs.size + 1) scope.names cl).lookup p = some c := by rw [cells_own, List.lookup_append, ec]; rfl
    refine wpAny_bind (wpAny_bind (wpAny_bind (wpAny_storeName_cell hk hc el o1.1 fun h' hn' hs' => wpAny_pure (wpAny_pure (wpAny_pure ?_)))))
    refine hQ h' _ _ (ns.sameBut hs' (Nat.ne_of_lt o1.2)) (fun b o e => hs'.extBut b o (Nat.ne_of_lt (Nat.lt_trans (Heap.lt_size e) o1.2)) (kp b o e)) (.inr ⟨hc, c, ec, hn'⟩) (fun x d hm => ⟨(ok.empty x d hm).2, ?_⟩) ok.apart
    by_cases z : d = c
    · exact ⟨_, z ▸ hn'⟩
    · exact ⟨_, (ok.empty x d hm).1.sameBut hs' z⟩
end
section
variable {P : Program} {w : World} {K : PySem.W.Frag} {mg : Str → Option Value} {base : Heap} {N fr : List Str} {p : Str} {F : NdefX.NF} {f : Addr} {A : Around} {outer : List Env} {s : Shared} {H : Hp} {u : Value} {v : V} {ws : List (Option V)}
theorem inv_startL {h₁ : Heap} {tk : Nat} {cl : List (Str × Addr)} {m : Str → Option Value} (S : LScope N p fr F.scope) (hcl : F.cl = cellsFrom (s.heap.objs.size + 1) F.scope.names cl) (hd : A.handled = none) (e0 : Env0 P w K mg base A outer s H) (r : RelV v u) (C : NdefX.CellsAt cl fr ws s.heap H) (hns : h₁.Ns s.heap.objs.size m)
    (kp : ∀ b o, s.heap.get? b = some o → h₁.get? b = some o)
    (par : (F.scope.names.lookup p = some .local ∧ m p = some u) ∨ (F.scope.names.lookup p = some .cell ∧ ∃ c, (cellsFrom (s.heap.objs.size + 1) F.scope.names []).lookup p = some c ∧ h₁.IsCell c (some u)))
    (own : ∀ x c, (x, c) ∈ cellsFrom (s.heap.objs.size + 1) F.scope.names [] → s.heap.objs.size < c ∧ ∃ v, h₁.IsCell c v)
    (ap : (cellsFrom (s.heap.objs.size + 1) F.scope.names []).Pairwise fun x y => x.2 ≠ y.2) :
    Inv (NdefX.ncx CX0 P w K mg base N F f A outer s H E0) [] (NdefX.startF N [v] ws) H { s with heap := h₁, toks := tk } := by
  have hpl : 1 + fr.length ≤ N.length := by
    have q := congrArg List.length S.pre
    rw [List.length_take, List.length_cons] at q
    omega
  have noA : ∀ b : Addr, b ∉ (NdefX.ncx CX0 P w K mg base N F f A outer s H E0).ex := fun b z => absurd (show b ∈ ([] : List Addr) from z) (by simp)
  have cellK : ∀ {c : Addr} {v : Option Value}, s.heap.IsCell c v → h₁.IsCell c v := fun {c v} ⟨o, ho, hd⟩ => ⟨o, kp _ _ ho, hd⟩
  have split : ∀ y c, F.cl.lookup y = some c → (y, c) ∈ cellsFrom (s.heap.objs.size + 1) F.scope.names [] ∨ cl.lookup y = some c := fun y c e => by
    rw [hcl, cells_own, List.lookup_append] at e
    cases z : (cellsFrom (s.heap.objs.size + 1) F.scope.names []).lookup y with
    | none => rw [z] at e; exact .inr e
    | some d => rw [z] at e; cases e; exact .inl (PySem.mem_of_lookup z)
  have low : ∀ y c, cl.lookup y = some c → c < s.heap.objs.size := fun y c e => by
    obtain ⟨_, w, o, ho, _⟩ := C.all y c e
    exact Heap.lt_size ho
  have uniq : ∀ (l : List (Str × Addr)), (l.Pairwise fun x y => x.2 ≠ y.2) → ∀ x y c, (x, c) ∈ l → (y, c) ∈ l → x = y := fun l => by
    induction l with
    | nil => intro _ x y c h; exact nomatch h
    | cons a t ih =>
      intro h x y c h1 h2
      obtain ⟨h3, h4⟩ := List.pairwise_cons.mp h
      rcases List.mem_cons.mp h1 with z1 | z1 <;> rcases List.mem_cons.mp h2 with z2 | z2
      · exact congrArg Prod.fst (z1.trans z2.symm)
      · subst z1; exact (h3 (y, c) z2 rfl).elim
      · subst z2; exact (h3 (x, c) z1 rfl).elim
      · exact ih h4 x y c z1 z2
  have inj : ∀ x y c, F.cl.lookup x = some c → F.cl.lookup y = some c → x = y := fun x y c e1 e2 => by
    rcases split x c e1 with a | a <;> rcases split y c e2 with b | b
    · exact uniq _ ap x y c a b
    · exact absurd (low y c b) (Nat.not_lt.mpr (Nat.le_of_lt (own x c a).1))
    · exact absurd (low x c a) (Nat.not_lt.mpr (Nat.le_of_lt (own y c b).1))
    · exact C.inj x y c a b
  have notown : ∀ y ∈ fr, (cellsFrom (s.heap.objs.size + 1) F.scope.names []).lookup y = none := fun y hy => by
    cases z : (cellsFrom (s.heap.objs.size + 1) F.scope.names []).lookup y with
    | none => rfl
    | some d => exact ((cells_in _ _ _ _ _ (PySem.mem_of_lookup z)).elim (fun w => nomatch w) fun w => absurd w (S.frc y hy))
  have up : ∀ y ∈ fr, ∀ c, cl.lookup y = some c → F.cl.lookup y = some c := fun y hy c e => by
    rw [hcl, cells_own, List.lookup_append, notown y hy]; exact e
  refine ⟨⟨e0.mod, S.kind, rfl, rfl, Nat.le_refl _, inj, fun y hy => ?_, fun y c z _ => ?_, fun _ => hd, Around.frames_deeper e0.frames, .inr ⟨rfl, rfl⟩, fun b z => absurd z (noA b), e0.bs, e0.bsz, fun b _ _ => noA b,
      fun b z => absurd z (noA b), e0.funs, e0.frf⟩,
    rfl, e0.bare, Un.kept kp, ⟨_, hns, fun i y w e1 e2 e3 => ?_⟩, fun y c e => ?_, e0.hok.fresh (Nat.le_refl _), fun y c e => ?_, fun q hq => absurd (show q ∈ ([] : List (Addr × Obj)) ++ [] from hq) (by simp), e0.hok.kept kp, ?_⟩
  · have hy : F.scope.names.lookup y = some .cell ∨ F.scope.names.lookup y = some .free := hy
    show ∃ c, F.cl.lookup y = some c
    rcases hy with hy | hy
    · obtain ⟨c, ec⟩ := cell_has (n := s.heap.objs.size + 1) hy
      exact ⟨c, by rw [hcl, cells_own, List.lookup_append, ec]; rfl⟩
    · have hm := S.free _ (PySem.mem_of_lookup hy) rfl
      obtain ⟨i, hi⟩ := List.mem_iff_getElem?.mp hm
      obtain ⟨c, hc, _⟩ := C.has i y hi
      exact ⟨c, up y hm c hc⟩
  · have z : false = true := z
    cases z
  · have e1 : N[i]? = some y := e1
    have clen := C.len
    unfold NdefX.startF at e2
    cases i with
    | zero =>
      have e2 : some (some v) = some (some w) := e2
      cases e2
      have hq : (p :: fr)[0]? = some y := by
        rw [← S.pre, List.getElem?_take_of_lt (by omega)]
        exact e1
      cases hq
      rcases par with ⟨h1, h2⟩ | ⟨h1, c, h2, h3⟩
      · exact ⟨u, r, .inl ⟨h1, h2⟩⟩
      · exact ⟨u, r, .inr ⟨.inl h1, c, by show F.cl.lookup _ = _; rw [hcl, cells_own, List.lookup_append, h2]; rfl, h3⟩⟩
    | succ j =>
      have e2 : (ws ++ List.replicate (N.length - 1 - ws.length) none)[j]? = some (some w) := e2
      by_cases h2 : j < fr.length
      · have hq : (p :: fr)[j + 1]? = some y := by
          rw [← S.pre, List.getElem?_take_of_lt (by omega)]
          exact e1
        have hq : fr[j]? = some y := hq
        rw [List.getElem?_append_left (by omega)] at e2
        obtain ⟨c, hc, hv⟩ := C.has j y hq
        obtain ⟨u', ru, hu⟩ := hv w e2
        have hm := List.mem_of_getElem? hq
        exact ⟨u', ru, .inr ⟨.inr (S.frk y hm), c, up y hm c hc, cellK hu⟩⟩
      · rw [List.getElem?_append_right (by omega), List.getElem?_replicate] at e2
        split at e2 <;> cases e2
  · rcases split y c e with a | a
    · exact (own y c a).2
    · obtain ⟨v, z⟩ := (C.all y c a).2
      exact ⟨v, cellK z⟩
  · rcases split y c e with a | a
    · exact e0.hok.fresh (Nat.le_of_lt (own y c a).1)
    · exact (C.all y c a).1
  · have clen := C.len
    unfold NdefX.startF
    show _ = N.length
    rw [List.length_append, List.length_append, List.length_map, List.length_replicate]
    show 1 + _ = _
    simp only [List.length_cons, List.length_nil]
    omega
end
/-- what a lambda's words are: one parameter, captured names -/
structure LamW (X : Cx) (N : List Str) (par : Str) (fr : List Str) (js : List Nat) (params : Arguments) (e : Expr) (scope : Scope) : Prop where
  S : LScope N par fr scope
  hfree : ∀ y ∈ scope.names, y.2 = .free → X.env.scope.names.lookup y.1 = some .cell ∨ X.env.scope.names.lookup y.1 = some .free
  hfr : ∀ y ∈ fr, (y, NameKind.free) ∈ scope.names
  hjs : js.map (fun j => X.N[j]?) = fr.map some
  bind : ∀ (q : Str) (cl : List (Str × Addr)) (pm cv ctv u : Value), bindArgs (PySem.W.kla_fn "<lambda>" q params e scope cl pm cv ctv) ⟨[u], []⟩ = pure [(par, u)]
section
variable {X : Cx} {pins : List (Addr × Obj)} {σ : L2.St} {H : Hp} {s : Shared}
theorem lam_run {N fr : List Str} {par : Str} {js : List Nat} {params : Arguments} {e : Expr} {scope : Scope} {f c : Addr} {A : Around} {x : V} {u : Value} {Q : VK} {k : Nat} (I : Inv X pins σ H s) (hA : A.frames = some X.stack) (hr : Room (k + 1) A) (L : LamW X N par fr js params e scope)
    (hf : H f = some (LamO f (lamF X params scope c) e)) (hc : H c = some (LamX.CodeO c (X.env.qual ++ "<lambda>"))) (r : RelV x u)
    (hb : Room k (lcx X N params scope f c A s H).A → wE (lcx X N params scope f c A s H) e (NdefX.startF N [x] (js.map (NdefX.slotAt σ))) H Q) :
    wpAny (model X.prog X.w) A (call (.ref f) [u]) (EP X pins σ Q) (fun _ _ => False) s := by
  have e0 : Env0 X.prog X.w X.K X.mg X.base A X.stack s H := ⟨hA, I.env0.mod, I.env0.bs, I.env0.bsz, I.env0.funs, I.env0.frf, I.env0.hok, I.env0.bare⟩
  have C := NdefX.cells_of I (NdefX.Caps.made (scope := scope) I.ok L.hfree L.hfr L.hjs)
  obtain ⟨⟨pm, ctv, ho⟩, _, _⟩ := I.hok f _ hf
  have hcd : s.heap.CodeRec (.ref c) (X.env.qual ++ "<lambda>") := NdefX.codeO_at I.hok hc
  have rc : codeAny (model X.prog X.w) A (.call (.ref f) ⟨[u], []⟩) (CR CX0 X.stack X.prog X.w H s Q E0) s := by
    refine PySem.W.kla_callFunE hr.depth ho rfl L.S.co L.S.gen rfl hcd ?_
    rw [L.bind]
    refine wpAny_pure (newEnv1 L.S.kind L.S.par fun h₁ tk m hns kp par own ap => ⟨I.nolimit.keeps kp, ?_⟩)
    show codeAny _ _ (.expr e (NdefX.envF (lamC X params scope c s.heap.objs.size) f s.heap.objs.size)) _ _
    have J : Inv (NdefX.ncx CX0 X.prog X.w X.K X.mg X.base N (lamC X params scope c s.heap.objs.size) f A X.stack s H E0) [] (NdefX.startF N [x] (js.map (NdefX.slotAt σ))) H { s with heap := h₁, toks := tk } := inv_startL (F := lamC X params scope c s.heap.objs.size) L.S rfl hr.hd e0 r C hns kp par own ap
    refine PySem.W.kla_codeExpr (wpAny_mono (hb (hr.deeper _) [] _ (J.wish _)) (fun v s' hq => ?_) fun e s' hq => hq.elim)
    obtain ⟨w', H', J', rv, q⟩ := hq
    exact ⟨w', H', J'.os, J'.bare, J'.base, J'.hok, rv, q (hb_of J')⟩
  refine wpAny_call (codeAny_mono rc fun r s2 hq => ?_)
  cases r with
  | error e => exact hq
  | ok fl =>
    cases fl with
    | ret u => exact I.after hq
    | next => exact False.elim hq
    | brk => exact False.elim hq
    | cont => exact False.elim hq
end
/-! ### pins -/
section
variable {X : Cx} {pins pins' : List (Addr × Obj)} {σ : L2.St} {H : Hp} {s : Shared} {k : Addr} {o o' : Obj} {h' : Heap} {t' : Nat}
theorem Inv_pins (I : Inv X pins σ H s) (h : ∀ p ∈ pins', p ∈ pins) : Inv X pins' σ H s := ⟨I.ok, I.os, I.bare, I.base, I.loc, I.cell, I.free, I.freeC, fun p hp => I.pin p ((List.mem_append.mp hp).elim (fun z => List.mem_append_left _ z) fun z => List.mem_append_right _ (h p z)), I.hok, I.len⟩
theorem Inv_pinned (I : Inv X pins σ H s) (ho : s.heap.get? k = some o) (n : H k = none) (hL : k ≠ X.env.locals) (hf : k ∉ X.fs) (nc : ∀ v, o.data ≠ .cell v) : Inv X ((k, o) :: pins) σ H s := ⟨I.ok, I.os, I.bare, I.base, I.loc, I.cell, I.free, I.freeC, fun p hp => by
  rcases List.mem_append.mp hp with z | z
  · exact I.pin p (List.mem_append_left _ z)
  · rcases List.mem_cons.mp z with rfl | z
    · exact ⟨ho, n, hL, hf, nc⟩
    · exact I.pin p (List.mem_append_right _ z), I.hok, I.len⟩
theorem pin_cell (I : Inv X pins σ H s) (hm : (k, o) ∈ pins) : ∀ x c, X.env.cells.lookup x = some c → c ≠ k := fun x c e z => by
  obtain ⟨v, ob, h1, h2⟩ := I.cell x c e
  obtain ⟨p1, _, _, _, p5⟩ := I.pin (k, o) (List.mem_append_right _ hm)
  rw [z] at h1
  have p1 : s.heap.get? k = some o := p1
  rw [h1] at p1; cases p1
  exact p5 _ h2
theorem Inv_repin (I : Inv X ((k, o) :: pins) σ H s) (h1 : X.s_0.heap.objs.size ≤ k) (hp : ∀ p ∈ X.pn ++ pins, p.1 ≠ k) (hs : Heap.SameBut k s.heap h') (ho : h'.get? k = some o') (nc : ∀ v, o'.data ≠ .cell v) : Inv X ((k, o') :: pins) σ H { s with heap := h', toks := t' } := by
  obtain ⟨p1, p2, p3, p4, p5⟩ := I.pin (k, o) (List.mem_append_right _ (List.mem_cons_self ..))
  exact Inv_pinned ((Inv_pins I fun p z => List.mem_cons_of_mem _ z).turned (it := k) (fun b u hb e => (hs.2 b hb).trans e) p2 p3 (.inr h1) (pin_cell I (List.mem_cons_self ..)) hp) ho p2 p3 p4 nc
/-- all that is new and neither k nor a -/
def restN (g h : Heap) (L k a : Addr) : List (Addr × Obj) := (allNews g h L).filter fun p => decide (p.1 ≠ k ∧ p.1 ≠ a)
theorem restN_mem {g h : Heap} {L k a b : Addr} {o : Obj} (h1 : b ≠ L) (h2 : g.get? b = none) (h3 : h.get? b = some o) (h4 : b ≠ k) (h5 : b ≠ a) : (b, o) ∈ restN g h L k a := List.mem_filter.mpr ⟨mem_allNews h1 h2 h3, decide_eq_true ⟨h4, h5⟩⟩
theorem restN_ne {g h : Heap} {L k a : Addr} : ∀ p ∈ restN g h L k a, p.1 ≠ k ∧ p.1 ≠ a := fun p hp => of_decide_eq_true (List.mem_filter.mp hp).2
theorem restN_news {g h : Heap} {L k a : Addr} : News g L h (restN g h L k a) := fun p hp => news_all p (List.mem_filter.mp hp).1
end
theorem each_vals {α : Type} {F : Hp} {R : Rp α} : ∀ {vs : List V} {us : List Value} {as : List α}, Vals vs us → All2 R F vs as → PySem.W.EachIs (fun v b => ∃ x, RelV x v ∧ R.r F x b) us as
  | _, _, _, .nil, Paired.nil => .nil
  | _, _, _, .cons r t, Paired.cons q u => .cons ⟨_, r, q⟩ (each_vals t u)
theorem each_reads {α : Type} {X : Cx} {pins : List (Addr × Obj)} {σ : L2.St} {F H : Hp} {s : Shared} {R : Rp α} {D : Dd X.K R} (I : Inv X pins σ H s) (e : Ex F H) : ∀ {vs : List V} {us : List Value} {as : List α}, Vals vs us → All2 R F vs as → PySem.W.EachIs (fun v d => ∃ z, Reads s.heap v d z) us (as.map D.e)
  | _, _, _, .nil, Paired.nil => .nil
  | _, _, _, .cons r t, Paired.cons q u => .cons (Dp.reads I _ _ _ (ex_dp e (D.r _ _ _ q)) r) (each_reads I e t u)
/-! ### the slots in a lambda's body -/
abbrev AllI (G : Gm) : Prop := ∀ (i : Nat) (P : Sd), G[i]? = some (some P) → P.fp = []
theorem alli_ln {G : Gm} (h : Ln G G) : AllI G := fun i P e => by
  obtain ⟨_, _, z, _⟩ := h.get.2 i P e
  exact z
theorem Sat.swap {W : Fx} {G G2 : Gm} {σ σ2 : L2.St} {F H F' H' : Hp} (hI : AllI G) (S : Sat W G σ F H) (S' : Sat W G2 σ2 F' H') (e : Ex F F') : Sat W G σ F' H' := by
  refine ⟨S.len, S'.ex, S'.f0, S'.wx, S'.wf, fun i P h => ?_, S.dj, fun i P a h m => ?_, S'.tt.go S'.tt.w0 S'.tt.F0 (fun p hp i P h m => ?_) (fun p _ o h => h) fun c q h => h⟩
  · obtain ⟨v, h1, h2⟩ := S.sl i P h
    exact ⟨v, h1, P.st e (fun a m => by rw [hI i P h] at m; exact nomatch m) h2⟩
  · rw [hI i P h] at m; exact nomatch m
  · rw [hI i P h] at m; exact nomatch m
/-- what a lambda's body finds: its parameter, what it captured -/
abbrev GmL (G : Gm) (js : List Nat) (n : Nat) (P : Sd) : Gm := some P :: ((js.map fun j => (G[j]?).join) ++ List.replicate (n - 1 - js.length) none)
theorem gmL_get {G : Gm} {js : List Nat} {n i : Nat} {P Q : Sd} (h : (GmL G js n P)[i]? = some (some Q)) : (i = 0 ∧ Q = P) ∨ ∃ t j, i = t + 1 ∧ js[t]? = some j ∧ G[j]? = some (some Q) := by
  cases i with
  | zero => exact .inl ⟨rfl, (Option.some.inj (Option.some.inj h)).symm⟩
  | succ t =>
    right
    have h' : ((js.map fun j => (G[j]?).join) ++ List.replicate (n - 1 - js.length) none)[t]? = some (some Q) := h
    by_cases ht : t < js.length
    · rw [List.getElem?_append_left (by rw [List.length_map]; exact ht), List.getElem?_map, List.getElem?_eq_getElem ht] at h'
      refine ⟨t, js[t], rfl, List.getElem?_eq_getElem ht, ?_⟩
      have h2 : (G[js[t]]?).join = some Q := Option.some.inj h'
      cases q : G[js[t]]? with
      | none => rw [q] at h2; cases h2
      | some o => rw [q] at h2; exact congrArg some h2
    · rw [List.getElem?_append_right (by rw [List.length_map]; omega)] at h'
      have := List.mem_of_getElem? h'
      have := (List.mem_replicate.mp this).2
      cases this
theorem Sat.lam {W : Fx} {G : Gm} {σ : L2.St} {F H : Hp} {js : List Nat} {N : List Str} {P : Sd} {v : V} (hI : AllI G) (S : Sat W G σ F H) (hP : P.fp = []) (h : P.p F H v) (hn : js.length + 1 ≤ N.length) :
    Sat W (GmL G js N.length P) (NdefX.startF N [v] (js.map (NdefX.slotAt σ))) F H := by
  have fp0 : ∀ (i : Nat) (Q : Sd), (GmL G js N.length P)[i]? = some (some Q) → Q.fp = [] := fun i Q e => by
    rcases gmL_get e with ⟨_, rfl⟩ | ⟨t, j, _, _, e2⟩
    · exact hP
    · exact hI j Q e2
  refine ⟨?_, S.ex, S.f0, S.wx, S.wf, fun i Q e => ?_, fun i j Q T a h1 h2 m1 m2 => ?_, fun i Q a e m => ?_, S.tt.go S.tt.w0 S.tt.F0 (fun p hp i Q e m => ?_) (fun p _ o h => h) fun c q h => h⟩
  · unfold NdefX.startF
    simp only [List.length_append, List.length_map, List.length_cons, List.length_nil, List.length_replicate]
    omega
  · rcases gmL_get e with ⟨rfl, rfl⟩ | ⟨t, j, rfl, ht, e2⟩
    · exact ⟨v, rfl, h⟩
    · obtain ⟨w, h1, h2⟩ := S.sl j Q e2
      refine ⟨w, ?_, h2⟩
      show ((js.map (NdefX.slotAt σ)) ++ List.replicate (N.length - 1 - (js.map (NdefX.slotAt σ)).length) none)[t]? = some (some w)
      have hl : t < js.length := (List.getElem?_eq_some_iff.mp ht).1
      rw [List.getElem?_append_left (by rw [List.length_map]; exact hl), List.getElem?_map, ht, ← NdefX.slotAt_of h1]
      rfl
  · rw [fp0 i Q h1] at m1; exact nomatch m1
  · rw [fp0 i Q e] at m; exact nomatch m
  · rw [fp0 i Q e] at m; exact nomatch m
/-! ### sorted(xs, key=lambda) -/
section
variable {X : Cx} {W : Fx} {G : Gm} {α β : Type} {R : Rp α} {Rk : Rp β} {pins : List (Addr × Obj)} {σ : L2.St} {F H : Hp} {s : Shared}
/-- a lambda's body, for all that may be handed in -/
abbrev LamB (X : Cx) (W : Fx) (G : Gm) (N : List Str) (js : List Nat) (params : Arguments) (e : Expr) (scope : Scope) (k : Nat) (R : Rp α) (Rk : Rp β) (key : α → Option β) (xs : List α) : Prop :=
  ∀ (f c : Addr) (A : Around) (s : Shared) (H : Hp), Room k (lcx X N params scope f c A s H).A → ∀ x ∈ xs, ∀ y, key x = some y → Ev (lcx X N params scope f c A s H) W e (GmL G js N.length (imm R x)) Rk y (GmL G js N.length (imm R x))
/-- the key's data -/
def enK {β : Type} (en : β → PyData) : Option β → PyData
  | some b => en b
  | none => .none
/-- sorted by a key that may fail -/
def srtK {α β : Type} (en : β → PyData) (kf : α → Option β) (xs : List α) : Option (List α) := if xs.all (fun x => (kf x).isSome) = true then some (srtE (fun b => enK en (kf b)) xs) else none
theorem srtK_all {α β : Type} {en : β → PyData} {kf : α → Option β} {xs r : List α} (h : srtK en kf xs = some r) : (∀ x ∈ xs, ∃ y, kf x = some y) ∧ r = srtE (fun b => enK en (kf b)) xs := by
  unfold srtK at h
  split at h
  · rename_i h2
    refine ⟨fun x hx => ?_, (Option.some.inj h).symm⟩
    exact Option.isSome_iff_exists.mp (List.all_eq_true.mp h2 x hx)
  · cases h
/-- one turn: the key of an item -/
theorem lam_key {N fr : List Str} {par : Str} {js : List Nat} {params : Arguments} {e : Expr} {scope : Scope} {f c : Addr} {A : Around} {k : Nat} {key : α → Option β} {xs : List α} {x : α} {y : β} {v : V} {u : Value} (I : Inv X pins σ H s) (S : Sat W G σ F H) (hI : AllI G) (hA : A.frames = some X.stack) (hr : Room (k + 1) A)
    (L : LamW X N par fr js params e scope) (hn : js.length + 1 ≤ N.length) (hf : F f = some (LamO f (lamF X params scope c) e)) (hc : F c = some (LamX.CodeO c (X.env.qual ++ "<lambda>"))) (r : RelV v u) (rx : R.r F v x) (hx : x ∈ xs) (hy : key x = some y) (B : LamB X W G N js params e scope k R Rk key xs) :
    wpAny (model X.prog X.w) A (call (.ref f) [u]) (EP X pins σ fun v' H' => ∃ F', Ex F F' ∧ Sat W G σ F' H' ∧ Rk.r F' v' y) (fun _ _ => False) s :=
  lam_run I hA hr L (S.ex _ _ hf) (S.ex _ _ hc) r fun hr2 => (B f c A s H hr2 x hx y hy).out _ F H _ (S.lam hI rfl rx hn) fun v' F' H' e' S' r' => ⟨F', e', S.swap hI S' e', r'⟩
theorem sort_rest {N fr : List Str} {par : Str} {js : List Nat} {params : Arguments} {e : Expr} {scope : Scope} {f c a kS : Addr} {k e1 : Nat} {key : α → Option β} {xs : List α} {vs : List V} {its : List Value} {D : Dd X.K Rk} {Q : VK} {h4 : Heap} {t4 : Nat} {E' : Value → Shared → Prop} (O : Od D) (hd : D.n ≤ 60) (I : Inv X pins σ H s) (S : Sat W G σ F H) (hI : AllI G) (hr : Room (k + 3) X.A)
    (L : LamW X N par fr js params e scope) (hn : js.length + 1 ≤ N.length) (hf : F f = some (LamO f (lamF X params scope c) e)) (hc : F c = some (LamX.CodeO c (X.env.qual ++ "<lambda>"))) (rv : Vals vs its) (rx : All2 R F vs xs) (hz : its.length ≤ sizeLine) (B : LamB X W G N js params e scope k R Rk key xs) (ky : ∀ x ∈ xs, ∃ y, key x = some y)
    (kp : ∀ b o, s.heap.get? b = some o → h4.get? b = some o) (ga : h4.get? a = some (seqObj "list" #[] e1)) (gk : h4.get? kS = some (seqObj "list" #[] 0)) (ha : s.heap.objs.size ≤ a) (hk : s.heap.objs.size ≤ kS) (hka : kS ≠ a)
    (q : ∀ ys p F' H', Ex F F' → Sat W G σ F' H' → All2 R F' ys (srtE (fun b => enK D.e (key b)) xs) → H' p = none → Q (.ref p) (upd H' p (.lst ys))) :
    wpAny (model X.prog X.w) X.A.in1.in1 (PyProof.Rows.ksk_rest a (.ref f) false its.toArray e1 (.ref kS)) (fun fin s' => fin = .done (.ret .none) ∧ EP X pins σ Q (.ref a) s') E' { s with heap := h4, toks := t4 } := by
  have lenX : its.length = xs.length := rv.length.symm.trans rx.len
  have szk : X.s_0.heap.objs.size ≤ kS := Nat.le_trans I.sz hk
  have sza : X.s_0.heap.objs.size ≤ a := Nat.le_trans I.sz ha
  have npk : ∀ p ∈ X.pn ++ pins, p.1 ≠ kS := fun p hp z => absurd (Nat.lt_of_lt_of_le (Heap.lt_size (I.pin p hp).1) hk) (by rw [z]; exact Nat.lt_irrefl _)
  have npa : ∀ p ∈ X.pn ++ pins, p.1 ≠ a := fun p hp z => absurd (Nat.lt_of_lt_of_le (Heap.lt_size (I.pin p hp).1) ha) (by rw [z]; exact Nat.lt_irrefl _)
  have kL : kS ≠ X.env.locals := fun z => absurd (Nat.lt_of_lt_of_le I.lt hk) (by rw [z]; exact Nat.lt_irrefl _)
  have aL : a ≠ X.env.locals := fun z => absurd (Nat.lt_of_lt_of_le I.lt ha) (by rw [z]; exact Nat.lt_irrefl _)
  have I4 : Inv X ((kS, seqObj "list" #[] 0) :: (a, seqObj "list" #[] e1) :: pins) σ H { s with heap := h4, toks := t4 } :=
    Inv_pinned (Inv_pinned (I.kept kp) ga (I.hok.fresh ha) aL (I.nofs ha) fun v z => nomatch z) gk (I.hok.fresh hk) kL (I.nofs hk) fun v z => nomatch z
  unfold PyProof.Rows.ksk_rest
  refine wpAny_bind (wpAny_rule ?_)
  first
    | rw [List.forIn_toArray]
    | (rw [← Array.forIn_toList]; simp only [List.toList_toArray])
    | rw [← Array.forIn_toList]
  refine wpAny_bind (PyProof.Rows.ksk_fold (fun i s' => ∃ F' H' kvs kA e, Inv X ((kS, seqObj "list" kA e) :: (a, seqObj "list" #[] e1) :: pins) σ H' s' ∧ Ex F F' ∧ Sat W G σ F' H' ∧ Vals kvs kA.toList ∧ ∃ ks : List β, (xs.take i).map key = ks.map some ∧ All2 Rk F' kvs ks) its 0 _
    ⟨F, H, [], #[], 0, I4, Ex.refl F, S, .nil, [], rfl, .nil⟩ ?step ?done)
  case step =>
    rintro j u s' hu ⟨F', H', kvs, kA, e2, I', eF, S', rk, ks, eks, ak⟩
    simp only [Nat.zero_add] at eks ⊢
    obtain ⟨v, hv, rvu⟩ := p2_get rv hu
    obtain ⟨x, hx, rx1⟩ := rx.getV hv
    have hj : j < its.length := (List.getElem?_eq_some_iff.mp hu).1
    have hzk : kA.size ≤ its.length := by
      have h1 : kvs.length = kA.toList.length := Paired.length rk
      have h2 := ak.len
      have h3 := congrArg List.length eks
      rw [List.length_map, List.length_map, List.length_take] at h3
      rw [← h3] at h2
      rw [← Array.length_toList, ← h1, h2]
      exact Nat.le_trans (Nat.min_le_left _ _) (Nat.le_of_lt hj)
    obtain ⟨y, hy⟩ := ky x (List.mem_of_getElem? hx)
    refine wpAny_bind (wpAny_attempt (wpAny_mono (lam_key I' S' hI I.ok.frames hr.in1.in1 L hn (eF _ _ hf) (eF _ _ hc) rvu (R.mono eF rx1) (List.mem_of_getElem? hx) hy B) (fun w s2 he => ?_) fun _ _ hF => hF.elim))
    obtain ⟨kv, H2, I2, rkv, F2, eF2, S2, rk2⟩ := he
    try dsimp only
    obtain ⟨nk1, nk2, nk3, nk4, nk5⟩ := I2.pin (kS, seqObj "list" kA e2) (List.mem_append_right _ (List.mem_cons_self ..))
    have s1 := Heap.SameBut.update s2.heap kS (Obj.mapSeq (·.push w))
    obtain ⟨c2, hc2⟩ : ∃ c2, (s2.heap.update kS (Obj.mapSeq (·.push w))).get? kS = some (seqObj "list" (kA.push w) c2) := ⟨_, get?_update_seq nk1 (·.push w)⟩
    refine wpAny_bind (listUpdate_at nk1 rfl ?_ (Nat.le_trans hzk hz) (Nat.le_trans (Nat.le_of_eq (Array.size_push ..)) (Nat.succ_le_succ (Nat.le_trans hzk hz))))
    refine wpAny_pure ⟨rfl, F2, H2, kvs ++ [kv], kA.push w, c2, Inv_repin (t' := s2.toks) I2 szk (fun p hp => ?_) s1 hc2 (fun v z => nomatch z), eF.trans eF2, S2, ?_, ks ++ [y], ?_, (ak.mono eF2).snoc rk2⟩
    · rcases List.mem_append.mp hp with z | z
      · exact npk p (List.mem_append_left _ z)
      · rcases List.mem_cons.mp z with rfl | z
        · exact hka.symm
        · exact npk p (List.mem_append_right _ z)
    · rw [show (kA.push w).toList = kA.toList ++ [w] from by simp]
      exact Paired.snoc rk rkv
    · rw [show xs.take (j + 1) = xs.take j ++ [x] from by rw [List.take_add_one, hx]; simp, List.map_append, List.map_append, eks]
      show _ ++ [key x] = _ ++ [some y]
      rw [hy]
  case done =>
    rintro s' ⟨F', H', kvs, kA, e2, I', eF, S', rk, ks, eks, ak⟩
    have e3 : xs.take (0 + its.length) = xs := List.take_of_length_le (by omega)
    rw [e3] at eks
    have ekz : (xs.map fun b => enK D.e (key b)) = ks.map D.e := by
      have := congrArg (List.map (enK D.e)) eks
      rw [List.map_map, List.map_map] at this
      exact this
    have lenK : ks.length = xs.length := by
      have := congrArg List.length eks
      rw [List.length_map, List.length_map] at this
      exact this.symm
    have hk' := each_reads (D := D) I' S'.ex rk ak
    have hsz : kA.size = its.length := by
      have h1 : kvs.length = kA.toList.length := Paired.length rk
      have h2 := ak.len
      rw [← Array.length_toList, ← h1, h2, lenX, lenK]
    obtain ⟨nk1, nk2, nk3, nk4, nk5⟩ := I'.pin (kS, seqObj "list" kA e2) (List.mem_append_right _ (List.mem_cons_self ..))
    obtain ⟨na1, na2, na3, na4, na5⟩ := I'.pin (a, seqObj "list" #[] e1) (List.mem_append_right _ (List.mem_cons_of_mem _ (List.mem_cons_self ..)))
    have kB : X.base.get? kS = none := by
      cases z : X.base.get? kS with
      | none => rfl
      | some o => exact absurd (Nat.lt_of_lt_of_le (Heap.lt_size z) (Nat.le_trans I.ok.bsz szk)) (Nat.lt_irrefl _)
    have aB : X.base.get? a = none := by
      cases z : X.base.get? a with
      | none => rfl
      | some o => exact absurd (Nat.lt_of_lt_of_le (Heap.lt_size z) (Nat.le_trans I.ok.bsz sza)) (Nat.lt_irrefl _)
    obtain ⟨m, Fr0⟩ := I'.fr
    have hal : PySem.W.AllAlike (ks.map D.e) := PySem.W.AllAlike.of fun b b' => O.al _ _
    have hsk : PySem.W.Sortable (ks.map D.e) := by
      rcases O.kd with z | z
      · exact PySem.W.Sortable.tuples z
      · exact PySem.W.Sortable.others fun b => ⟨O.nn b, z b⟩
    have hu : ∀ d, d ∈ ks.map D.e → X.A.in1.in1.units + d.depth < cLine := fun d hm => by
      obtain ⟨b, _, rfl⟩ := List.mem_map.mp hm
      have h1 := D.d b
      have h2 := hr.un
      show X.A.units + 1 + 1 + _ < _
      omega
    try dsimp only
    refine wpAny_bind (listItems_at nk1 rfl ?_)
    refine PySem.W.key_end (κ := PySem.W.dataKind s'.heap (ks.map D.e)) (vs := its) Fr0 (news := restN X.base s'.heap X.env.locals kS a) (e := e2) (e1 := e1) (fun p hp => ?_) hka (fun p hp => (restN_ne p hp).1) (fun p hp => (restN_ne p hp).2) (PySem.W.SortsAt.data hk' hal hsk hu) hsz hz fun h5 t5 c5 F5 N5 => ⟨rfl, ?_⟩
    · rcases List.mem_append.mp hp with z | z
      · exact restN_news p z
      · rcases List.mem_cons.mp z with rfl | z
        · exact ⟨nk1, nk3, kB⟩
        · rw [List.mem_singleton.mp z]; exact ⟨na1, na3, aB⟩
    have KO : PySem.W.KeyedOut false (xs.map fun b => enK D.e (key b)) its (PySem.W.sortVals (PySem.W.dataKind s'.heap (ks.map D.e)) false kA.toList its) := by rw [ekz]; exact ⟨s'.heap, kA.toList, hal, rfl, hk'⟩
    obtain ⟨ys, k1, k2⟩ := each_back (PySem.W.keyedOut_each (fun b => enK D.e (key b)) KO (each_vals rv (rx.mono eF)))
    have lenY : ys.length ≤ sizeLine := by
      rw [k1.length, KO.length (by rw [List.length_map, lenX])]; exact hz
    have ga5 := (N5 _ (List.mem_cons_self ..)).1
    have keepK : ∀ b o, b ≠ X.env.locals → b ≠ kS → b ≠ a → s'.heap.get? b = some o → h5.get? b = some o := fun b o h1 h2 h3 h4 => by
      cases z : X.base.get? b with
      | some u =>
        have := I'.bk b u z
        rw [h4] at this; cases this
        exact F5.keep b o z
      | none => exact (N5 _ (List.mem_cons_of_mem _ (restN_mem h1 z h4 h2 h3))).1
    have nin : ∀ {b}, b ∉ [kS, a] → b ≠ kS ∧ b ≠ a := fun {b} h => ⟨fun z => h (by rw [z]; simp), fun z => h (by rw [z]; simp)⟩
    have some_ne : ∀ {b u}, H' b = some u → b ≠ X.env.locals ∧ b ≠ kS ∧ b ≠ a := fun {b u} e => ⟨ne_of_none e I'.free, ne_of_none e nk2, ne_of_none e na2⟩
    refine ⟨.ref a, upd H' a (.lst ys), ?_, rfl, q ys a F' H' eF S' k2 na2⟩
    refine (Inv_pins I' fun p z => List.mem_cons_of_mem _ (List.mem_cons_of_mem _ z)).step (g' := s'.gens) (d' := s'.drawn) (ch := [kS, a]) (fun b hb => ?_) (fun b o hL _ hc e _ => keepK b o hL (nin hc).1 (nin hc).2 e) (fun b o hL _ hc e _ => ⟨o.slots, keepK b o hL (nin hc).1 (nin hc).2 e⟩)
      (fun b o hc _ n => by rw [upd_ne (nin hc).2]; exact n) (fun b o hc e => ?_) (fun b xs e => by rw [upd_ne (some_ne e).2.2]; exact e) (fun b o u e => by rw [upd_ne (some_ne e).2.2]; exact e) (fun b ps e => ⟨#[], by rw [upd_ne (some_ne e).2.2, e]; simp⟩) (fun m' hm => ?_) (fun b u e => ?_) I'.bare
    · rcases List.mem_cons.mp hb with rfl | hb
      · exact ⟨.inr szk, kL, pin_cell I' (List.mem_cons_self ..), npk⟩
      · rw [List.mem_singleton.mp hb]
        exact ⟨.inr sza, aL, pin_cell I' (List.mem_cons_of_mem _ (List.mem_cons_self ..)), npa⟩
    · by_cases z : b = X.env.locals
      · obtain ⟨ob, es, ep, ho, _⟩ := F5.ns
        rw [z]; exact ⟨ob, ho⟩
      · exact ⟨o, keepK b o z (nin hc).1 (nin hc).2 e⟩
    · rw [SlX.ns_only hm Fr0.ns]
      exact F5.ns
    · by_cases z : b = a
      · subst z
        rw [upd_same] at e; cases e
        exact ⟨lenY, _, _, k1, ga5⟩
      · rw [upd_ne z] at e
        refine (I'.hok b u e).stay (fun d v hd h => ?_) (fun d h => by rw [upd_ne (some_ne h).2.2]; exact h) fun d xs h => by rw [upd_ne (some_ne h).2.2]; exact h
        rcases hd with rfl | hd
        · exact keepK _ v (some_ne e).1 (some_ne e).2.1 z h
        · exact keepK d v (some_ne hd).1 (some_ne hd).2.1 (some_ne hd).2.2 h
theorem sort_tree {N fr : List Str} {par : Str} {js : List Nat} {params : Arguments} {e : Expr} {scope : Scope} {f c a : Addr} {k nA : Nat} {key : α → Option β} {xs : List α} {vs : List V} {its : List Value} {D : Dd X.K Rk} {Q : VK} {hA : Heap} {tA : Nat} {E' : Value → Shared → Prop} (O : Od D) (hd : D.n ≤ 60) (I : Inv X pins σ H s) (S : Sat W G σ F H) (hI : AllI G) (hr : Room (k + 3) X.A)
    (L : LamW X N par fr js params e scope) (hn : js.length + 1 ≤ N.length) (hf : F f = some (LamO f (lamF X params scope c) e)) (hc : F c = some (LamX.CodeO c (X.env.qual ++ "<lambda>"))) (rv : Vals vs its) (rx : All2 R F vs xs) (hz : its.length ≤ sizeLine) (B : LamB X W G N js params e scope k R Rk key xs) (ky : ∀ x ∈ xs, ∃ y, key x = some y)
    (kp : ∀ b o, s.heap.get? b = some o → hA.get? b = some o) (ga : hA.get? a = some (seqObj "list" its.toArray nA)) (ha : s.heap.objs.size ≤ a)
    (q : ∀ ys p F' H', Ex F F' → Sat W G σ F' H' → All2 R F' ys (srtE (fun b => enK D.e (key b)) xs) → H' p = none → Q (.ref p) (upd H' p (.lst ys))) :
    wpAny (model X.prog X.w) X.A.in1.in1 (PyProof.Rows.ksk_tree a (.ref f) false) (fun fin s' => fin = .done (.ret .none) ∧ EP X pins σ Q (.ref a) s') E' { s with heap := hA, toks := tA } := by
  have s1 := Heap.SameBut.update hA a (Obj.mapSeq fun _ => (#[] : Array Value))
  obtain ⟨e1, ho1⟩ : ∃ e1, (hA.update a (Obj.mapSeq fun _ => (#[] : Array Value))).get? a = some (seqObj "list" #[] e1) := ⟨_, get?_update_seq ga fun _ => #[]⟩
  unfold PyProof.Rows.ksk_tree
  refine wpAny_bind (listItems_at ga rfl ?_)
  refine wpAny_bind (listUpdate_at ga rfl ?_ (by rw [List.size_toArray]; exact hz) (Nat.zero_le _))
  refine wpAny_bind (seqEpoch_at ho1 rfl ?_)
  refine wpAny_bind (wpAny_newTuple ?_ (by show its.length ≤ _; exact hz))
  refine wpAny_bind (wpAny_newList ?_ (Nat.zero_le _))
  refine wpAny_holding ?_
  have aA : a < hA.objs.size := Heap.lt_size ga
  have hsz2 : (hA.update a (Obj.mapSeq fun _ => (#[] : Array Value))).objs.size = hA.objs.size := Heap.size_update ..
  have hsz3 : ((hA.update a (Obj.mapSeq fun _ => (#[] : Array Value))).push (seqObj "tuple" its.toArray 0)).objs.size = hA.objs.size + 1 := by rw [size_push', hsz2]
  refine sort_rest (s := s) (a := a) (kS := ((hA.update a (Obj.mapSeq fun _ => (#[] : Array Value))).push (seqObj "tuple" its.toArray 0)).objs.size) (t4 := tA) (h4 := ((hA.update a (Obj.mapSeq fun _ => (#[] : Array Value))).push (seqObj "tuple" its.toArray 0)).push (seqObj "list" #[] 0)) O hd I S hI hr L hn hf hc rv rx hz B ky (fun b o h => ?_) ?_ (Heap.get?_push_size _ rfl) ha
    (by rw [hsz3]; exact Nat.le_trans ha (Nat.le_trans (Nat.le_of_lt aA) (Nat.le_succ _))) (by rw [hsz3]; exact Nat.ne_of_gt (Nat.lt_succ_of_lt aA)) q
  · have lt := Heap.lt_size h
    exact Heap.get?_push_of_some _ (Heap.get?_push_of_some _ ((s1.2 b (Nat.ne_of_lt (Nat.lt_of_lt_of_le lt ha))).trans (kp b o h)))
  · exact Heap.get?_push_of_some _ (Heap.get?_push_of_some _ ho1)
theorem sort_key_run {N fr : List Str} {par : Str} {js : List Nat} {params : Arguments} {e : Expr} {scope : Scope} {f c l : Addr} {k : Nat} {key : α → Option β} {xs : List α} {vs : List V} {D : Dd X.K Rk} {Q : VK} (O : Od D) (hd : D.n ≤ 60) (I : Inv X pins σ H s) (S : Sat W G σ F H) (hI : AllI G) (hr : Room (k + 3) X.A)
    (L : LamW X N par fr js params e scope) (hn : js.length + 1 ≤ N.length) (hf : F f = some (LamO f (lamF X params scope c) e)) (hc : F c = some (LamX.CodeO c (X.env.qual ++ "<lambda>"))) (hs : SqL X.K H l vs) (rx : All2 R F vs xs) (B : LamB X W G N js params e scope k R Rk key xs) (ky : ∀ x ∈ xs, ∃ y, key x = some y)
    (q : ∀ ys p F' H', Ex F F' → Sat W G σ F' H' → All2 R F' ys (srtE (fun b => enK D.e (key b)) xs) → H' p = none → Q (.ref p) (upd H' p (.lst ys))) :
    wpAny (model X.prog X.w) X.A (call (.builtin "sorted") [.ref l] [(Str.ofString "key", .ref f)]) (EP X pins σ Q) X.xe s := by
  obtain ⟨its, rv, hl, hz⟩ := I.list hs
  have hzI : its.length ≤ sizeLine := by rw [← rv.length]; exact hz
  refine PySem.W.sorted_of_sort hl.isList hzI (PyProof.Rows.ksk_s1 _ _) (fun _ => PyProof.Rows.ksk_l1 _ _) fun E' => ?_
  rw [PyProof.Rows.ksk_t1]
  exact sort_tree (s := s) (tA := s.toks) O hd I S hI hr L hn hf hc rv rx hzI B ky (fun b o h => PySem.W.copyHeap_old h) (PySem.W.copyHeap_at _ _) (Nat.le_succ _) q
open PySem.W PySem.Calls in
theorem sorted_of_range {prog : Program} {w : World} {A : Around} {E : Value → Shared → Prop} {s : Shared} {r : Addr} {a b : Int} {t u v : Tok} {n : Nat} {kw : List (Str × Value)} {Q : Value → Shared → Prop} (hh : A.handled = none) (hr : IsRange s.heap r a b 1 t u v) (hsmall : Builtin.Range.small a b 1 = true) (hn : Builtin.Range.rangeSize a b 1 = n) (hlen : n ≤ 2 ^ 24)
    (ha1 : argsOk "sorted" ⟨[.ref r], kw⟩) (ha2 : ∀ x, argsOk "list.sort" ⟨[.ref x], kw⟩)
    (body : ∀ (h' : Heap) (tk : Nat) (acc : Array Value) (E' : Value → Shared → Prop), (∀ b o, s.heap.get? b = some o → h'.get? b = some o) → ItemsOf (fun i v => ∃ t, v = .int (a + i * 1) t) acc n →
      wpAny (model prog w) A.in1.in1 (Builtin.«list.sort» ⟨[.ref h'.objs.size], kw⟩) (fun f s' => f = .done (.ret .none) ∧ Q (.ref h'.objs.size) s') E' { s with heap := h'.push (seqObj "list" acc 0), toks := tk }) :
    wpAny (model prog w) A (call (.builtin "sorted") [.ref r] kw) Q E s := by
  refine call_function_entry_kw kind_sorted plain_sorted entry_sorted ha1 ?_
  unfold Builtin.«sorted»
  refine wpAny_bind (m := checkCount "sorted" 1 1 _) (wpAny_pure ?_)
  refine wpAny_bind (collect_range (A := A.in1) hh hr hsmall hn hlen fun h' tk acc hk hi => ?_)
  have hsz : acc.toList.length ≤ sizeLine := by
    rw [Array.length_toList, hi.1, sizeLine_eq]; omega
  refine wpAny_bind (wpAny_newList ?_ hsz)
  have hat : (h'.push (seqObj "list" acc 0)).get? h'.objs.size = some (seqObj "list" acc 0) := Heap.get?_push_size _ rfl
  have e0 : acc.toList.toArray = acc := by simp
  rw [e0]
  refine wpAny_bind (wpAny_holding (wpAny_call_entry_kw slot_list_sort ⟨_, hat, rfl⟩ entry_list_sort ?bd (ha2 _)))
  case bd =>
    show wpAny (model prog w) A.in1.in1 (Builtin.«list.sort» ⟨[.ref h'.objs.size], kw⟩) _ _ _
    refine wpAny_mono (body h' tk acc _ hk hi) (fun f s' hf => ?_) fun _ _ e => e
    obtain ⟨rfl, hq⟩ := hf
    exact ⟨_, rfl, wpAny_pure ⟨_, rfl, hq⟩⟩
theorem eo_sortedK {N fr : List Str} {par : Str} {js : List Nat} {params : Arguments} {e a : Expr} {scope : Scope} {c P : Addr} {k : Nat} {key : α → Option β} {xs : List α} {D : Dd X.K Rk} {en : β → PyData} {p pos lpos kpos : Pos} (O : Od D) (hd : D.n ≤ 60) (he : D.e = en) {r : List α} (hO : srtK en key xs = some r) (hI : Ln G G) (hr : Room (k + 3) X.A)
    (L : LamW X N par fr js params e scope) (hn : js.length + 1 ≤ N.length) (TB : LamX.TabB X.base X.mg c P) (hcode : X.env.code = .ref c) (hmT : (P, X.env.qual ++ "<lambda>") ∈ W.tb) (hu : ∀ p ∈ W.tb, p.1 = P → p.2 = X.env.qual ++ "<lambda>") (hm : X.mg "sorted" = none)
    (ha : Ev X W a G (RL X.K R) xs G) (B : LamB X W G N js params e scope k R Rk key xs) (hdef : defaultsOf params X.env = ([], []) := by rfl) (hg : Gl X "sorted" := by rfl) (hs : starEach [a] X.env = (false, eval a X.env) :: starEach [] X.env := by rfl)
    (h1 : backTo pos (starEach [a] X.env) = (false, eval a X.env) :: backTo pos (starEach [] X.env) := by rfl) (hpl : (backTo pos (starEach [a] X.env)).any (·.1) = false := by rfl)
    (hall : (backToKw pos (keywordEach [⟨some "key", .Lambda params e scope lpos, kpos⟩] X.env)).all (·.1.isSome) = true := by rfl) (hnone : (backToKw pos (keywordEach [⟨some "key", .Lambda params e scope lpos, kpos⟩] X.env)).any (·.1.isNone) = false := by rfl) (hks : (backToKw pos (keywordEach [⟨some "key", .Lambda params e scope lpos, kpos⟩] X.env)).filterMap (·.1) = [Str.ofString "key"] := by rfl) :
    EvO X W (.Call (.Name "sorted" p) [a] [⟨some "key", .Lambda params e scope lpos, kpos⟩] pos) G (fun l => QL l R r) G := .mk fun σ F H Q S q pins s I => by
  subst he
  obtain ⟨ky, rfl⟩ := srtK_all hO
  refine wpAny_Call_Name_kw (ld_blt (u := .builtin "sorted") I hg hm (by decide +kernel) ?_ (by decide) (by decide))
  refine PyProof.Rows.callWith_kw (thn ((pa_cons wE_pe pa_nil hs).run pos pins s σ H (fun vs H1 => ∃ F1 v, vs = [v] ∧ Ex F F1 ∧ Sat W G σ F1 H1 ∧ (RL X.K R).r F1 v xs) I (ha.out σ F H _ S fun v F1 H1 e1 S1 r1 => ⟨F1, v, rfl, e1, S1, r1⟩)) fun us s1 ⟨vs, H1, I1, r1, q1⟩ => ?_) h1 hpl hall hnone
  obtain ⟨F1, v, rfl, e1, S1, rl⟩ := q1
  refine thn ((pk_cons wE_pe pk_nil).run pos pins s1 σ H1 (fun zs H2 => ∃ F2 z, zs = [z] ∧ Ex F1 F2 ∧ Sat W G σ F2 H2 ∧ (RLam X params e scope).r F2 z ()) I1 ((ev_lam TB hcode hmT hu L.hfree hdef).out σ F1 H1 _ S1 fun z F2 H2 e2 S2 r2 => ⟨F2, z, rfl, e2, S2, r2⟩)) fun ws s2 ⟨zs, H2, I2, r2, q2⟩ => ?_
  obtain ⟨F2, z, rfl, e2, S2, f, cc, rfl, hf, hc⟩ := q2
  obtain ⟨l, xsv, rfl, l1, l2⟩ := rl
  rw [hks]
  rw [Vals.ref1 r1]
  obtain ⟨w1, rfl, ew⟩ := vals1 r2
  obtain rfl : w1 = Value.ref f := ew
  refine sort_key_run O hd I2 S2 (alli_ln hI) hr L hn hf hc (ex_sql S2.ex (ex_rl e2 l1)) (l2.mono e2) B ky fun ys p F' H' e' S' r' hp _ => ?_
  obtain ⟨s1, s2⟩ := NewO.list (R := R) (as := srtE (fun b => enK D.e (key b)) xs) S' hp r'
  exact q p F' _ (e1.trans (e2.trans e')) s1 s2
end
theorem lamW_by {X : Cx} {N : List Str} {par : Str} {fr : List Str} {js : List Nat} {params : Arguments} {e : Expr} {scope : Scope} {sc : Scope} (h : lscB N par fr scope = true) (h2 : NdefX.ndefB sc scope fr = true) (hsc : X.env.scope = sc) (hjs : js.map (fun j => X.N[j]?) = fr.map some)
    (bind : ∀ (q : Str) (cl : List (Str × Addr)) (pm cv ctv u : Value), bindArgs (PySem.W.kla_fn "<lambda>" q params e scope cl pm cv ctv) ⟨[u], []⟩ = pure [(par, u)]) : LamW X N par fr js params e scope :=
  ⟨lscope_by h, by rw [hsc]; exact NdefX.ndef_free h2, NdefX.ndef_fr h2, hjs, bind⟩
/-! ### defs that make lambdas -/
/-- a def's table of code objects, the lambdas' name -/
def tk1 (K : PySem.W.Frag) (x : Str) : Addr × Str := ((He.cT K (x, none)).2, (x ++ ".<locals>.") ++ "<lambda>")
structure TbH (K : PySem.W.Frag) (base : Heap) (mg : Str → Option Value) (x : Str) (fd : FuncData) (T : List (Addr × Str)) : Prop where
  cd : fd.code = .ref (He.cT K (x, none)).1
  tb : LamX.TabB base mg (He.cT K (x, none)).1 (He.cT K (x, none)).2
  mem : tk1 K x ∈ T
  uni : ∀ p ∈ T, p.1 = (He.cT K (x, none)).2 → p.2 = (x ++ ".<locals>.") ++ "<lambda>"
theorem tbh_of {K : PySem.W.Frag} {base : Heap} {mg : Str → Option Value} {x : Str} {st : Stmt} {fd : FuncData} {names : List Str} (F : FnP K x st (He.fAd K (x, none)) fd) (hx : x ∈ names) (hn : (names.map fun y => (tk1 K y).1).Nodup) (tb : LamX.TabB base mg (He.cT K (x, none)).1 (He.cT K (x, none)).2) :
    TbH K base mg x fd (names.map (tk1 K)) := by
  refine ⟨?_, tb, List.mem_map.mpr ⟨x, hx, rfl⟩, fun p hp e => ?_⟩
  · obtain ⟨oc, od, dV, kV, doc, pm, an, cdv, ct, osl, rfl, lk, hc, _, _⟩ := F.ex
    obtain ⟨c, rfl⟩ := He.codeIn_ref hc
    show Value.ref c = .ref (He.codeOf K (x, none))
    rw [He.codeOf_eq lk rfl]
  · obtain ⟨y, hy, rfl⟩ := List.mem_map.mp hp
    have : y = x := by
      clear tb F hp
      induction names with
      | nil => exact nomatch hy
      | cons z t ih =>
        rw [List.map_cons, List.nodup_cons] at hn
        rcases List.mem_cons.mp hy with rfl | hy'
        · rcases List.mem_cons.mp hx with rfl | hx'
          · rfl
          · exact absurd (List.mem_map.mpr ⟨x, hx', e.symm⟩) hn.1
        · rcases List.mem_cons.mp hx with rfl | hx'
          · exact absurd (List.mem_map.mpr ⟨y, hy', e⟩) hn.1
          · exact ih hx' hn.2 hy'
    subst this
    rfl
theorem fn_okT {P : Program} {w : World} {K : PySem.W.Frag} {mg : Str → Option Value} {base : Heap} {x : Str} {st : Stmt} {f c : Addr} {fd : FuncData} {N ps : List Str} {k : Nat} {sp : Sp} (F : FnP K x st f fd) (hcd : fd.code = .ref c) (S : FnScope N ps (defScope st)) (len : ∀ vs H Q E, sp vs H Q E → vs.length = ps.length)
    (hbody : ∀ (A : Around) (outer : List Env) (s : Shared) (H : Hp) (vs : List V) (Q : VK) (E : XK), Room k (A.deeper (envOfC x (defScope st) s.heap.objs.size f (.ref c))) → sp vs H Q E →
      wS (cxOf CX0 P w K mg base N x (defScope st) f (.ref c) A outer s H E).nox (defBody st) { nx := fun _ H' => Q .non H', rt := Q } (L2.start N vs) H) : FnOk P w K mg base CX0 (k + 1) f fd ps sp := by
  obtain ⟨oc, od, dV, kV, doc, pm, an, cdv, ct, osl, rfl, lk, hc, _, _⟩ := F.ex
  have e : cdv = .ref c := hcd
  subst e
  exact fn_of lk hc S len fun A outer s H vs Q E hr hsp => ⟨_, PSs.nox wS_ps, hbody A outer s H vs Q E hr hsp⟩
section
variable {X : Cx} {W : Fx} {G : Gm} {α β : Type} {R : Rp α} {Rk : Rp β}
theorem eo_sortedT {N fr : List Str} {par : Str} {js : List Nat} {params : Arguments} {e a : Expr} {scope : Scope} {k : Nat} {key : α → Option β} {xs : List α} {D : Dd X.K Rk} (en : β → PyData) {p pos lpos kpos : Pos} {x : Str} {fd : FuncData} {T : List (Addr × Str)} (O : Od D) (hd : D.n ≤ 60) (he : D.e = en) {r : List α} (hO : srtK en key xs = some r) (hI : Ln G G) (hr : Room (k + 3) X.A)
    (L : LamW X N par fr js params e scope) (hn : js.length + 1 ≤ N.length) (TH : TbH X.K X.base X.mg x fd T) (hT : W.tb = T) (hm : X.mg "sorted" = none)
    (ha : Ev X W a G (RL X.K R) xs G) (B : LamB X W G N js params e scope k R Rk key xs) (hcode : X.env.code = .ref (He.cT X.K (x, none)).1 := by rfl) (hq : X.env.qual = x ++ ".<locals>." := by rfl) (hdef : defaultsOf params X.env = ([], []) := by rfl) (hg : Gl X "sorted" := by rfl) (hs : starEach [a] X.env = (false, eval a X.env) :: starEach [] X.env := by rfl)
    (h1 : backTo pos (starEach [a] X.env) = (false, eval a X.env) :: backTo pos (starEach [] X.env) := by rfl) (hpl : (backTo pos (starEach [a] X.env)).any (·.1) = false := by rfl)
    (hall : (backToKw pos (keywordEach [⟨some "key", .Lambda params e scope lpos, kpos⟩] X.env)).all (·.1.isSome) = true := by rfl) (hnone : (backToKw pos (keywordEach [⟨some "key", .Lambda params e scope lpos, kpos⟩] X.env)).any (·.1.isNone) = false := by rfl) (hks : (backToKw pos (keywordEach [⟨some "key", .Lambda params e scope lpos, kpos⟩] X.env)).filterMap (·.1) = [Str.ofString "key"] := by rfl) :
    EvO X W (.Call (.Name "sorted" p) [a] [⟨some "key", .Lambda params e scope lpos, kpos⟩] pos) G (fun l => QL l R r) G :=
  eo_sortedK O hd he hO hI hr L hn TH.tb hcode (by rw [hT, hq]; exact TH.mem) (by rw [hT, hq]; exact TH.uni) hm ha B hdef hg hs h1 hpl hall hnone hks
end
/-! ### a range as a value -/
def RRg : Rp (Int × Int) := ⟨fun F v a => ∃ p, v = .ref p ∧ F p = some (.rng a.1 a.2), fun {F F' v a} e h => by
  obtain ⟨p, h1, h2⟩ := h
  exact ⟨p, h1, e _ _ h2⟩⟩
theorem cr_range1 {X : Cx} : CallR X (.type "range") (fun vs H Q => ∃ i, vs = [V.int i] ∧ ∀ p, H p = none → Q (.ref p) (upd H p (.rng 0 i))) := by
  intro pins s σ H vs us Q I r h
  obtain ⟨i, rfl, q⟩ := h
  obtain ⟨u1, rfl, ri⟩ := vals1 r
  obtain ⟨t, rfl⟩ := ri
  refine call_range_1 ⟨.ref s.heap.objs.size, upd H s.heap.objs.size (.rng 0 i), I.laid (t' := s.toks + 1 + 1) (fun b o e => Heap.get?_push_of_some _ e) (Nat.le_refl _) ?_, rfl, q _ (I.hok.fresh (Nat.le_refl _))⟩
  exact ⟨s.toks, t, s.toks + 1, Heap.get?_push_size _ rfl⟩
section
variable {X : Cx} {W : Fx} {G G1 G2 : Gm} {a b : Expr} {p pos : Pos}
theorem Sat.newR {W : Fx} {G : Gm} {σ : L2.St} {F H : Hp} {p : Addr} {o : HO} (S : Sat W G σ F H) (hp : H p = none) : Ex F (upd F p o) ∧ Sat W G σ (upd F p o) (upd H p o) := by
  have e1 : Ex F (upd F p o) := Ex.new (S.ex.back hp)
  exact ⟨e1, S.step e1 S.ex.up (Ex.new hp) fun a h => by rw [upd_ne fun z => h (by rw [z]; exact hp)]⟩
theorem ev_rng1 {n : Int} (hm : X.mg "range" = none) (ha : Ev X W a G RI n G1) (hg : Gl X "range" := by rfl) (hs : starEach [a] X.env = (false, eval a X.env) :: starEach [] X.env := by rfl) : Ev X W (.Call (.Name "range" p) [a] [] pos) G RRg (0, n) G1 := .mk fun σ F H Q S q =>
  toE (pe_callTy cr_range1 hg hm (by decide +kernel) (pa_cons wE_pe pa_nil hs) (by decide) (by decide) hs rfl) (ha.out σ F H _ S fun v F' H' e S' r1 => ⟨n, by rw [r1], fun p hp => by
    obtain ⟨e1, S1⟩ := S'.newR (o := .rng 0 n) hp
    exact q _ _ _ (e.trans e1) S1 ⟨p, rfl, upd_same⟩⟩)
theorem ev_rng2 {m n : Int} (hm : X.mg "range" = none) (ha : Ev X W a G RI m G1) (hb : Ev X W b G1 RI n G2) (hg : Gl X "range" := by rfl) (hs : starEach [a, b] X.env = (false, eval a X.env) :: starEach [b] X.env := by rfl) (hs1 : starEach [b] X.env = (false, eval b X.env) :: starEach [] X.env := by rfl) (hpl : (backTo pos (starEach [b] X.env)).any (·.1) = false := by rfl) :
    Ev X W (.Call (.Name "range" p) [a, b] [] pos) G RRg (m, n) G2 := .mk fun σ F H Q S q =>
  toE (pe_callTy cr_range2 hg hm (by decide +kernel) (pa_cons wE_pe (pa_cons wE_pe pa_nil hs1) hs) (by decide) (by decide) hs hpl) (two ha hb S fun v u F' H' e S' r1 r2 => ⟨m, n, by rw [r1, r2], fun p hp => by
    obtain ⟨e1, S1⟩ := S'.newR (o := .rng m n) hp
    exact q _ _ _ (e.trans e1) S1 ⟨p, rfl, upd_same⟩⟩)
end
section
variable {X : Cx} {W : Fx} {G : Gm} {β : Type} {Rk : Rp β}
theorem eo_sortedR {N fr : List Str} {par : Str} {js : List Nat} {params : Arguments} {e a : Expr} {scope : Scope} {k : Nat} {key : Int → Option β} {D : Dd X.K Rk} (en : β → PyData) {p pos lpos kpos : Pos} {x : Str} {fd : FuncData} {T : List (Addr × Str)} {lo hi : Int} (O : Od D) (hd : D.n ≤ 60) (he : D.e = en) {r : List Int} (ho : rngOk lo hi = true) (hO : srtK en key (rng lo hi) = some r) (hI : Ln G G) (hr : Room (k + 3) X.A)
    (L : LamW X N par fr js params e scope) (hn : js.length + 1 ≤ N.length) (TH : TbH X.K X.base X.mg x fd T) (hT : W.tb = T) (hm : X.mg "sorted" = none)
    (ha : Ev X W a G RRg (lo, hi) G) (B : LamB X W G N js params e scope k RI Rk key (rng lo hi)) (hcode : X.env.code = .ref (He.cT X.K (x, none)).1 := by rfl) (hq : X.env.qual = x ++ ".<locals>." := by rfl) (hc : X.calm = true := by rfl) (hdef : defaultsOf params X.env = ([], []) := by rfl) (hg : Gl X "sorted" := by rfl) (hs : starEach [a] X.env = (false, eval a X.env) :: starEach [] X.env := by rfl)
    (h1 : backTo pos (starEach [a] X.env) = (false, eval a X.env) :: backTo pos (starEach [] X.env) := by rfl) (hpl : (backTo pos (starEach [a] X.env)).any (·.1) = false := by rfl)
    (hall : (backToKw pos (keywordEach [⟨some "key", .Lambda params e scope lpos, kpos⟩] X.env)).all (·.1.isSome) = true := by rfl) (hnone : (backToKw pos (keywordEach [⟨some "key", .Lambda params e scope lpos, kpos⟩] X.env)).any (·.1.isNone) = false := by rfl) (hks : (backToKw pos (keywordEach [⟨some "key", .Lambda params e scope lpos, kpos⟩] X.env)).filterMap (·.1) = [Str.ofString "key"] := by rfl) :
    EvO X W (.Call (.Name "sorted" p) [a] [⟨some "key", .Lambda params e scope lpos, kpos⟩] pos) G (fun l => QL l RI r) G := .mk fun σ F H Q S q pins s I => by
  subst he
  obtain ⟨ky, rfl⟩ := srtK_all hO
  refine wpAny_Call_Name_kw (ld_blt (u := .builtin "sorted") I hg hm (by decide +kernel) ?_ (by decide) (by decide))
  refine PyProof.Rows.callWith_kw (thn ((pa_cons wE_pe pa_nil hs).run pos pins s σ H (fun vs H1 => ∃ F1 v, vs = [v] ∧ Ex F F1 ∧ Sat W G σ F1 H1 ∧ RRg.r F1 v (lo, hi)) I (ha.out σ F H _ S fun v F1 H1 e1 S1 r1 => ⟨F1, v, rfl, e1, S1, r1⟩)) fun us s1 ⟨vs, H1, I1, r1, q1⟩ => ?_) h1 hpl hall hnone
  obtain ⟨F1, v, rfl, e1, S1, l, rfl, l1⟩ := q1
  refine thn ((pk_cons wE_pe pk_nil).run pos pins s1 σ H1 (fun zs H2 => ∃ F2 z, zs = [z] ∧ Ex F1 F2 ∧ Sat W G σ F2 H2 ∧ (RLam X params e scope).r F2 z ()) I1 ((ev_lam TH.tb hcode (by rw [hT, hq]; exact TH.mem) (by rw [hT, hq]; exact TH.uni) L.hfree hdef).out σ F1 H1 _ S1 fun z F2 H2 e2 S2 r2 => ⟨F2, z, rfl, e2, S2, r2⟩)) fun ws s2 ⟨zs, H2, I2, r2, q2⟩ => ?_
  obtain ⟨F2, z, rfl, e2, S2, f, cc, rfl, hf, hc'⟩ := q2
  rw [hks]
  rw [Vals.ref1 r1]
  obtain ⟨w1, rfl, ew⟩ := vals1 r2
  obtain rfl : w1 = Value.ref f := ew
  obtain ⟨t, u, v, hr'⟩ := I2.hok l _ (S2.ex _ _ (e2 _ _ l1))
  obtain ⟨b1, b2, b3, b4, b5⟩ := rngOk_rg ho
  refine sorted_of_range (n := (hi - lo).toNat) (I2.ok.hd hc) hr' (small_one b1 b2 b3 b4) (rangeSize_nat lo hi) b5 (PyProof.Rows.ksk_s1 _ _) (fun _ => PyProof.Rows.ksk_l1 _ _) fun h' tk acc E' hk hi' => ?_
  have hv := vals_rg hi'
  have ea : acc.toList.toArray = acc := by simp
  rw [show ([Str.ofString "key"].zip [Value.ref f]) = [(Str.ofString "key", Value.ref f)] from rfl, PyProof.Rows.ksk_t1]
  have I3 : Inv X pins σ H2 { s2 with heap := h', toks := tk } := I2.kept hk
  refine sort_tree (s := { s2 with heap := h', toks := tk }) (tA := tk) (its := acc.toList) (nA := 0) (R := RI) O hd I3 S2 (alli_ln hI) hr L hn hf hc' hv (all2_rng lo hi) (by rw [← hv.length, rgV_length, sizeLine_eq]; omega) B ky (fun b o h => Heap.get?_push_of_some _ h) (by rw [ea]; exact Heap.get?_push_size _ rfl) (Nat.le_refl _) fun ys p F' H' e' S' r' hp _ => ?_
  obtain ⟨s1, s2⟩ := NewO.list (R := RI) (as := srtE (fun b => enK D.e (key b)) (rng lo hi)) S' hp r'
  exact q p F' _ (e1.trans (e2.trans e')) s1 s2
end
/-- .. of the law's own -/
theorem law_at {l : PySem.W.OpenLaw} {w : World} {K : PySem.W.Frag} {k n : Nat} {x : Str} {mg : Str → Option Value} {fa : Addr} {h : Heap} {fas : List He.Fa} {fns : List He.DefD} {ex : PySem.W.Frag → Bool} {names : List Str} {fd : FuncData} {sp : Sp} (KX : K.In h) (c : He.SaysX fas fns [] (names.map fun y => (y, none)) ex w h K)
    (hb : ∀ (s : Shared) (u : Value), BindsTo s fd ⟨[u], []⟩ [(x, u)]) (hF : ∀ base : Heap, K.In base → base.Ns mainGlobals mg → (∀ y ∈ names, LamX.TabB base mg (He.cT K (y, none)).1 (He.cT K (y, none)).2) → FnOk l.prog w K mg base CX0 k fa fd [x] sp)
    (hsp : ∀ (H : Hp) (a : Addr) (ns : List Int), ns.length ≤ n → (∀ p ∈ names.map (tk1 K), H p.1 = some (.tbl #[])) → SqL K H a (ns.map V.int) → sp [.ref a] H (fun v _ => v = .bl true) fun _ _ _ => False) : LamX.LawAtS l w K CX0 k n x mg fa h := by
  refine ⟨fd, names.map fun y => He.cT K (y, none), sp, fun p hp => ?_, fun p hp => ?_, fun p hp => ?_, hb, fun H a ns hl _ hT hS => hsp H a ns hl (fun p hp => ?_) hS, fun base h1 h2 h3 => hF base h1 h2 fun y hy => h3 _ (List.mem_map.mpr ⟨y, hy, rfl⟩)⟩
  · obtain ⟨y, hy, rfl⟩ := List.mem_map.mp hp
    exact c.empty _ (List.mem_map.mpr ⟨y, hy, rfl⟩)
  · obtain ⟨y, hy, rfl⟩ := List.mem_map.mp hp
    exact c.out _ (List.mem_map.mpr ⟨y, hy, rfl⟩)
  · obtain ⟨y, hy, rfl⟩ := List.mem_map.mp hp
    exact PySem.W.codeHd_of_K KX (c.hd _ (List.mem_map.mpr ⟨y, hy, rfl⟩))
  · obtain ⟨y, hy, rfl⟩ := List.mem_map.mp hp
    exact hT _ (List.mem_map.mpr ⟨y, hy, rfl⟩)
end Mz

namespace Mz
open PySem PySem.Spec PyProof.Rows L2
/-! ### list(range(a, b, c)) -/
section
variable {X : Cx} {W : Fx} {G G1 G2 G3 : Gm} {a b c : Expr} {p p2 pos pr : Pos}
theorem all2_rngN {F : Hp} (i c : Int) (n : Nat) : All2 RI F ((List.range n).map fun (k : Nat) => V.int (i + (k : Int) * c)) ((List.range n).map fun (k : Nat) => i + (k : Int) * c) := by
  show Paired (fun v a => RI.r F v a) _ _
  generalize List.range n = L
  induction L with
  | nil => exact .nil
  | cons a t ih => exact .cons rfl ih
theorem eo_listR3 {i j k : Int} (hm : X.mg "list" = none) (hm2 : X.mg "range" = none) (ho : rngSOk i j k = true) (ha : Ev X W a G RI i G1) (hb : Ev X W b G1 RI j G2) (hk : Ev X W c G2 RI k G3) (hc : X.calm = true := by rfl) (hg : Gl X "list" := by rfl) (hg2 : Gl X "range" := by rfl)
    (hs : starEach [a, b, c] X.env = (false, eval a X.env) :: starEach [b, c] X.env := by rfl) (hs1 : starEach [b, c] X.env = (false, eval b X.env) :: starEach [c] X.env := by rfl) (hs3 : starEach [c] X.env = (false, eval c X.env) :: starEach [] X.env := by rfl) (hp : (backTo pr (starEach [b, c] X.env)).any (·.1) = false := by rfl)
    (hs2 : starEach [.Call (.Name "range" p2) [a, b, c] [] pr] X.env = (false, eval (.Call (.Name "range" p2) [a, b, c] [] pr) X.env) :: starEach [] X.env := by rfl) : EvO X W (.Call (.Name "list" p) [.Call (.Name "range" p2) [a, b, c] [] pr] [] pos) G (fun l => QL l RI (rngS i j k)) G3 := .mk fun σ F H Q S q pins s I => by
  obtain ⟨⟨c0, c1, c2, c3⟩, hn⟩ := rngS_c ho
  refine Call_ (ld_blt I hg hm boot_list (PyProof.Rows.callWith_type1 (args_cons (thn (Q := fun x s' => ∃ r t u v H1 F1, x = .ref r ∧ IsRange s'.heap r i j k t u v ∧ Inv X pins σ H1 s' ∧ Ex F F1 ∧ Sat W G3 σ F1 H1) ?_ fun x s1 ⟨r, t, u, v, H1, F1, ex, hr, I1, e1, S1⟩ => args_nil ?_) hs2) hs2))
  · refine Call_ (ld_blt I hg2 hm2 boot_range (PyProof.Rows.callWith_type1 (thn ((pa_cons wE_pe (pa_cons wE_pe (pa_cons wE_pe pa_nil hs3) hs1) hs).run pr pins s σ H (fun vs H1 => ∃ F1, vs = [V.int i, V.int j, V.int k] ∧ Ex F F1 ∧ Sat W G3 σ F1 H1) I (ha.out σ F H _ S fun v1 F1 H1 e1 S1 r1 => hb.out σ F1 H1 _ S1 fun v2 F2 H2 e2 S2 r2 => hk.out σ F2 H2 _ S2 fun v3 F3 H3 e3 S3 r3 => ⟨F3, by rw [r1, r2, r3], e1.trans (e2.trans e3), S3⟩)) fun us s1 ⟨vs, H1, I1, r1, q1⟩ => ?_) hs hp))
    obtain ⟨F1, rfl, e1, S1⟩ := q1
    cases r1 with
    | cons r rr =>
      cases rr with
      | cons r' rr =>
        cases rr with
        | cons r'' rr =>
          cases rr
          obtain ⟨t, rfl⟩ := r
          obtain ⟨t', rfl⟩ := r'
          obtain ⟨t'', rfl⟩ := r''
          exact call_range_3 c0 ⟨_, _, _, _, H1, F1, rfl, IsRange.new .., I1.kept (t' := s1.toks) fun b o e => Heap.get?_push_of_some _ e, e1, S1⟩ (.inl (PyProof.noPylong_small c1))
  · subst ex
    refine call_list_range (n := (if i < j then ((j - i - 1) / k + 1).toNat else 0)) (I1.ok.hd hc) hr c2 c3 (by omega) fun h' tk acc c' hk' e' hi => ?_
    have hv : Vals ((List.range (if i < j then ((j - i - 1) / k + 1).toNat else 0)).map fun (z : Nat) => V.int (i + (z : Int) * k)) acc.toList := by
      have e : acc.toList.length = (if i < j then ((j - i - 1) / k + 1).toNat else 0) := by rw [Array.length_toList]; exact hi.1
      rw [← e]
      refine vals_of_get acc.toList _ fun j u hj => ?_
      obtain ⟨t, rfl⟩ := hi.2 j u (by rw [← hj, Array.getElem?_toList])
      exact ⟨t, rfl⟩
    have nP : H1 s1.heap.objs.size = none := I1.hok.fresh (Nat.le_refl _)
    obtain ⟨n1, n2⟩ := NewO.list (R := RI) (as := rngS i j k) S1 nP (all2_rngN i k _)
    refine ⟨.ref s1.heap.objs.size, upd H1 s1.heap.objs.size (.lst ((List.range (if i < j then ((j - i - 1) / k + 1).toNat else 0)).map fun (z : Nat) => V.int (i + (z : Int) * k))), I1.laid hk' (Nat.le_refl _) (show ObjOk X.prog X.w _ _ _ (.lst _) from ⟨?_, acc.toList, c', hv, ?_⟩), rfl, fun _ => q _ F1 _ e1 n1 n2⟩
    · rw [List.length_map, List.length_range, sizeLine_eq]; omega
    · rw [Array.toArray_toList]; exact e'
end
end Mz

namespace Mz
open PySem PySem.Spec PyProof.Rows L2 PySem.W PySem.Calls
/-! ### min and max with a lambda as key -/
/-- the iterator at I over xs -/
structure Wlk (X : Cx) (I : Addr) {α : Type} (R : Rp α) (xs : List α) (F0 : Hp) where
  st : Nat → Obj → Prop
  nc : ∀ {i : Nat} {o : Obj}, st i o → ∀ v, o.data ≠ .cell v
  item : ∀ {i : Nat} {x : α} {o : Obj} {pins : List (Addr × Obj)} {σ : L2.St} {F H : Hp} {s : Shared} {A : Around} {Q : Option Value → Shared → Prop} {E : Value → Shared → Prop}, xs[i]? = some x → Inv X pins σ H s → Ex F0 F → Ex F H → s.heap.get? I = some o → st i o →
    (∀ v u h' tk o', RelV v u → R.r F v x → Heap.SameBut I s.heap h' → h'.get? I = some o' → st (i + 1) o' → Q (some u) { s with heap := h', toks := tk }) → wpAny (model X.prog X.w) A (pyNext (.ref I)) Q E s
  fin : ∀ {o : Obj} {pins : List (Addr × Obj)} {σ : L2.St} {F H : Hp} {s : Shared} {A : Around} {Q : Option Value → Shared → Prop} {E : Value → Shared → Prop}, A.handled = none → Inv X pins σ H s → Ex F0 F → Ex F H → s.heap.get? I = some o → st xs.length o →
    (∀ h', Heap.ExtBut I s.heap h' → Q none { s with heap := h' }) → wpAny (model X.prog X.w) A (pyNext (.ref I)) Q E s
theorem minE_snoc {α : Type} {e : α → PyData} {xs : List α} {m x : α} (h : minE e xs = some m) : minE e (xs ++ [x]) = some (if dataLt (e x) (e m) = true then x else m) := by
  cases xs with
  | nil => cases h
  | cons a t =>
    show some ((t ++ [x]).foldl _ a) = _
    rw [List.foldl_append]
    cases h
    rfl
theorem maxE_snoc {α : Type} {e : α → PyData} {xs : List α} {m x : α} (h : maxE e xs = some m) : maxE e (xs ++ [x]) = some (if dataLt (e m) (e x) = true then x else m) := by
  cases xs with
  | nil => cases h
  | cons a t =>
    show some ((t ++ [x]).foldl _ a) = _
    rw [List.foldl_append]
    cases h
    rfl
section
variable {X : Cx} {W : Fx} {G : Gm} {α β : Type} {R : Rp α} {Rk : Rp β} {pins : List (Addr × Obj)} {σ : L2.St} {F0 : Hp} {N fr : List Str} {par : Str} {js : List Nat} {params : Arguments} {e : Expr} {scope : Scope} {k0 : Nat} {key : α → Option β} {xs : List α} {D : Dd X.K Rk} {Q : VK}

theorem min_loopL {A : Around} {I S f c : Addr} {kw : List (Str × Value)} (Wk : Wlk X I R xs F0) (O : Od D) (hd : D.n ≤ 60) (hI : AllI G) (hA : A.frames = some X.stack) (hr : Room (k0 + 2) A) (L : LamW X N par fr js params e scope) (hn : js.length + 1 ≤ N.length)
    (hf : F0 f = some (LamO f (lamF X params scope c) e)) (hc : F0 c = some (LamX.CodeO c (X.env.qual ++ "<lambda>"))) (B : LamB X W G N js params e scope k0 R Rk key xs) (ky : ∀ x ∈ xs, ∃ y, key x = some y) (szS : X.s_0.heap.objs.size ≤ S) (szI : X.s_0.heap.objs.size ≤ I) (hSI : S ≠ I) (npS : ∀ p ∈ X.pn ++ pins, p.1 ≠ S) (npI : ∀ p ∈ X.pn ++ pins, p.1 ≠ I)
    (q : ∀ v m F H, Ex F0 F → Sat W G σ F H → minE (fun x => enK D.e (key x)) xs = some m → R.r F v m → Q v H) :
    ∀ (k j : Nat) (s : Shared) (vb kb : Value) (c' : Nat) (o : Obj) (F H : Hp) (vv kv : V) (xb : α) (yb : β), xs.length - (j + 1) = k → j + 1 ≤ xs.length → Inv X ((S, seqObj "list" #[vb, kb] c') :: (I, o) :: pins) σ H s → Wk.st (j + 1) o → Ex F0 F → Sat W G σ F H → RelV vv vb → R.r F vv xb → RelV kv kb → Rk.r F kv yb → key xb = some yb → minE (fun x => enK D.e (key x)) (xs.take (j + 1)) = some xb →
      codeAny (model X.prog X.w) A (.builtin "min.loop" ⟨[.ref I, .ref f, .ref S], kw⟩) (fun r s' => ∃ u, r = .ok (.ret u) ∧ EP X pins σ Q u s') s := by
  have hname : (toString "min" ++ toString ".loop" : String) = "min.loop" := by decide
  intro k
  induction k with
  | zero =>
    intro j s vb kb c' o F H vv kv xb yb hk hj J hst eF Sa rv Rv rk Rv2 hkey hbest
    have hin : j + 1 = xs.length := by omega
    obtain ⟨s1, s2, s3, s4, s5⟩ := J.pin (S, seqObj "list" #[vb, kb] c') (List.mem_append_right _ (List.mem_cons_self ..))
    obtain ⟨i1, i2, i3, i4, i5⟩ := J.pin (I, o) (List.mem_append_right _ (List.mem_cons_of_mem _ (List.mem_cons_self ..)))
    refine codeAny_builtin PySem.F.entry_min_loop ?_
    rw [Around.under_plainId PySem.F.plain_min_loop _]
    show wpAny _ A.in1 (seqItems? (.ref S) >>= _) _ _ s
    refine wpAny_bind (wpAny_seqItems s1 rfl ?_)
    show wpAny _ A.in1 (tryCatch (pyNext (.ref I)) _ >>= _) _ _ s
    refine wpAny_bind (wpAny_tryCatch (Wk.fin hr.hd J eF Sa.ex i1 (hin ▸ hst) fun h' hx => ?_))
    have s1' : h'.get? S = some (seqObj "list" #[vb, kb] c') := hx S _ hSI s1
    show wpAny _ A.in1 (updateSeq S (fun _ => #[]) >>= _) _ _ _
    refine wpAny_bind ?_
    refine wpAny_updateSeq s1' rfl (wpAny_bind (wpAny_letGo (wpAny_pure ?_)))
    have J1 : Inv X ((S, seqObj "list" #[vb, kb] c') :: pins) σ H { s with heap := h', toks := s.toks } := by
      refine (Inv_pins J fun p z => ?_).turned (it := I) (fun b u hb e => hx b u hb e) i2 i3 (.inr szI) (pin_cell J (List.mem_cons_of_mem _ (List.mem_cons_self ..))) (fun p hp => ?_)
      · rcases List.mem_cons.mp z with rfl | z
        · exact List.mem_cons_self ..
        · exact List.mem_cons_of_mem _ (List.mem_cons_of_mem _ z)
      · rcases List.mem_append.mp hp with z | z
        · exact npI p (List.mem_append_left _ z)
        · rcases List.mem_cons.mp z with rfl | z
          · exact hSI
          · exact npI p (List.mem_append_right _ z)
    have sb := Heap.SameBut.update h' S (Obj.mapSeq fun _ => (#[] : Array Value))
    obtain ⟨c2, hc2⟩ : ∃ c2, (h'.update S (Obj.mapSeq fun _ => (#[] : Array Value))).get? S = some (seqObj "list" #[] c2) := ⟨_, get?_update_seq s1' fun _ => #[]⟩
    have J2 := Inv_pins (Inv_repin (t' := s.toks) J1 szS npS sb hc2 (fun v z => nomatch z)) (pins' := pins) fun p z => List.mem_cons_of_mem _ z
    exact ⟨vb, rfl, vv, H, J2, rv, q vv xb F H eF Sa (by rw [← hbest, hin, List.take_length]) Rv⟩
  | succ k ih =>
    intro j s vb kb c' o F H vv kv xb yb hk hj J hst eF Sa rv Rv rk Rv2 hkey hbest
    have hlt : j + 1 < xs.length := by omega
    obtain ⟨s1, s2, s3, s4, s5⟩ := J.pin (S, seqObj "list" #[vb, kb] c') (List.mem_append_right _ (List.mem_cons_self ..))
    obtain ⟨i1, i2, i3, i4, i5⟩ := J.pin (I, o) (List.mem_append_right _ (List.mem_cons_of_mem _ (List.mem_cons_self ..)))
    obtain ⟨x, hx⟩ : ∃ x, xs[j + 1]? = some x := ⟨_, List.getElem?_eq_getElem hlt⟩
    obtain ⟨y, hy⟩ := ky x (List.mem_of_getElem? hx)
    refine codeAny_builtin PySem.F.entry_min_loop ?_
    rw [Around.under_plainId PySem.F.plain_min_loop _]
    show wpAny _ A.in1 (seqItems? (.ref S) >>= _) _ _ s
    refine wpAny_bind (wpAny_seqItems s1 rfl ?_)
    show wpAny _ A.in1 (tryCatch (pyNext (.ref I)) _ >>= _) _ _ s
    refine wpAny_bind (wpAny_tryCatch (Wk.item hx J eF Sa.ex i1 hst fun v u h' tk o' rvu Rvx hs ho' hst' => ?_))
    have J1 : Inv X ((I, o') :: (S, seqObj "list" #[vb, kb] c') :: pins) σ H { s with heap := h', toks := tk } := by
      refine Inv_repin (o := o) (t' := tk) (Inv_pins J fun p z => ?_) szI (fun p hp => ?_) hs ho' (Wk.nc hst')
      · rcases List.mem_cons.mp z with rfl | z
        · exact List.mem_cons_of_mem _ (List.mem_cons_self ..)
        · rcases List.mem_cons.mp z with rfl | z
          · exact List.mem_cons_self ..
          · exact List.mem_cons_of_mem _ (List.mem_cons_of_mem _ z)
      · rcases List.mem_append.mp hp with z | z
        · exact npI p (List.mem_append_left _ z)
        · rcases List.mem_cons.mp z with rfl | z
          · exact hSI
          · exact npI p (List.mem_append_right _ z)
    show wpAny _ A.in1 (tryCatch (holding [u] (call (.ref f) [u])) _ >>= _) _ _ _
    refine wpAny_bind (wpAny_tryCatch (wpAny_holding (wpAny_mono (lam_key J1 Sa hI hA hr.in1 L hn (eF _ _ hf) (eF _ _ hc) rvu Rvx (List.mem_of_getElem? hx) hy B) (fun ku s2 he => ?_) fun _ _ hF => hF.elim)))
    obtain ⟨kw', H2, J2, rkv, F2, eF2, S2, Rk2⟩ := he
    obtain ⟨as1, rd1⟩ := Dp.reads J2 _ _ _ (ex_dp S2.ex (D.r _ _ _ Rk2)) rkv
    obtain ⟨as2, rd2⟩ := Dp.reads J2 _ _ _ (ex_dp S2.ex (D.r _ _ _ (Rk.mono eF2 Rv2))) rk
    have e1 : enK D.e (key x) = D.e y := by rw [hy]; rfl
    have e2 : enK D.e (key xb) = D.e yb := by rw [hkey]; rfl
    have hb2 : minE (fun x => enK D.e (key x)) (xs.take (j + 1 + 1)) = some (if dataLt (D.e y) (D.e yb) = true then x else xb) := by
      rw [show xs.take (j + 1 + 1) = xs.take (j + 1) ++ [x] from by rw [List.take_add_one (i := j + 1), hx]; simp, minE_snoc hbest, e1, e2]
    have dy := D.d y
    have un := hr.un
    show wpAny _ A.in1 (tryCatch (holding [u, ku] (richCompare .Lt ku kb >>= _)) _ >>= _) _ _ _
    refine wpAny_bind (wpAny_tryCatch (wpAny_holding (wpAny_bind (rcLt_alike (D.e y) (D.e yb) A.in1 s2 ku kb as1 as2 rd1 rd2 (O.al _ _) (O.nn _) (by show A.units + 1 + _ < _; omega) X.prog X.w _ _ ?_))))
    refine wpAny_bind (wpAny_holding (wpAny_truthy_bool ?_))
    refine wpAny_bind (wpAny_letGo (wpAny_pure ?_))
    obtain ⟨t1, t2, t3, t4, t5⟩ := J2.pin (S, seqObj "list" #[vb, kb] c') (List.mem_append_right _ (List.mem_cons_of_mem _ (List.mem_cons_self ..)))
    have J3 : Inv X ((S, seqObj "list" #[vb, kb] c') :: (I, o') :: pins) σ H2 s2 := Inv_pins J2 fun p z => by
      rcases List.mem_cons.mp z with rfl | z
      · exact List.mem_cons_of_mem _ (List.mem_cons_self ..)
      · rcases List.mem_cons.mp z with rfl | z
        · exact List.mem_cons_self ..
        · exact List.mem_cons_of_mem _ (List.mem_cons_of_mem _ z)
    cases hb : dataLt (D.e y) (D.e yb) with
    | true =>
      simp only [if_true]
      refine wpAny_bind ?_
      refine wpAny_updateSeq t1 rfl (wpAny_bind (wpAny_letGo ?_))
      rw [hname]
      have sb := Heap.SameBut.update s2.heap S (Obj.mapSeq fun _ => #[u, ku])
      obtain ⟨c2, hc2⟩ : ∃ c2, (s2.heap.update S (Obj.mapSeq fun _ => #[u, ku])).get? S = some (seqObj "list" #[u, ku] c2) := ⟨_, get?_update_seq t1 fun _ => #[u, ku]⟩
      have J4 := Inv_repin (t' := s2.toks) J3 szS (fun p hp => by
        rcases List.mem_append.mp hp with z | z
        · exact npS p (List.mem_append_left _ z)
        · rcases List.mem_cons.mp z with rfl | z
          · exact hSI.symm
          · exact npS p (List.mem_append_right _ z)) sb hc2 (fun v z => nomatch z)
      rw [hb, if_pos rfl] at hb2
      exact wpAny_pure ⟨plainId_quiet PySem.F.plain_min_loop _, ih (j + 1) _ u ku c2 o' F2 H2 v kw' x y (by omega) hlt J4 hst' (eF.trans eF2) S2 rvu (R.mono eF2 Rvx) rkv Rk2 hy hb2⟩
    | false =>
      simp only [Bool.false_eq_true, if_false]
      refine wpAny_bind (wpAny_letGo ?_)
      rw [hname]
      rw [hb, if_neg (by decide)] at hb2
      exact wpAny_pure ⟨plainId_quiet PySem.F.plain_min_loop _, ih (j + 1) _ vb kb c' o' F2 H2 vv kv xb yb (by omega) hlt J3 hst' (eF.trans eF2) S2 rv (R.mono eF2 Rv) rk (Rk.mono eF2 Rv2) hkey hb2⟩
theorem min_firstL {A : Around} {I S f c : Addr} {kw : List (Str × Value)} (Wk : Wlk X I R xs F0) (O : Od D) (hd : D.n ≤ 60) (hI : AllI G) (hA : A.frames = some X.stack) (hr : Room (k0 + 2) A) (L : LamW X N par fr js params e scope) (hn : js.length + 1 ≤ N.length)
    (hf : F0 f = some (LamO f (lamF X params scope c) e)) (hc : F0 c = some (LamX.CodeO c (X.env.qual ++ "<lambda>"))) (B : LamB X W G N js params e scope k0 R Rk key xs) (ky : ∀ x ∈ xs, ∃ y, key x = some y) (szS : X.s_0.heap.objs.size ≤ S) (szI : X.s_0.heap.objs.size ≤ I) (hSI : S ≠ I) (npS : ∀ p ∈ X.pn ++ pins, p.1 ≠ S) (npI : ∀ p ∈ X.pn ++ pins, p.1 ≠ I)
    (q : ∀ v m F H, Ex F0 F → Sat W G σ F H → minE (fun x => enK D.e (key x)) xs = some m → R.r F v m → Q v H) {s : Shared} {c' : Nat} {o : Obj} {F H : Hp} (hx0 : xs ≠ []) (J : Inv X ((S, seqObj "list" #[] c') :: (I, o) :: pins) σ H s) (hst : Wk.st 0 o) (eF : Ex F0 F) (Sa : Sat W G σ F H) :
      codeAny (model X.prog X.w) A (.builtin "min.loop" ⟨[.ref I, .ref f, .ref S], kw⟩) (fun r s' => ∃ u, r = .ok (.ret u) ∧ EP X pins σ Q u s') s := by
  have hname : (toString "min" ++ toString ".loop" : String) = "min.loop" := by decide
  have hlt : 0 < xs.length := List.length_pos_iff.mpr hx0
  obtain ⟨s1, s2, s3, s4, s5⟩ := J.pin (S, seqObj "list" #[] c') (List.mem_append_right _ (List.mem_cons_self ..))
  obtain ⟨i1, i2, i3, i4, i5⟩ := J.pin (I, o) (List.mem_append_right _ (List.mem_cons_of_mem _ (List.mem_cons_self ..)))
  obtain ⟨x, hx⟩ : ∃ x, xs[0]? = some x := ⟨_, List.getElem?_eq_getElem hlt⟩
  obtain ⟨y, hy⟩ := ky x (List.mem_of_getElem? hx)
  refine codeAny_builtin PySem.F.entry_min_loop ?_
  rw [Around.under_plainId PySem.F.plain_min_loop _]
  show wpAny _ A.in1 (seqItems? (.ref S) >>= _) _ _ s
  refine wpAny_bind (wpAny_seqItems s1 rfl ?_)
  show wpAny _ A.in1 (tryCatch (pyNext (.ref I)) _ >>= _) _ _ s
  refine wpAny_bind (wpAny_tryCatch (Wk.item hx J eF Sa.ex i1 hst fun v u h' tk o' rvu Rvx hs ho' hst' => ?_))
  have J1 : Inv X ((I, o') :: (S, seqObj "list" #[] c') :: pins) σ H { s with heap := h', toks := tk } := by
    refine Inv_repin (o := o) (t' := tk) (Inv_pins J fun p z => ?_) szI (fun p hp => ?_) hs ho' (Wk.nc hst')
    · rcases List.mem_cons.mp z with rfl | z
      · exact List.mem_cons_of_mem _ (List.mem_cons_self ..)
      · rcases List.mem_cons.mp z with rfl | z
        · exact List.mem_cons_self ..
        · exact List.mem_cons_of_mem _ (List.mem_cons_of_mem _ z)
    · rcases List.mem_append.mp hp with z | z
      · exact npI p (List.mem_append_left _ z)
      · rcases List.mem_cons.mp z with rfl | z
        · exact hSI
        · exact npI p (List.mem_append_right _ z)
  show wpAny _ A.in1 (tryCatch (holding [u] (call (.ref f) [u])) _ >>= _) _ _ _
  refine wpAny_bind (wpAny_tryCatch (wpAny_holding (wpAny_mono (lam_key J1 Sa hI hA hr.in1 L hn (eF _ _ hf) (eF _ _ hc) rvu Rvx (List.mem_of_getElem? hx) hy B) (fun ku s2 he => ?_) fun _ _ hF => hF.elim)))
  obtain ⟨kw', H2, J2, rkv, F2, eF2, S2, Rk2⟩ := he
  obtain ⟨t1, t2, t3, t4, t5⟩ := J2.pin (S, seqObj "list" #[] c') (List.mem_append_right _ (List.mem_cons_of_mem _ (List.mem_cons_self ..)))
  have J3 : Inv X ((S, seqObj "list" #[] c') :: (I, o') :: pins) σ H2 s2 := Inv_pins J2 fun p z => by
    rcases List.mem_cons.mp z with rfl | z
    · exact List.mem_cons_of_mem _ (List.mem_cons_self ..)
    · rcases List.mem_cons.mp z with rfl | z
      · exact List.mem_cons_self ..
      · exact List.mem_cons_of_mem _ (List.mem_cons_of_mem _ z)
  show wpAny _ A.in1 (updateSeq S (fun _ => #[u, ku]) >>= _) _ _ _
  refine wpAny_bind ?_
  refine wpAny_updateSeq t1 rfl ?_
  rw [hname]
  have sb := Heap.SameBut.update s2.heap S (Obj.mapSeq fun _ => #[u, ku])
  obtain ⟨c2, hc2⟩ : ∃ c2, (s2.heap.update S (Obj.mapSeq fun _ => #[u, ku])).get? S = some (seqObj "list" #[u, ku] c2) := ⟨_, get?_update_seq t1 fun _ => #[u, ku]⟩
  have J4 := Inv_repin (t' := s2.toks) J3 szS (fun p hp => by
    rcases List.mem_append.mp hp with z | z
    · exact npS p (List.mem_append_left _ z)
    · rcases List.mem_cons.mp z with rfl | z
      · exact hSI.symm
      · exact npS p (List.mem_append_right _ z)) sb hc2 (fun v z => nomatch z)
  refine wpAny_pure ⟨plainId_quiet PySem.F.plain_min_loop _, min_loopL Wk O hd hI hA hr L hn hf hc B ky szS szI hSI npS npI q _ 0 _ u ku c2 o' F2 H2 v kw' x y rfl hlt J4 hst' (eF.trans eF2) S2 rvu (R.mono eF2 Rvx) rkv Rk2 hy ?_⟩
  cases xs with
  | nil => exact absurd rfl hx0
  | cons a t => cases hx; rfl
theorem min_keyL {f c : Addr} {x : Value} (O : Od D) (hd : D.n ≤ 60) (hI : AllI G) (hr : Room (k0 + 3) X.A) (L : LamW X N par fr js params e scope) (hn : js.length + 1 ≤ N.length)
    (hf : F0 f = some (LamO f (lamF X params scope c) e)) (hc : F0 c = some (LamX.CodeO c (X.env.qual ++ "<lambda>"))) (B : LamB X W G N js params e scope k0 R Rk key xs) (ky : ∀ x ∈ xs, ∃ y, key x = some y) (hx0 : xs ≠ []) {s : Shared} {H : Hp} (J : Inv X pins σ H s) (Sa : Sat W G σ F0 H)
    (it : ∀ {A : Around} {Q' : Value → Shared → Prop} {E' : Value → Shared → Prop}, (∀ I h' o (Wk : Wlk X I R xs F0), s.heap.objs.size ≤ I → (∀ b u, s.heap.get? b = some u → h'.get? b = some u) → h'.get? I = some o → Wk.st 0 o → Q' (.ref I) { s with heap := h' }) → wpAny (model X.prog X.w) A (pyIter x) Q' E' s)
    (q : ∀ v m F H, Ex F0 F → Sat W G σ F H → minE (fun x => enK D.e (key x)) xs = some m → R.r F v m → Q v H) : wpAny (model X.prog X.w) X.A (call (.builtin "min") [x] [(Str.ofString "key", .ref f)]) (EP X pins σ Q) X.xe s := by
  have hname : (toString "min" ++ toString ".loop" : String) = "min.loop" := by decide
  refine PyProof.Rows.kmk_tree PySem.F.kind_min PySem.F.plain_min PySem.F.entry_min (PyProof.Rows.kmk_min_key _ _) ?_
  show wpAny _ X.A.in1 (Builtin.Builtins.bindParams "min" ["key", "default"] 0 ⟨[], [(Str.ofString "key", .ref f)]⟩ >>= _) _ _ s
  refine wpAny_bind (wpAny_of_eq (show Builtin.Builtins.bindParams "min" ["key", "default"] 0 ⟨[], [(Str.ofString "key", .ref f)]⟩ = pure [some (.ref f), none] from rfl) ?_)
  refine wpAny_bind (wpAny_pure ?_)
  refine wpAny_bind (it fun I h' o Wk hI0 kp ho hst => ?_)
  have szI : X.s_0.heap.objs.size ≤ I := Nat.le_trans J.sz hI0
  have IL : I ≠ X.env.locals := fun z => absurd (Nat.lt_of_lt_of_le J.lt hI0) (by rw [z]; exact Nat.lt_irrefl _)
  have J1 : Inv X ((I, o) :: pins) σ H { s with heap := h', toks := s.toks } := Inv_pinned (J.kept kp) ho (J.hok.fresh hI0) IL (J.nofs hI0) (Wk.nc hst)
  have npI : ∀ p ∈ X.pn ++ pins, p.1 ≠ I := fun p hp z => absurd (Nat.lt_of_lt_of_le (Heap.lt_size (J.pin p hp).1) hI0) (by rw [z]; exact Nat.lt_irrefl _)
  refine wpAny_bind (wpAny_newObj_type ?_)
  rw [hname]
  have kp2 : ∀ b u, h'.get? b = some u → (h'.push (seqObj "list" #[] 0)).get? b = some u := fun b u e => Heap.get?_push_of_some _ e
  have J2 : Inv X ((h'.objs.size, seqObj "list" #[] 0) :: (I, o) :: pins) σ H { s with heap := h'.push (seqObj "list" #[] 0), toks := s.toks } := by
    refine Inv_pinned (J1.kept kp2) (Heap.get?_push_size _ rfl) (J1.hok.fresh (Nat.le_refl _)) (fun z => ?_) (J1.nofs (Nat.le_refl _)) fun v z => nomatch z
    have := J1.lt
    rw [← z] at this
    exact Nat.lt_irrefl _ this
  have npS : ∀ p ∈ X.pn ++ pins, p.1 ≠ h'.objs.size := fun p hp z => absurd (Heap.lt_size (kp _ _ (J.pin p hp).1)) (by rw [z]; exact Nat.lt_irrefl _)
  have hSI : h'.objs.size ≠ I := fun z => absurd (Heap.lt_size ho) (by rw [← z]; exact Nat.lt_irrefl _)
  refine wpAny_pure ⟨plainId_quiet PySem.F.plain_min_loop _, codeAny_mono (min_firstL (A := X.A) (kw := []) Wk O hd hI J.ok.frames (hr.mono (by omega)) L hn hf hc B ky J1.sz szI hSI npS npI q hx0 J2 hst (Ex.refl F0) Sa) fun r s' h => ?_⟩
  obtain ⟨u, rfl, h⟩ := h
  exact h

theorem max_loopL {A : Around} {I S f c : Addr} {kw : List (Str × Value)} (Wk : Wlk X I R xs F0) (O : Od D) (hd : D.n ≤ 60) (hI : AllI G) (hA : A.frames = some X.stack) (hr : Room (k0 + 2) A) (L : LamW X N par fr js params e scope) (hn : js.length + 1 ≤ N.length)
    (hf : F0 f = some (LamO f (lamF X params scope c) e)) (hc : F0 c = some (LamX.CodeO c (X.env.qual ++ "<lambda>"))) (B : LamB X W G N js params e scope k0 R Rk key xs) (ky : ∀ x ∈ xs, ∃ y, key x = some y) (szS : X.s_0.heap.objs.size ≤ S) (szI : X.s_0.heap.objs.size ≤ I) (hSI : S ≠ I) (npS : ∀ p ∈ X.pn ++ pins, p.1 ≠ S) (npI : ∀ p ∈ X.pn ++ pins, p.1 ≠ I)
    (q : ∀ v m F H, Ex F0 F → Sat W G σ F H → maxE (fun x => enK D.e (key x)) xs = some m → R.r F v m → Q v H) :
    ∀ (k j : Nat) (s : Shared) (vb kb : Value) (c' : Nat) (o : Obj) (F H : Hp) (vv kv : V) (xb : α) (yb : β), xs.length - (j + 1) = k → j + 1 ≤ xs.length → Inv X ((S, seqObj "list" #[vb, kb] c') :: (I, o) :: pins) σ H s → Wk.st (j + 1) o → Ex F0 F → Sat W G σ F H → RelV vv vb → R.r F vv xb → RelV kv kb → Rk.r F kv yb → key xb = some yb → maxE (fun x => enK D.e (key x)) (xs.take (j + 1)) = some xb →
      codeAny (model X.prog X.w) A (.builtin "max.loop" ⟨[.ref I, .ref f, .ref S], kw⟩) (fun r s' => ∃ u, r = .ok (.ret u) ∧ EP X pins σ Q u s') s := by
  have hname : (toString "max" ++ toString ".loop" : String) = "max.loop" := by decide
  intro k
  induction k with
  | zero =>
    intro j s vb kb c' o F H vv kv xb yb hk hj J hst eF Sa rv Rv rk Rv2 hkey hbest
    have hin : j + 1 = xs.length := by omega
    obtain ⟨s1, s2, s3, s4, s5⟩ := J.pin (S, seqObj "list" #[vb, kb] c') (List.mem_append_right _ (List.mem_cons_self ..))
    obtain ⟨i1, i2, i3, i4, i5⟩ := J.pin (I, o) (List.mem_append_right _ (List.mem_cons_of_mem _ (List.mem_cons_self ..)))
    refine codeAny_builtin PySem.F.entry_max_loop ?_
    rw [Around.under_plainId PySem.F.plain_max_loop _]
    show wpAny _ A.in1 (seqItems? (.ref S) >>= _) _ _ s
    refine wpAny_bind (wpAny_seqItems s1 rfl ?_)
    show wpAny _ A.in1 (tryCatch (pyNext (.ref I)) _ >>= _) _ _ s
    refine wpAny_bind (wpAny_tryCatch (Wk.fin hr.hd J eF Sa.ex i1 (hin ▸ hst) fun h' hx => ?_))
    have s1' : h'.get? S = some (seqObj "list" #[vb, kb] c') := hx S _ hSI s1
    show wpAny _ A.in1 (updateSeq S (fun _ => #[]) >>= _) _ _ _
    refine wpAny_bind ?_
    refine wpAny_updateSeq s1' rfl (wpAny_bind (wpAny_letGo (wpAny_pure ?_)))
    have J1 : Inv X ((S, seqObj "list" #[vb, kb] c') :: pins) σ H { s with heap := h', toks := s.toks } := by
      refine (Inv_pins J fun p z => ?_).turned (it := I) (fun b u hb e => hx b u hb e) i2 i3 (.inr szI) (pin_cell J (List.mem_cons_of_mem _ (List.mem_cons_self ..))) (fun p hp => ?_)
      · rcases List.mem_cons.mp z with rfl | z
        · exact List.mem_cons_self ..
        · exact List.mem_cons_of_mem _ (List.mem_cons_of_mem _ z)
      · rcases List.mem_append.mp hp with z | z
        · exact npI p (List.mem_append_left _ z)
        · rcases List.mem_cons.mp z with rfl | z
          · exact hSI
          · exact npI p (List.mem_append_right _ z)
    have sb := Heap.SameBut.update h' S (Obj.mapSeq fun _ => (#[] : Array Value))
    obtain ⟨c2, hc2⟩ : ∃ c2, (h'.update S (Obj.mapSeq fun _ => (#[] : Array Value))).get? S = some (seqObj "list" #[] c2) := ⟨_, get?_update_seq s1' fun _ => #[]⟩
    have J2 := Inv_pins (Inv_repin (t' := s.toks) J1 szS npS sb hc2 (fun v z => nomatch z)) (pins' := pins) fun p z => List.mem_cons_of_mem _ z
    exact ⟨vb, rfl, vv, H, J2, rv, q vv xb F H eF Sa (by rw [← hbest, hin, List.take_length]) Rv⟩
  | succ k ih =>
    intro j s vb kb c' o F H vv kv xb yb hk hj J hst eF Sa rv Rv rk Rv2 hkey hbest
    have hlt : j + 1 < xs.length := by omega
    obtain ⟨s1, s2, s3, s4, s5⟩ := J.pin (S, seqObj "list" #[vb, kb] c') (List.mem_append_right _ (List.mem_cons_self ..))
    obtain ⟨i1, i2, i3, i4, i5⟩ := J.pin (I, o) (List.mem_append_right _ (List.mem_cons_of_mem _ (List.mem_cons_self ..)))
    obtain ⟨x, hx⟩ : ∃ x, xs[j + 1]? = some x := ⟨_, List.getElem?_eq_getElem hlt⟩
    obtain ⟨y, hy⟩ := ky x (List.mem_of_getElem? hx)
    refine codeAny_builtin PySem.F.entry_max_loop ?_
    rw [Around.under_plainId PySem.F.plain_max_loop _]
    show wpAny _ A.in1 (seqItems? (.ref S) >>= _) _ _ s
    refine wpAny_bind (wpAny_seqItems s1 rfl ?_)
    show wpAny _ A.in1 (tryCatch (pyNext (.ref I)) _ >>= _) _ _ s
    refine wpAny_bind (wpAny_tryCatch (Wk.item hx J eF Sa.ex i1 hst fun v u h' tk o' rvu Rvx hs ho' hst' => ?_))
    have J1 : Inv X ((I, o') :: (S, seqObj "list" #[vb, kb] c') :: pins) σ H { s with heap := h', toks := tk } := by
      refine Inv_repin (o := o) (t' := tk) (Inv_pins J fun p z => ?_) szI (fun p hp => ?_) hs ho' (Wk.nc hst')
      · rcases List.mem_cons.mp z with rfl | z
        · exact List.mem_cons_of_mem _ (List.mem_cons_self ..)
        · rcases List.mem_cons.mp z with rfl | z
          · exact List.mem_cons_self ..
          · exact List.mem_cons_of_mem _ (List.mem_cons_of_mem _ z)
      · rcases List.mem_append.mp hp with z | z
        · exact npI p (List.mem_append_left _ z)
        · rcases List.mem_cons.mp z with rfl | z
          · exact hSI
          · exact npI p (List.mem_append_right _ z)
    show wpAny _ A.in1 (tryCatch (holding [u] (call (.ref f) [u])) _ >>= _) _ _ _
    refine wpAny_bind (wpAny_tryCatch (wpAny_holding (wpAny_mono (lam_key J1 Sa hI hA hr.in1 L hn (eF _ _ hf) (eF _ _ hc) rvu Rvx (List.mem_of_getElem? hx) hy B) (fun ku s2 he => ?_) fun _ _ hF => hF.elim)))
    obtain ⟨kw', H2, J2, rkv, F2, eF2, S2, Rk2⟩ := he
    obtain ⟨as1, rd1⟩ := Dp.reads J2 _ _ _ (ex_dp S2.ex (D.r _ _ _ Rk2)) rkv
    obtain ⟨as2, rd2⟩ := Dp.reads J2 _ _ _ (ex_dp S2.ex (D.r _ _ _ (Rk.mono eF2 Rv2))) rk
    have e1 : enK D.e (key x) = D.e y := by rw [hy]; rfl
    have e2 : enK D.e (key xb) = D.e yb := by rw [hkey]; rfl
    have hb2 : maxE (fun x => enK D.e (key x)) (xs.take (j + 1 + 1)) = some (if dataLt (D.e yb) (D.e y) = true then x else xb) := by
      rw [show xs.take (j + 1 + 1) = xs.take (j + 1) ++ [x] from by rw [List.take_add_one (i := j + 1), hx]; simp, maxE_snoc hbest, e1, e2]
    have dy := D.d y
    have un := hr.un
    show wpAny _ A.in1 (tryCatch (holding [u, ku] (richCompare .Gt ku kb >>= _)) _ >>= _) _ _ _
    refine wpAny_bind (wpAny_tryCatch (wpAny_holding (wpAny_bind (rcGt_alike (D.e y) (D.e yb) A.in1 s2 ku kb as1 as2 rd1 rd2 (O.al _ _) (O.nn _) (by show A.units + 1 + _ < _; omega) X.prog X.w _ _ ?_))))
    refine wpAny_bind (wpAny_holding (wpAny_truthy_bool ?_))
    refine wpAny_bind (wpAny_letGo (wpAny_pure ?_))
    obtain ⟨t1, t2, t3, t4, t5⟩ := J2.pin (S, seqObj "list" #[vb, kb] c') (List.mem_append_right _ (List.mem_cons_of_mem _ (List.mem_cons_self ..)))
    have J3 : Inv X ((S, seqObj "list" #[vb, kb] c') :: (I, o') :: pins) σ H2 s2 := Inv_pins J2 fun p z => by
      rcases List.mem_cons.mp z with rfl | z
      · exact List.mem_cons_of_mem _ (List.mem_cons_self ..)
      · rcases List.mem_cons.mp z with rfl | z
        · exact List.mem_cons_self ..
        · exact List.mem_cons_of_mem _ (List.mem_cons_of_mem _ z)
    cases hb : dataLt (D.e yb) (D.e y) with
    | true =>
      simp only [if_true]
      refine wpAny_bind ?_
      refine wpAny_updateSeq t1 rfl (wpAny_bind (wpAny_letGo ?_))
      rw [hname]
      have sb := Heap.SameBut.update s2.heap S (Obj.mapSeq fun _ => #[u, ku])
      obtain ⟨c2, hc2⟩ : ∃ c2, (s2.heap.update S (Obj.mapSeq fun _ => #[u, ku])).get? S = some (seqObj "list" #[u, ku] c2) := ⟨_, get?_update_seq t1 fun _ => #[u, ku]⟩
      have J4 := Inv_repin (t' := s2.toks) J3 szS (fun p hp => by
        rcases List.mem_append.mp hp with z | z
        · exact npS p (List.mem_append_left _ z)
        · rcases List.mem_cons.mp z with rfl | z
          · exact hSI.symm
          · exact npS p (List.mem_append_right _ z)) sb hc2 (fun v z => nomatch z)
      rw [hb, if_pos rfl] at hb2
      exact wpAny_pure ⟨plainId_quiet PySem.F.plain_max_loop _, ih (j + 1) _ u ku c2 o' F2 H2 v kw' x y (by omega) hlt J4 hst' (eF.trans eF2) S2 rvu (R.mono eF2 Rvx) rkv Rk2 hy hb2⟩
    | false =>
      simp only [Bool.false_eq_true, if_false]
      refine wpAny_bind (wpAny_letGo ?_)
      rw [hname]
      rw [hb, if_neg (by decide)] at hb2
      exact wpAny_pure ⟨plainId_quiet PySem.F.plain_max_loop _, ih (j + 1) _ vb kb c' o' F2 H2 vv kv xb yb (by omega) hlt J3 hst' (eF.trans eF2) S2 rv (R.mono eF2 Rv) rk (Rk.mono eF2 Rv2) hkey hb2⟩
theorem max_firstL {A : Around} {I S f c : Addr} {kw : List (Str × Value)} (Wk : Wlk X I R xs F0) (O : Od D) (hd : D.n ≤ 60) (hI : AllI G) (hA : A.frames = some X.stack) (hr : Room (k0 + 2) A) (L : LamW X N par fr js params e scope) (hn : js.length + 1 ≤ N.length)
    (hf : F0 f = some (LamO f (lamF X params scope c) e)) (hc : F0 c = some (LamX.CodeO c (X.env.qual ++ "<lambda>"))) (B : LamB X W G N js params e scope k0 R Rk key xs) (ky : ∀ x ∈ xs, ∃ y, key x = some y) (szS : X.s_0.heap.objs.size ≤ S) (szI : X.s_0.heap.objs.size ≤ I) (hSI : S ≠ I) (npS : ∀ p ∈ X.pn ++ pins, p.1 ≠ S) (npI : ∀ p ∈ X.pn ++ pins, p.1 ≠ I)
    (q : ∀ v m F H, Ex F0 F → Sat W G σ F H → maxE (fun x => enK D.e (key x)) xs = some m → R.r F v m → Q v H) {s : Shared} {c' : Nat} {o : Obj} {F H : Hp} (hx0 : xs ≠ []) (J : Inv X ((S, seqObj "list" #[] c') :: (I, o) :: pins) σ H s) (hst : Wk.st 0 o) (eF : Ex F0 F) (Sa : Sat W G σ F H) :
      codeAny (model X.prog X.w) A (.builtin "max.loop" ⟨[.ref I, .ref f, .ref S], kw⟩) (fun r s' => ∃ u, r = .ok (.ret u) ∧ EP X pins σ Q u s') s := by
  have hname : (toString "max" ++ toString ".loop" : String) = "max.loop" := by decide
  have hlt : 0 < xs.length := List.length_pos_iff.mpr hx0
  obtain ⟨s1, s2, s3, s4, s5⟩ := J.pin (S, seqObj "list" #[] c') (List.mem_append_right _ (List.mem_cons_self ..))
  obtain ⟨i1, i2, i3, i4, i5⟩ := J.pin (I, o) (List.mem_append_right _ (List.mem_cons_of_mem _ (List.mem_cons_self ..)))
  obtain ⟨x, hx⟩ : ∃ x, xs[0]? = some x := ⟨_, List.getElem?_eq_getElem hlt⟩
  obtain ⟨y, hy⟩ := ky x (List.mem_of_getElem? hx)
  refine codeAny_builtin PySem.F.entry_max_loop ?_
  rw [Around.under_plainId PySem.F.plain_max_loop _]
  show wpAny _ A.in1 (seqItems? (.ref S) >>= _) _ _ s
  refine wpAny_bind (wpAny_seqItems s1 rfl ?_)
  show wpAny _ A.in1 (tryCatch (pyNext (.ref I)) _ >>= _) _ _ s
  refine wpAny_bind (wpAny_tryCatch (Wk.item hx J eF Sa.ex i1 hst fun v u h' tk o' rvu Rvx hs ho' hst' => ?_))
  have J1 : Inv X ((I, o') :: (S, seqObj "list" #[] c') :: pins) σ H { s with heap := h', toks := tk } := by
    refine Inv_repin (o := o) (t' := tk) (Inv_pins J fun p z => ?_) szI (fun p hp => ?_) hs ho' (Wk.nc hst')
    · rcases List.mem_cons.mp z with rfl | z
      · exact List.mem_cons_of_mem _ (List.mem_cons_self ..)
      · rcases List.mem_cons.mp z with rfl | z
        · exact List.mem_cons_self ..
        · exact List.mem_cons_of_mem _ (List.mem_cons_of_mem _ z)
    · rcases List.mem_append.mp hp with z | z
      · exact npI p (List.mem_append_left _ z)
      · rcases List.mem_cons.mp z with rfl | z
        · exact hSI
        · exact npI p (List.mem_append_right _ z)
  show wpAny _ A.in1 (tryCatch (holding [u] (call (.ref f) [u])) _ >>= _) _ _ _
  refine wpAny_bind (wpAny_tryCatch (wpAny_holding (wpAny_mono (lam_key J1 Sa hI hA hr.in1 L hn (eF _ _ hf) (eF _ _ hc) rvu Rvx (List.mem_of_getElem? hx) hy B) (fun ku s2 he => ?_) fun _ _ hF => hF.elim)))
  obtain ⟨kw', H2, J2, rkv, F2, eF2, S2, Rk2⟩ := he
  obtain ⟨t1, t2, t3, t4, t5⟩ := J2.pin (S, seqObj "list" #[] c') (List.mem_append_right _ (List.mem_cons_of_mem _ (List.mem_cons_self ..)))
  have J3 : Inv X ((S, seqObj "list" #[] c') :: (I, o') :: pins) σ H2 s2 := Inv_pins J2 fun p z => by
    rcases List.mem_cons.mp z with rfl | z
    · exact List.mem_cons_of_mem _ (List.mem_cons_self ..)
    · rcases List.mem_cons.mp z with rfl | z
      · exact List.mem_cons_self ..
      · exact List.mem_cons_of_mem _ (List.mem_cons_of_mem _ z)
  show wpAny _ A.in1 (updateSeq S (fun _ => #[u, ku]) >>= _) _ _ _
  refine wpAny_bind ?_
  refine wpAny_updateSeq t1 rfl ?_
  rw [hname]
  have sb := Heap.SameBut.update s2.heap S (Obj.mapSeq fun _ => #[u, ku])
  obtain ⟨c2, hc2⟩ : ∃ c2, (s2.heap.update S (Obj.mapSeq fun _ => #[u, ku])).get? S = some (seqObj "list" #[u, ku] c2) := ⟨_, get?_update_seq t1 fun _ => #[u, ku]⟩
  have J4 := Inv_repin (t' := s2.toks) J3 szS (fun p hp => by
    rcases List.mem_append.mp hp with z | z
    · exact npS p (List.mem_append_left _ z)
    · rcases List.mem_cons.mp z with rfl | z
      · exact hSI.symm
      · exact npS p (List.mem_append_right _ z)) sb hc2 (fun v z => nomatch z)
  refine wpAny_pure ⟨plainId_quiet PySem.F.plain_max_loop _, max_loopL Wk O hd hI hA hr L hn hf hc B ky szS szI hSI npS npI q _ 0 _ u ku c2 o' F2 H2 v kw' x y rfl hlt J4 hst' (eF.trans eF2) S2 rvu (R.mono eF2 Rvx) rkv Rk2 hy ?_⟩
  cases xs with
  | nil => exact absurd rfl hx0
  | cons a t => cases hx; rfl
theorem max_keyL {f c : Addr} {x : Value} (O : Od D) (hd : D.n ≤ 60) (hI : AllI G) (hr : Room (k0 + 3) X.A) (L : LamW X N par fr js params e scope) (hn : js.length + 1 ≤ N.length)
    (hf : F0 f = some (LamO f (lamF X params scope c) e)) (hc : F0 c = some (LamX.CodeO c (X.env.qual ++ "<lambda>"))) (B : LamB X W G N js params e scope k0 R Rk key xs) (ky : ∀ x ∈ xs, ∃ y, key x = some y) (hx0 : xs ≠ []) {s : Shared} {H : Hp} (J : Inv X pins σ H s) (Sa : Sat W G σ F0 H)
    (it : ∀ {A : Around} {Q' : Value → Shared → Prop} {E' : Value → Shared → Prop}, (∀ I h' o (Wk : Wlk X I R xs F0), s.heap.objs.size ≤ I → (∀ b u, s.heap.get? b = some u → h'.get? b = some u) → h'.get? I = some o → Wk.st 0 o → Q' (.ref I) { s with heap := h' }) → wpAny (model X.prog X.w) A (pyIter x) Q' E' s)
    (q : ∀ v m F H, Ex F0 F → Sat W G σ F H → maxE (fun x => enK D.e (key x)) xs = some m → R.r F v m → Q v H) : wpAny (model X.prog X.w) X.A (call (.builtin "max") [x] [(Str.ofString "key", .ref f)]) (EP X pins σ Q) X.xe s := by
  have hname : (toString "max" ++ toString ".loop" : String) = "max.loop" := by decide
  refine PyProof.Rows.kmk_tree PySem.F.kind_max PySem.F.plain_max PySem.F.entry_max (PyProof.Rows.kmk_max_key _ _) ?_
  show wpAny _ X.A.in1 (Builtin.Builtins.bindParams "max" ["key", "default"] 0 ⟨[], [(Str.ofString "key", .ref f)]⟩ >>= _) _ _ s
  refine wpAny_bind (wpAny_of_eq (show Builtin.Builtins.bindParams "max" ["key", "default"] 0 ⟨[], [(Str.ofString "key", .ref f)]⟩ = pure [some (.ref f), none] from rfl) ?_)
  refine wpAny_bind (wpAny_pure ?_)
  refine wpAny_bind (it fun I h' o Wk hI0 kp ho hst => ?_)
  have szI : X.s_0.heap.objs.size ≤ I := Nat.le_trans J.sz hI0
  have IL : I ≠ X.env.locals := fun z => absurd (Nat.lt_of_lt_of_le J.lt hI0) (by rw [z]; exact Nat.lt_irrefl _)
  have J1 : Inv X ((I, o) :: pins) σ H { s with heap := h', toks := s.toks } := Inv_pinned (J.kept kp) ho (J.hok.fresh hI0) IL (J.nofs hI0) (Wk.nc hst)
  have npI : ∀ p ∈ X.pn ++ pins, p.1 ≠ I := fun p hp z => absurd (Nat.lt_of_lt_of_le (Heap.lt_size (J.pin p hp).1) hI0) (by rw [z]; exact Nat.lt_irrefl _)
  refine wpAny_bind (wpAny_newObj_type ?_)
  rw [hname]
  have kp2 : ∀ b u, h'.get? b = some u → (h'.push (seqObj "list" #[] 0)).get? b = some u := fun b u e => Heap.get?_push_of_some _ e
  have J2 : Inv X ((h'.objs.size, seqObj "list" #[] 0) :: (I, o) :: pins) σ H { s with heap := h'.push (seqObj "list" #[] 0), toks := s.toks } := by
    refine Inv_pinned (J1.kept kp2) (Heap.get?_push_size _ rfl) (J1.hok.fresh (Nat.le_refl _)) (fun z => ?_) (J1.nofs (Nat.le_refl _)) fun v z => nomatch z
    have := J1.lt
    rw [← z] at this
    exact Nat.lt_irrefl _ this
  have npS : ∀ p ∈ X.pn ++ pins, p.1 ≠ h'.objs.size := fun p hp z => absurd (Heap.lt_size (kp _ _ (J.pin p hp).1)) (by rw [z]; exact Nat.lt_irrefl _)
  have hSI : h'.objs.size ≠ I := fun z => absurd (Heap.lt_size ho) (by rw [← z]; exact Nat.lt_irrefl _)
  refine wpAny_pure ⟨plainId_quiet PySem.F.plain_max_loop _, codeAny_mono (max_firstL (A := X.A) (kw := []) Wk O hd hI J.ok.frames (hr.mono (by omega)) L hn hf hc B ky J1.sz szI hSI npS npI q hx0 J2 hst (Ex.refl F0) Sa) fun r s' h => ?_⟩
  obtain ⟨u, rfl, h⟩ := h
  exact h
end
end Mz

namespace Mz
open PySem PySem.Spec PyProof.Rows L2
/-- a value that is walked: its items -/
def Iters (X : Cx) {α : Type} (R : Rp α) (Rs : Rp (List α)) (xs : List α) : Prop :=
  ∀ {pins : List (Addr × Obj)} {σ : L2.St} {F H : Hp} {s : Shared} {v : V} {u : Value}, Inv X pins σ H s → Ex F H → Rs.r F v xs → RelV v u → ∀ {A : Around} {Q' : Value → Shared → Prop} {E' : Value → Shared → Prop}, (∀ I h' o (Wk : Wlk X I R xs F), s.heap.objs.size ≤ I → (∀ b u, s.heap.get? b = some u → h'.get? b = some u) → h'.get? I = some o → Wk.st 0 o → Q' (.ref I) { s with heap := h' }) → wpAny (model X.prog X.w) A (pyIter u) Q' E' s
theorem it_L {X : Cx} {α : Type} {R : Rp α} {xs : List α} : Iters X R (RL X.K R) xs := by
  intro pins σ F H s v u I e r rv A Q' E' k
  obtain ⟨l, vs, rfl, h1, h2⟩ := r
  obtain rfl : u = Value.ref l := rv
  obtain ⟨its, rv, hl, hz⟩ := I.list (ex_sql e h1)
  refine wpAny_pyIter_list hl.isList (k _ _ _ ⟨fun i o => o.cls = .type "list_iterator" ∧ o.data = .fields #[.ref l, .int i 0], fun {i o} h v z => (by rw [h.2] at z; cases z), ?_, ?_⟩ (Nat.le_refl _) (fun b u e => Heap.get?_push_of_some _ e) (Heap.get?_push_size _ rfl) ⟨rfl, rfl⟩)
  · intro i x o pins' σ' F' H' s' A' Q E hx J eF eH ho hst q
    obtain ⟨its', rv', hl', hz'⟩ := J.list (ex_sql eH (ex_rl eF h1))
    obtain ⟨w, hw, hR⟩ := (h2.mono eF).get hx
    obtain ⟨u, hu, ru⟩ := Vals.get rv' hw
    exact wpAny_pyNext_list_item ⟨o, ho, hst.1, hst.2⟩ hl'.isList (by rw [List.getElem?_toArray]; exact hu) fun h' ⟨o', g1, g2, g3⟩ hs => q w u h' s'.toks o' ru hR hs g1 ⟨g2, g3⟩
  · intro o pins' σ' F' H' s' A' Q E hh J eF eH ho hst q
    obtain ⟨its', rv', hl', hz'⟩ := J.list (ex_sql eH (ex_rl eF h1))
    refine wpAny_pyNext_list_end hh ⟨o, ho, hst.1, hst.2⟩ hl'.isList ?_ q
    rw [List.getElem?_toArray]
    exact List.getElem?_eq_none (by rw [← rv'.length, h2.len]; exact Nat.le_refl _)
/-- a range, by its items -/
def RRi (lo hi : Int) : Rp (List Int) := ⟨fun F v xs => RRg.r F v (lo, hi) ∧ xs = rng lo hi, fun {F F' v a} e h => ⟨RRg.mono e h.1, h.2⟩⟩
theorem it_R {X : Cx} {lo hi : Int} (ho : rngOk lo hi = true) : Iters X RI (RRi lo hi) (rng lo hi) := by
  intro pins σ F H s v u I e r rv A Q' E' k
  obtain ⟨⟨l, rfl, h1⟩, _⟩ := r
  obtain rfl : u = Value.ref l := rv
  obtain ⟨t, u, v, hr'⟩ := I.hok l _ (e _ _ h1)
  obtain ⟨b1, b2, b3, b4, b5⟩ := rngOk_rg ho
  have hsz := rangeSize_nat lo hi
  have len : (rng lo hi).length = (hi - lo).toNat := rng_len lo hi
  refine wpAny_pyIter_range hr' (small_one b1 b2 b3 b4) (k _ _ _ ⟨fun i o => o = { cls := .type "range_iterator", dict := none, data := .fields #[rawInt (lo + (i : Int)), rawInt (((hi - lo).toNat : Int) - i), rawInt 1], slots := #[] }, fun {i o} h v z => (by rw [h] at z; cases z), ?_, ?_⟩ (Nat.le_refl _) (fun b u e => Heap.get?_push_of_some _ e) (Heap.get?_push_size _ rfl) (by rw [hsz]; simp))
  · intro i x o pins' σ' F' H' s' A' Q E hx J eF eH ho hst q
    have hi' : i < (hi - lo).toNat := by rw [← len]; exact (List.getElem?_eq_some_iff.mp hx).1
    have ex : x = lo + (i : Int) := by
      unfold rng at hx
      rw [List.getElem?_map, List.getElem?_range hi'] at hx
      exact (Option.some.inj hx).symm
    subst ex
    refine wpAny_pyNext_range_item (x := lo + (i : Int)) (left := ((hi - lo).toNat : Int) - i) (step := 1) (by rw [hst] at ho; exact ho) (by omega) fun h' g hs => q (.int (lo + i)) (.int (lo + i) s'.toks) h' (s'.toks + 1) _ ⟨_, rfl⟩ rfl hs g ?_
    rw [show lo + (i : Int) + 1 = lo + ((i + 1 : Nat) : Int) from by omega, show ((hi - lo).toNat : Int) - i - 1 = ((hi - lo).toNat : Int) - ((i + 1 : Nat) : Int) from by omega]
  · intro o pins' σ' F' H' s' A' Q E hh J eF eH ho hst q
    exact wpAny_pyNext_range_end hh (x := lo + (((rng lo hi).length : Nat) : Int)) (left := ((hi - lo).toNat : Int) - ((rng lo hi).length : Nat)) (step := 1) (by rw [hst] at ho; exact ho) (by rw [len]; omega) q
theorem ev_rngI {X : Cx} {W : Fx} {G G1 : Gm} {a : Expr} {lo hi : Int} (h : Ev X W a G RRg (lo, hi) G1) : Ev X W a G (RRi lo hi) (rng lo hi) G1 := .mk fun σ F H Q S q => h.out σ F H Q S fun v F' H' e' S' r => q v F' H' e' S' ⟨r, rfl⟩
def minK {α β : Type} (en : β → PyData) (kf : α → Option β) (xs : List α) : Option α := if xs.all (fun x => (kf x).isSome) = true then minE (fun b => enK en (kf b)) xs else none
def maxK {α β : Type} (en : β → PyData) (kf : α → Option β) (xs : List α) : Option α := if xs.all (fun x => (kf x).isSome) = true then maxE (fun b => enK en (kf b)) xs else none
theorem minK_all {α β : Type} {en : β → PyData} {kf : α → Option β} {xs : List α} {m : α} (h : minK en kf xs = some m) : (∀ x ∈ xs, ∃ y, kf x = some y) ∧ minE (fun b => enK en (kf b)) xs = some m ∧ xs ≠ [] := by
  unfold minK at h
  split at h
  · rename_i h2
    exact ⟨fun x hx => Option.isSome_iff_exists.mp (List.all_eq_true.mp h2 x hx), h, fun z => by rw [z] at h; cases h⟩
  · cases h
theorem maxK_all {α β : Type} {en : β → PyData} {kf : α → Option β} {xs : List α} {m : α} (h : maxK en kf xs = some m) : (∀ x ∈ xs, ∃ y, kf x = some y) ∧ maxE (fun b => enK en (kf b)) xs = some m ∧ xs ≠ [] := by
  unfold maxK at h
  split at h
  · rename_i h2
    exact ⟨fun x hx => Option.isSome_iff_exists.mp (List.all_eq_true.mp h2 x hx), h, fun z => by rw [z] at h; cases h⟩
  · cases h
section
variable {X : Cx} {W : Fx} {G : Gm} {α β : Type} {R : Rp α} {Rk : Rp β} {N fr : List Str} {par : Str} {js : List Nat} {params : Arguments} {e : Expr} {scope : Scope} {k0 : Nat} {key : α → Option β} {xs : List α} {D : Dd X.K Rk}

theorem ev_minK {c P : Addr} {a : Expr} {en : β → PyData} {p pos lpos kpos : Pos} {m : α} (Rs : Rp (List α)) (O : Od D) (hd : D.n ≤ 60) (he : D.e = en) (hO : minK en key xs = some m) (hI : Ln G G) (hr : Room (k0 + 3) X.A)
    (L : LamW X N par fr js params e scope) (hn : js.length + 1 ≤ N.length) (TB : LamX.TabB X.base X.mg c P) (hcode : X.env.code = .ref c) (hmT : (P, X.env.qual ++ "<lambda>") ∈ W.tb) (hu : ∀ p ∈ W.tb, p.1 = P → p.2 = X.env.qual ++ "<lambda>") (hm : X.mg "min" = none)
    (it : Iters X R Rs xs) (ha : Ev X W a G Rs xs G) (B : LamB X W G N js params e scope k0 R Rk key xs) (hdef : defaultsOf params X.env = ([], []) := by rfl) (hg : Gl X "min" := by rfl) (hs : starEach [a] X.env = (false, eval a X.env) :: starEach [] X.env := by rfl)
    (h1 : backTo pos (starEach [a] X.env) = (false, eval a X.env) :: backTo pos (starEach [] X.env) := by rfl) (hpl : (backTo pos (starEach [a] X.env)).any (·.1) = false := by rfl)
    (hall : (backToKw pos (keywordEach [⟨some "key", .Lambda params e scope lpos, kpos⟩] X.env)).all (·.1.isSome) = true := by rfl) (hnone : (backToKw pos (keywordEach [⟨some "key", .Lambda params e scope lpos, kpos⟩] X.env)).any (·.1.isNone) = false := by rfl) (hks : (backToKw pos (keywordEach [⟨some "key", .Lambda params e scope lpos, kpos⟩] X.env)).filterMap (·.1) = [Str.ofString "key"] := by rfl) :
    Ev X W (.Call (.Name "min" p) [a] [⟨some "key", .Lambda params e scope lpos, kpos⟩] pos) G R m G := .mk fun σ F H Q S q pins s I => by
  subst he
  obtain ⟨ky, hm1, hx0⟩ := minK_all hO
  refine wpAny_Call_Name_kw (ld_blt (u := .builtin "min") I hg hm (by decide +kernel) ?_ (by decide) (by decide))
  refine PyProof.Rows.callWith_kw (thn ((pa_cons wE_pe pa_nil hs).run pos pins s σ H (fun vs H1 => ∃ F1 v, vs = [v] ∧ Ex F F1 ∧ Sat W G σ F1 H1 ∧ Rs.r F1 v xs) I (ha.out σ F H _ S fun v F1 H1 e1 S1 r1 => ⟨F1, v, rfl, e1, S1, r1⟩)) fun us s1 ⟨vs, H1, I1, r1, q1⟩ => ?_) h1 hpl hall hnone
  obtain ⟨F1, v, rfl, e1, S1, rl⟩ := q1
  refine thn ((pk_cons wE_pe pk_nil).run pos pins s1 σ H1 (fun zs H2 => ∃ F2 z, zs = [z] ∧ Ex F1 F2 ∧ Sat W G σ F2 H2 ∧ (RLam X params e scope).r F2 z ()) I1 ((ev_lam TB hcode hmT hu L.hfree hdef).out σ F1 H1 _ S1 fun z F2 H2 e2 S2 r2 => ⟨F2, z, rfl, e2, S2, r2⟩)) fun ws s2 ⟨zs, H2, I2, r2, q2⟩ => ?_
  obtain ⟨F2, z, rfl, e2, S2, f, cc, rfl, hf, hc⟩ := q2
  rw [hks]
  obtain ⟨uv, rfl, euv⟩ := vals1 r1
  obtain ⟨w1, rfl, ew⟩ := vals1 r2
  obtain rfl : w1 = Value.ref f := ew
  exact min_keyL O hd (alli_ln hI) hr L hn hf hc B ky hx0 I2 S2 (fun k => it I2 S2.ex (Rs.mono e2 rl) euv k) fun v' m' F' H' e' S' em r' _ => by
    rw [hm1] at em; cases em
    exact q v' F' H' (e1.trans (e2.trans e')) S' r'
theorem ev_minT {a : Expr} (en : β → PyData) {p pos lpos kpos : Pos} {m : α} {x : Str} {fd : FuncData} {T : List (Addr × Str)} {Rs : Rp (List α)} (O : Od D) (hd : D.n ≤ 60) (he : D.e = en) (hO : minK en key xs = some m) (hI : Ln G G) (hr : Room (k0 + 3) X.A)
    (L : LamW X N par fr js params e scope) (hn : js.length + 1 ≤ N.length) (TH : TbH X.K X.base X.mg x fd T) (hT : W.tb = T) (hm : X.mg "min" = none)
    (it : Iters X R Rs xs) (ha : Ev X W a G Rs xs G) (B : LamB X W G N js params e scope k0 R Rk key xs) (hcode : X.env.code = .ref (He.cT X.K (x, none)).1 := by rfl) (hq : X.env.qual = x ++ ".<locals>." := by rfl) (hdef : defaultsOf params X.env = ([], []) := by rfl) (hg : Gl X "min" := by rfl) (hs : starEach [a] X.env = (false, eval a X.env) :: starEach [] X.env := by rfl)
    (h1 : backTo pos (starEach [a] X.env) = (false, eval a X.env) :: backTo pos (starEach [] X.env) := by rfl) (hpl : (backTo pos (starEach [a] X.env)).any (·.1) = false := by rfl)
    (hall : (backToKw pos (keywordEach [⟨some "key", .Lambda params e scope lpos, kpos⟩] X.env)).all (·.1.isSome) = true := by rfl) (hnone : (backToKw pos (keywordEach [⟨some "key", .Lambda params e scope lpos, kpos⟩] X.env)).any (·.1.isNone) = false := by rfl) (hks : (backToKw pos (keywordEach [⟨some "key", .Lambda params e scope lpos, kpos⟩] X.env)).filterMap (·.1) = [Str.ofString "key"] := by rfl) :
    Ev X W (.Call (.Name "min" p) [a] [⟨some "key", .Lambda params e scope lpos, kpos⟩] pos) G R m G :=
  ev_minK Rs O hd he hO hI hr L hn TH.tb hcode (by rw [hT, hq]; exact TH.mem) (by rw [hT, hq]; exact TH.uni) hm it ha B hdef hg hs h1 hpl hall hnone hks

theorem ev_maxK {c P : Addr} {a : Expr} {en : β → PyData} {p pos lpos kpos : Pos} {m : α} (Rs : Rp (List α)) (O : Od D) (hd : D.n ≤ 60) (he : D.e = en) (hO : maxK en key xs = some m) (hI : Ln G G) (hr : Room (k0 + 3) X.A)
    (L : LamW X N par fr js params e scope) (hn : js.length + 1 ≤ N.length) (TB : LamX.TabB X.base X.mg c P) (hcode : X.env.code = .ref c) (hmT : (P, X.env.qual ++ "<lambda>") ∈ W.tb) (hu : ∀ p ∈ W.tb, p.1 = P → p.2 = X.env.qual ++ "<lambda>") (hm : X.mg "max" = none)
    (it : Iters X R Rs xs) (ha : Ev X W a G Rs xs G) (B : LamB X W G N js params e scope k0 R Rk key xs) (hdef : defaultsOf params X.env = ([], []) := by rfl) (hg : Gl X "max" := by rfl) (hs : starEach [a] X.env = (false, eval a X.env) :: starEach [] X.env := by rfl)
    (h1 : backTo pos (starEach [a] X.env) = (false, eval a X.env) :: backTo pos (starEach [] X.env) := by rfl) (hpl : (backTo pos (starEach [a] X.env)).any (·.1) = false := by rfl)
    (hall : (backToKw pos (keywordEach [⟨some "key", .Lambda params e scope lpos, kpos⟩] X.env)).all (·.1.isSome) = true := by rfl) (hnone : (backToKw pos (keywordEach [⟨some "key", .Lambda params e scope lpos, kpos⟩] X.env)).any (·.1.isNone) = false := by rfl) (hks : (backToKw pos (keywordEach [⟨some "key", .Lambda params e scope lpos, kpos⟩] X.env)).filterMap (·.1) = [Str.ofString "key"] := by rfl) :
    Ev X W (.Call (.Name "max" p) [a] [⟨some "key", .Lambda params e scope lpos, kpos⟩] pos) G R m G := .mk fun σ F H Q S q pins s I => by
  subst he
  obtain ⟨ky, hm1, hx0⟩ := maxK_all hO
  refine wpAny_Call_Name_kw (ld_blt (u := .builtin "max") I hg hm (by decide +kernel) ?_ (by decide) (by decide))
  refine PyProof.Rows.callWith_kw (thn ((pa_cons wE_pe pa_nil hs).run pos pins s σ H (fun vs H1 => ∃ F1 v, vs = [v] ∧ Ex F F1 ∧ Sat W G σ F1 H1 ∧ Rs.r F1 v xs) I (ha.out σ F H _ S fun v F1 H1 e1 S1 r1 => ⟨F1, v, rfl, e1, S1, r1⟩)) fun us s1 ⟨vs, H1, I1, r1, q1⟩ => ?_) h1 hpl hall hnone
  obtain ⟨F1, v, rfl, e1, S1, rl⟩ := q1
  refine thn ((pk_cons wE_pe pk_nil).run pos pins s1 σ H1 (fun zs H2 => ∃ F2 z, zs = [z] ∧ Ex F1 F2 ∧ Sat W G σ F2 H2 ∧ (RLam X params e scope).r F2 z ()) I1 ((ev_lam TB hcode hmT hu L.hfree hdef).out σ F1 H1 _ S1 fun z F2 H2 e2 S2 r2 => ⟨F2, z, rfl, e2, S2, r2⟩)) fun ws s2 ⟨zs, H2, I2, r2, q2⟩ => ?_
  obtain ⟨F2, z, rfl, e2, S2, f, cc, rfl, hf, hc⟩ := q2
  rw [hks]
  obtain ⟨uv, rfl, euv⟩ := vals1 r1
  obtain ⟨w1, rfl, ew⟩ := vals1 r2
  obtain rfl : w1 = Value.ref f := ew
  exact max_keyL O hd (alli_ln hI) hr L hn hf hc B ky hx0 I2 S2 (fun k => it I2 S2.ex (Rs.mono e2 rl) euv k) fun v' m' F' H' e' S' em r' _ => by
    rw [hm1] at em; cases em
    exact q v' F' H' (e1.trans (e2.trans e')) S' r'
theorem ev_maxT {a : Expr} (en : β → PyData) {p pos lpos kpos : Pos} {m : α} {x : Str} {fd : FuncData} {T : List (Addr × Str)} {Rs : Rp (List α)} (O : Od D) (hd : D.n ≤ 60) (he : D.e = en) (hO : maxK en key xs = some m) (hI : Ln G G) (hr : Room (k0 + 3) X.A)
    (L : LamW X N par fr js params e scope) (hn : js.length + 1 ≤ N.length) (TH : TbH X.K X.base X.mg x fd T) (hT : W.tb = T) (hm : X.mg "max" = none)
    (it : Iters X R Rs xs) (ha : Ev X W a G Rs xs G) (B : LamB X W G N js params e scope k0 R Rk key xs) (hcode : X.env.code = .ref (He.cT X.K (x, none)).1 := by rfl) (hq : X.env.qual = x ++ ".<locals>." := by rfl) (hdef : defaultsOf params X.env = ([], []) := by rfl) (hg : Gl X "max" := by rfl) (hs : starEach [a] X.env = (false, eval a X.env) :: starEach [] X.env := by rfl)
    (h1 : backTo pos (starEach [a] X.env) = (false, eval a X.env) :: backTo pos (starEach [] X.env) := by rfl) (hpl : (backTo pos (starEach [a] X.env)).any (·.1) = false := by rfl)
    (hall : (backToKw pos (keywordEach [⟨some "key", .Lambda params e scope lpos, kpos⟩] X.env)).all (·.1.isSome) = true := by rfl) (hnone : (backToKw pos (keywordEach [⟨some "key", .Lambda params e scope lpos, kpos⟩] X.env)).any (·.1.isNone) = false := by rfl) (hks : (backToKw pos (keywordEach [⟨some "key", .Lambda params e scope lpos, kpos⟩] X.env)).filterMap (·.1) = [Str.ofString "key"] := by rfl) :
    Ev X W (.Call (.Name "max" p) [a] [⟨some "key", .Lambda params e scope lpos, kpos⟩] pos) G R m G :=
  ev_maxK Rs O hd he hO hI hr L hn TH.tb hcode (by rw [hT, hq]; exact TH.mem) (by rw [hT, hq]; exact TH.uni) hm it ha B hdef hg hs h1 hpl hall hnone hks
end
end Mz

namespace Mz
open PySem PySem.Spec PyProof.Rows L2 PySem.W
/-! ### tuples of any length among the keys, and sorted -/
def enV {α : Type} (f : α → PyData) : List α → PyData := fun l => .tuple (l.map f)
section
variable {K : PySem.W.Frag} {α β : Type} {R : Rp α} {T : Rs β}
/-- data that can be compared -/
def Oa (D : Dd K R) : Prop := ∀ a b, alike (D.e a) (D.e b) = true
theorem oa_of {D : Dd K R} (O : Od D) : Oa D := O.al
theorem oa_V {D : Dd K R} (O : Oa D) : Oa (d_V D) := fun a b => by simp [d_V, alike, alikeAll_map O]
theorem oa_L {D : Dd K R} (O : Oa D) : Oa (d_L D) := fun a b => by simp [d_L, alike, alikeAll_map O]
theorem oa_T {E : Dr K T} (O : Or_ E) : Oa (d_T E) := fun a b => by simp [d_T, alike, O.al]
theorem od_oneA {D : Dd K R} (h : Oa D) : Or_ (d_one D) := ⟨fun a b => by simp [d_one, alikeAll, h a b], fun a => ⟨_, _, rfl⟩⟩
theorem od_consA {D : Dd K R} {E : Dr K T} (h : Oa D) (g : Or_ E) : Or_ (d_cons D E) := ⟨fun a b => by simp [d_cons, alikeAll, h a.1 b.1, g.al], fun a => ⟨_, _, rfl⟩⟩
end
def rSrtM (X : Cx) {α : Type} (e : α → PyData) : List V → Hp → VK → Prop := fun vs H Q => ∃ (P : V → α → Prop) (as : List α) (a : Addr) (xs : List V), vs = [.ref a] ∧ SqL X.K H a xs ∧ Paired P xs as ∧ (∀ x b, P x b → Dp X.K H x (e b)) ∧ (∀ a b, alike (e a) (e b) = true) ∧ PySem.W.Sortable (as.map e) ∧ (∀ a, (e a).depth ≤ 60) ∧ ∀ ys p, Paired P ys (srtE e as) → H p = none → Q (.ref p) (upd H p (.lst ys))
theorem cr_srtM {X : Cx} {α : Type} {e : α → PyData} (hu : X.A.units + 65 < cLine) : CallR X (.builtin "sorted") (rSrtM X e) := by
  intro pins s σ H vs us Q I r h
  obtain ⟨P, as, a, xs, rfl, hs, pa, dp, al, so, dd, q⟩ := h
  obtain ⟨its, rv, hl, hz⟩ := I.list hs
  rw [Vals.ref1 r]
  have er := each_of I dp rv pa
  have hlen : as.length = xs.length := (Paired.length pa).symm
  refine PySem.W.sorted_data (R := fun v b => ∃ x, RelV x v ∧ P x b) (enc := e) (bs := as) hl.isList (er.mono fun _ _ h => h.1) (er.mono fun _ _ h => h.2) (PySem.W.AllAlike.of fun b b' => al b b') so (by rw [hlen]; exact hz) (fun b _ => by have := dd b; omega) fun out h1 h2 => ?_
  obtain ⟨ys, k1, k2⟩ := each_back h2
  obtain ⟨ep, he'⟩ := PyProof.Rows.sortedAll_at s.heap its (List.toArray out)
  have hy : ys.length ≤ sizeLine := by
    rw [k1.length, h1, hlen]; exact hz
  exact ⟨.ref _, upd H (s.heap.objs.size + 1) (.lst ys), I.laid (t' := s.toks) (fun _ _ => PyProof.Rows.sortedAll_old) (Nat.le_succ _) ⟨hy, out, ep, k1, he'⟩, rfl, q ys _ k2 (I.hok.fresh (Nat.le_succ _))⟩
/-- sorted: tuples of any length but none that is empty -/
def srtV {α : Type} (en : α → PyData) (xs : List (List α)) : Option (List (List α)) := if xs.all (fun l => !l.isEmpty) = true then some (srtE (enV en) xs) else none
section
variable {X : Cx} {W : Fx} {G G1 : Gm} {a : Expr} {α : Type} {R : Rp α} {p pos : Pos} {k : Nat}
theorem eo_sortedVV {xs r : List (List α)} {D : Dd X.K R} (en : α → PyData) (O : Oa D) (he : D.e = en) (hr : Room k X.A) (hd : D.n + 1 ≤ 60) (h : srtV en xs = some r) (hm : X.mg "sorted" = none) (ha : Ev X W a G (RL X.K (RV X.K R)) xs G1) (hg : Gl X "sorted" := by rfl) (hs : starEach [a] X.env = (false, eval a X.env) :: starEach [] X.env := by rfl) : EvO X W (.Call (.Name "sorted" p) [a] [] pos) G (fun l => QL l (RV X.K R) r) G1 := .mk fun σ F H Q S q => by
  subst he
  unfold srtV at h
  split at h
  · rename_i hne
    cases h
    exact toE (pe_callB (cr_srtM (e := enV D.e) (room64 hr)) hg hm (by decide +kernel) (pa_cons wE_pe pa_nil hs) (by decide) (by decide) hs rfl) (ha.out σ F H _ S fun v F' H' e S' r1 => by
      obtain ⟨pa, vs, rfl, h1, h2⟩ := r1
      refine ⟨fun x b => (RV X.K R).r F' x b, xs, pa, vs, rfl, ex_sql S'.ex h1, h2, fun x b hx => ex_dp S'.ex ((d_V D).r F' x b hx), fun a b => oa_V O a b, .inl fun d hd' => ?_, fun a => Nat.le_trans ((d_V D).d a) hd, fun ys l hp hl => ?_⟩
      · obtain ⟨b, hb, rfl⟩ := List.mem_map.mp hd'
        have := List.all_eq_true.mp hne b hb
        cases b with
        | nil => cases this
        | cons z t => exact ⟨_, _, rfl⟩
      · obtain ⟨s1, s2⟩ := NewO.list (R := RV X.K R) (as := srtE (enV D.e) xs) S' hl hp
        exact q l F' _ e s1 s2)
  · cases h
end
end Mz

namespace Mz
open PySem PySem.Spec PyProof.Rows L2
/-! ### x.remove(e), x an own list of data -/
def rRemD (K : PySem.W.Frag) : V → List V → Hp → VK → Prop := fun x xs H Q => ∃ (l : Addr) (vs : List V) (y : V) (d : PyData) (ds : List PyData) (j : Nat) (z : PyData), x = V.ref l ∧ xs = [y] ∧ H l = some (.lst vs) ∧ DpAll K H vs ds ∧ Dp K H y d ∧
  SeqAt.shaped (.list ds) = true ∧ SeqAt.shaped d = true ∧ ds[j]? = some z ∧ PyData.eqv z d = true ∧ (∀ (m : Nat) (z' : PyData), m < j → ds[m]? = some z' → PyData.eqv z' d = false) ∧ Q .non (upd H l (.lst (vs.eraseIdx j)))
theorem mt_removeD {X : Cx} (hu : X.A.units + 65 < cLine) : MtM X "list.remove" (rRemD X.K) := by
  intro pins s σ H x xs v us Q I rx rxs h
  obtain ⟨l, vs, y, d, ds, j, z, rfl, rfl, hH, hl, hy, sl, sd, hz, hzj, hno, q⟩ := h
  cases rx
  obtain ⟨uy, rfl, ry⟩ := rxs.one
  obtain ⟨bs, r1⟩ := Dp.reads I d y uy hy ry
  have hxs : PyData.canLayAll0 ds = true := SeqAt.canLay_of_shaped sl
  have hroom : X.A.units + 1 + min (PyData.depthAll ds) d.depth < cLine := room_in_shaped sd hu
  obtain ⟨zl, its, n, rv, hlen, e0⟩ := I.lstM hH
  obtain ⟨as, h4⟩ := Dp.readsAll I ds _ its hl rv
  have hn : its.length = ds.length := SeqAt.ReadsAll.length ds its as h4
  have hmap : its.map (SeqAt.readOf s.heap) = ds := SeqAt.readsAll_map ds its as hxs h4
  obtain ⟨hjd, _⟩ := List.getElem?_eq_some_iff.mp hz
  have hj : j < its.toArray.size := by rw [List.size_toArray]; omega
  have at_ : ∀ (m : Nat) (hm : m < its.toArray.size) (z' : PyData), ds[m]? = some z' → SeqAt.readOf s.heap its.toArray[m] = z' := by
    intro m hm z' hz'
    have hml : m < its.length := by simpa using hm
    rw [← hmap, List.getElem?_map, List.getElem?_eq_getElem hml] at hz'
    have e1 : SeqAt.readOf s.heap its[m] = z' := Option.some.inj (show some (SeqAt.readOf s.heap its[m]) = some z' from hz')
    simpa using e1
  have hsz : its.toArray.size ≤ sizeLine := by rw [List.size_toArray, ← hlen]; exact zl
  refine call_meets PySem.F.slot_list_remove ⟨_, e0, rfl⟩ PySem.F.entry_list_remove (PySem.F.args_list_remove_2 _ _)
    (SeqAt.list_removeAt l its.toArray n none #[] uy (fun u => PyData.eqv (SeqAt.readOf s.heap u) d) j hj ?_ ?_ hsz) ⟨e0, SeqAt.items_eqAt (vs := its.toArray) (show ReadsAll s.heap its.toArray.toList ds as from h4) r1 hxs (SeqAt.canLay_of_shaped sd) hroom, ?_⟩
  · show PyData.eqv (SeqAt.readOf s.heap its.toArray[j]) d = true
    rw [at_ j hj z hz]
    exact hzj
  · intro m hm hmj
    have hmd : m < ds.length := by omega
    have hz' : ds[m]? = some ds[m] := List.getElem?_eq_getElem hmd
    show PyData.eqv (SeqAt.readOf s.heap its.toArray[m]) d = false
    rw [at_ m hm _ hz']
    exact hno m _ hmj hz'
  · refine ⟨.non, _, I.lset (its' := its.eraseIdx j) hH e0 ?_ (rv.eraseIdx j) ?_, rfl, q⟩
    · show its.toArray.eraseIdxIfInBounds j = (its.eraseIdx j).toArray
      rw [List.eraseIdxIfInBounds_toArray]
    · have := List.length_eraseIdx_le vs j
      omega
/-- the list without the first one alike -/
def remO {α : Type} [DecidableEq α] (xs : List α) (x : α) : Option (List α) := match xs.findIdx? (fun y => decide (y = x)) with
  | some j => some (xs.eraseIdx j)
  | none => none
theorem p2_erase {A B : Type} {P : A → B → Prop} : ∀ {vs : List A} {as : List B} (j : Nat), Paired P vs as → Paired P (vs.eraseIdx j) (as.eraseIdx j)
  | _, _, _, .nil => .nil
  | _, _, 0, .cons _ t => t
  | _, _, j + 1, .cons r t => .cons r (p2_erase j t)
section
variable {X : Cx} {W : Fx} {G G1 : Gm} {D : Ends} {e : Expr} {rest : List Stmt} {α : Type} [DecidableEq α] {R : Rp α} {x : α} {n : Str} {i k : Nat} {l : Addr}
theorem s_remD {as bs : List α} {apos cpos spos p0 : Pos} (E : Dd X.K R) (hr : Room k X.A) (hE : E.n < 64) (hO : remO as x = some bs) (hN : X.N[i]? = some n) (hv : Vis X.env.scope n) (hG : G[i]? = some (some (own l (QL l R as)))) (he : Ev X W e G R x G1) (hG1 : G1[i]? = some (some (own l (QL l R as))))
    (q : Tr W (G1.set i (some (own l (QL l R bs)))) (wS X rest D)) (hs : starEach [e] X.env = (false, eval e X.env) :: starEach [] X.env := by rfl) (hbase : attributeBase (.Name n p0) "remove" X.env (eval (.Name n p0) X.env) = eval (.Name n p0) X.env := by rfl)
    (hfew : ((backTo cpos (starEach [e] X.env)).all (fun x => !x.1) && (backToKw cpos (keywordEach [] X.env)).all (fun x => x.1.isSome)
      && decide ([e].length + ([] : List Keyword).length + (if ([] : List Keyword).isEmpty then 0 else 1) < 30)) = true := by rfl)
    (hline : (apos.endLine == cpos.line) = true := by rfl) (hd : (n == ("__debug__" : Str)) = false := by decide) (hcd : (n == ("__classdict__" : Str)) = false := by decide)
    (hsw : swapsWith (.Call (.Attribute (.Name n p0) "remove" apos) [e] [] cpos) none spos.line X.env = pure false := by rfl) :
    Tr W G (wS X (.Expr (.Call (.Attribute (.Name n p0) "remove" apos) [e] [] cpos) spos :: rest) D) := .mk fun σ F H S => by
  obtain ⟨v, h1, rfl, vs, h2, h3⟩ := S.sl i _ hG
  unfold remO at hO
  cases hf : as.findIdx? (fun y => decide (y = x)) with
  | none => rw [hf] at hO; cases hO
  | some j =>
    rw [hf] at hO
    cases hO
    obtain ⟨hm, hx, hno⟩ := List.findIdx?_eq_some_iff_getElem.mp hf
    refine toS (pss_cons (ps_expr (pe_bm PySem.F.plainAttrs_list PySem.F.slot_list_remove PySem.F.type_list_remove (mt_removeD (room64 hr)) (pe_var hN hv hd hcd) (pa_cons wE_pe pa_nil hs) hbase hfew hline hs (by rfl)) hsw) wS_ps) ?_
    refine ⟨.ref l, h1, .inl ⟨rfl, vs, .inl (.inl h2)⟩, he.out σ F H _ S fun w F1 H1 e1 S1 r1 => ?_⟩
    obtain ⟨v', k1, k2, vs', k3, k4⟩ := S1.sl i _ hG1
    refine ⟨l, vs', w, E.e x, as.map E.e, j, E.e as[j], rfl, rfl, k3, dpAll_of E (k4.mono S1.ex), ex_dp S1.ex (E.r F1 w x r1), (d_L E).sh (by show E.n + 1 ≤ 64; omega) as, E.sh (by omega) x, by rw [List.getElem?_map, List.getElem?_eq_getElem hm]; rfl, (E.q _ _).mpr (of_decide_eq_true hx), fun m z hm' hz => ?_, ?_⟩
    · rw [List.getElem?_map] at hz
      have hl' : m < as.length := Nat.lt_trans hm' hm
      rw [List.getElem?_eq_getElem hl'] at hz
      cases hz
      cases hq : PyData.eqv (E.e as[m]) (E.e x) with
      | false => rfl
      | true => exact absurd (decide_eq_true ((E.q _ _).mp hq)) (hno m hm')
    · exact q.out σ F1 _ (S1.mut hG1 (fun a ha => upd_ne fun z => ha (by rw [z]; exact List.mem_singleton.mpr rfl)) ⟨vs'.eraseIdx j, upd_same, p2_erase j k4⟩ fun a ha => ⟨ha, by rw [List.mem_singleton.mp ha, upd_same]; intro z; cases z⟩)
end
section
variable {X : Cx} {W : Fx} {L G G0 G1 G01 : Gm} {tg iter elt : Expr} {ifs : List Expr} {scope : Scope} {own : List (Str × Nat)} {β : Type} {T : Rp β}
/-- a comprehension within what is lent -/
theorem lc_lend2 {bs : List β} (hl : Lx L G G0 G1 G01) (hf : Dn T) (h : LcOk X W tg iter ifs elt scope own G0 T bs G01) : LcOk X W tg iter ifs elt scope own G T bs G1 := by
  obtain ⟨wi, h1, h2, h3, h4, h5, h6⟩ := h
  refine ⟨wi, h1, h2, h3, h4, h5, fun σ F H Q S q => ?_⟩
  obtain ⟨F0, e0, S0, bk⟩ := lend2_go hl S
  refine h6 σ F0 H Q S0 fun l F' H' e1 S' n1 => ?_
  obtain ⟨⟨F2, e2, l2, S2⟩, ownF⟩ := bk F' H' e1 S'
  obtain ⟨⟨vs, k1, k2⟩, k3⟩ := n1
  refine q l F2 H' e2 S2 ⟨⟨vs, k1, dn_all hf l2 k2⟩, fun a ha => ?_⟩
  obtain ⟨m1, m2, m3, m4⟩ := k3 a ha
  refine ⟨?_, m2, m3, fun j P hj hm => ?_⟩
  · cases z : F2 a with
    | none => rfl
    | some o => exact absurd (l2.1 a o z) (by rw [m1]; intro w; cases w)
  · by_cases z : ∃ P : Sd, L[j]? = some (some P)
    · obtain ⟨P', z⟩ := z
      obtain ⟨_, g2, _⟩ := (hl.at j).1 P' z
      have ee := Option.some.inj (Option.some.inj (g2.symm.trans hj))
      rw [← ee] at hm
      exact ownF j P' a z hm m1
    · have := ((hl.at j).2 fun P w => z ⟨P, w⟩).2.1
      rw [← this] at hj
      exact m4 j P hj hm
end
/-- a list of things, read as a list of things or None -/
theorem ev_Lsome {X : Cx} {W : Fx} {G G1 : Gm} {e : Expr} {α : Type} {R : Rp α} {xs : List α} (nn : NN R) (h : Ev X W e G (RL X.K R) xs G1) : Ev X W e G (RL X.K (RO R)) (xs.map some) G1 := h.as fun F v r => by
  obtain ⟨p, vs, h1, h2, h3⟩ := r
  refine ⟨p, vs, h1, h2, ?_⟩
  show Paired (fun v a => (RO R).r F v a) vs (xs.map some)
  clear h1 h2 h
  induction h3 with
  | nil => exact .nil
  | cons q t ih => exact .cons ⟨q, nn _ _ _ q⟩ ih
end Mz

namespace Mz
open PySem PySem.Spec PyProof.Rows L2
/-! ### l.count(x), items data of any depth -/
section
variable {X : Cx}
def rCountD (K : PySem.W.Frag) : V → List V → Hp → VK → Prop := fun x xs H Q => ∃ (a : Addr) (y : V) (d : PyData) (ds : List PyData), x = V.ref a ∧ xs = [y] ∧ Dp K H (V.ref a) (.list ds) ∧ Dp K H y d ∧
  SeqAt.shaped (.list ds) = true ∧ SeqAt.shaped d = true ∧ Q (.int (ds.countP fun z => PyData.eqv z d : Nat)) H
theorem mt_countD (hu : X.A.units + 65 < cLine) : MtR X "list.count" (rCountD X.K) := by
  intro pins s σ H x xs v us Q I rx rxs h
  obtain ⟨a, y, d, ds, rfl, rfl, hl, hy, sl, sd, q⟩ := h
  cases rx
  cases rxs with
  | cons ry rt =>
    rename_i uy ut
    cases rt
    obtain ⟨bs, r1⟩ := Dp.reads I d y uy hy ry
    have hxs : PyData.canLayAll0 ds = true := SeqAt.canLay_of_shaped sl
    have hroom : X.A.units + 1 + min (PyData.depthAll ds) d.depth < cLine := room_in_shaped sd hu
    cases hl with
    | lst hs ha =>
      obtain ⟨its, rv, ⟨⟨cls, dd, data, sls⟩, n, ho, hc, hdn, hdt⟩, hlen⟩ := I.list hs
      simp only at hc hdt
      subst hc hdt
      obtain ⟨as, h4⟩ := Dp.readsAll I ds _ its ha rv
      have hmap : its.map (SeqAt.readOf s.heap) = ds := SeqAt.readsAll_map ds its as hxs h4
      have ec : its.toArray.toList.countP (fun u => PyData.eqv (SeqAt.readOf s.heap u) d) = ds.countP fun z => PyData.eqv z d := by
        rw [← hmap, List.countP_map]
        rfl
      refine call_meets PySem.F.slot_list_count ⟨_, ho, rfl⟩ PySem.F.entry_list_count (PySem.F.args_list_count_2 _ _)
        (SeqAt.list_countAt a its.toArray n dd sls uy (fun u => PyData.eqv (SeqAt.readOf s.heap u) d)) ⟨ho, SeqAt.items_eqAt (vs := its.toArray) (show ReadsAll s.heap its.toArray.toList ds as from h4) r1 hxs (SeqAt.canLay_of_shaped sd) hroom, ?_⟩
      rw [ec]
      exact ⟨.int (ds.countP fun z => PyData.eqv z d : Nat), H, I.tok _, ⟨_, rfl⟩, q⟩
end
section
variable {X : Cx} {W : Fx} {G G1 G2 : Gm} {α : Type} {R : Rp α} {a b : Expr} {k : Nat} {x : α}
theorem ev_count [DecidableEq α] {xs : List α} {apos cpos : Pos} (E : Dd X.K R) (hr : Room k X.A) (hE : E.n < 64) (ha : Ev X W a G (RL X.K R) xs G1) (hb : Ev X W b G1 R x G2) (hbase : attributeBase a "count" X.env (eval a X.env) = eval a X.env := by rfl)
    (hfew : ((backTo cpos (starEach [b] X.env)).all (fun x => !x.1) && (backToKw cpos (keywordEach [] X.env)).all (fun x => x.1.isSome)
      && decide ([b].length + ([] : List Keyword).length + (if ([] : List Keyword).isEmpty then 0 else 1) < 30)) = true := by rfl)
    (hline : (apos.endLine == cpos.line) = true := by rfl) (hs : starEach [b] X.env = (false, eval b X.env) :: starEach [] X.env := by rfl) :
    Ev X W (.Call (.Attribute a "count" apos) [b] [] cpos) G RI ((xs.countP fun y => decide (y = x) : Nat) : Int) G2 := .mk fun σ F H Q S q =>
  toE (pe_bm PySem.F.plainAttrs_list PySem.F.slot_list_count PySem.F.type_list_count (mt_countD (room64 hr)) wE_pe (pa_cons wE_pe pa_nil hs) hbase hfew hline hs (by rfl)) (ha.out σ F H _ S fun v F1 H1 e1 S1 r1 => by
    obtain ⟨pa, vs, rfl, h1, h2⟩ := r1
    refine ⟨.inl ⟨rfl, vs, ?_⟩, hb.out σ F1 H1 _ S1 fun u F2 H2 e2 S2 r2 => ?_⟩
    · exact ex_sql S1.ex h1
    · refine ⟨pa, u, E.e x, xs.map E.e, rfl, rfl, .lst (ex_sql (e2.trans S2.ex) h1) (by
          have := dpAll_of E (h2.mono (e2.trans S2.ex))
          exact this), ex_dp S2.ex (E.r F2 u x r2), (d_L E).sh (by show E.n + 1 ≤ 64; omega) xs, E.sh (by omega) x, ?_⟩
      have ec : (xs.map E.e).countP (fun z => PyData.eqv z (E.e x)) = xs.countP fun y => decide (y = x) := by
        rw [List.countP_map]
        refine List.countP_congr fun y _ => ?_
        show PyData.eqv (E.e y) (E.e x) = true ↔ decide (y = x) = true
        rw [E.q y x, decide_eq_true_iff]
      rw [ec]
      exact q _ F2 H2 (e1.trans e2) S2 rfl)
end
end Mz

namespace Mz
open PySem PySem.Spec PyProof.Rows L2
/-! ### a list within a told list of lists is changed: only the outer list's size stays known -/
def RTop : Rp Unit := ⟨fun _ _ _ => True, fun _ _ => trivial⟩
theorem all_top {F : Hp} : ∀ vs : List V, All2 RTop F vs (List.replicate vs.length ())
  | [] => .nil
  | v :: vs => .cons trivial (all_top vs)
theorem Sat.ruinM {W : Fx} {G : Gm} {i : Nat} {σ : L2.St} {F H H' : Hp} {P P' : Sd} (S : Sat W G σ F H) (hi : G[i]? = some (some P)) (hfp : P'.fp = P.fp) (ex : ∀ a, a ∉ P.fp → H' a = H a) (nn : ∀ a ∈ P.fp, H' a ≠ none) (hp : ∀ v, σ[i]? = some (some v) → P.p F H v → P'.p F H' v) : Sat W (G.set i (some P')) σ F H' := by
  have nf : ∀ a, a ∈ P.fp → F a = none ∧ W.w a = none ∧ H a ≠ none := fun a h => S.fr i _ a hi h
  have go : ∀ {j : Nat} {Q : Sd}, (G.set i (some P'))[j]? = some (some Q) → (j = i ∧ Q = P') ∨ (j ≠ i ∧ G[j]? = some (some Q)) := fun {j Q} h => by
    rcases get_set h with ⟨a, e⟩ | h
    · exact .inl ⟨a, Option.some.inj e⟩
    · exact .inr h
  have old : ∀ {j : Nat} {Q : Sd}, (G.set i (some P'))[j]? = some (some Q) → ∃ Q', G[j]? = some (some Q') ∧ Q'.fp = Q.fp := fun {j Q} h => by
    rcases go h with ⟨a, e⟩ | h
    · exact ⟨P, by rw [a]; exact hi, by rw [e]; exact hfp.symm⟩
    · exact ⟨Q, h.2, rfl⟩
  refine ⟨by rw [List.length_set]; exact S.len, fun a o h => ?_, S.f0, fun a o h => ?_, S.wf, fun j Q h2 => ?_, fun j k Q T a h1 h2 m1 m2 => ?_, fun j Q a h1 h2 => ?_, S.tt.go S.tt.w0 S.tt.F0 (fun p hp j Q h m => ?_) (fun p hp o h => by rw [ex p.1 (S.tt.G0 p hp i P hi)]; exact h) fun c q h => h⟩
  · rw [ex a fun z => by rw [(nf a z).1] at h; cases h]
    exact S.ex a o h
  · rw [ex a fun z => by rw [(nf a z).2.1] at h; cases h]
    exact S.wx a o h
  · rcases go h2 with ⟨a, e⟩ | ⟨ne, e⟩
    · subst a e
      obtain ⟨v, h3, h4⟩ := S.sl j P hi
      exact ⟨v, h3, hp v h3 h4⟩
    · obtain ⟨v, h3, h4⟩ := S.sl j Q e
      exact ⟨v, h3, Q.st (Ex.refl F) (fun a m => ex a fun z => ne (S.dj j i Q _ a e hi m z)) h4⟩
  · obtain ⟨Q', q1, q2⟩ := old h1
    obtain ⟨T', t1, t2⟩ := old h2
    exact S.dj j k Q' T' a q1 t1 (by rw [q2]; exact m1) (by rw [t2]; exact m2)
  · rcases go h1 with ⟨b, e⟩ | ⟨ne, e⟩
    · subst b e
      have h2' : a ∈ P.fp := by rw [← hfp]; exact h2
      obtain ⟨q1, q2, _⟩ := nf a h2'
      exact ⟨q1, q2, nn a h2'⟩
    · obtain ⟨q1, q2, q3⟩ := S.fr j Q a e h2
      refine ⟨q1, q2, ?_⟩
      rw [ex a fun z => ne (S.dj j i Q _ a e hi h2 z)]
      exact q3
  · obtain ⟨Q', q1, q2⟩ := old h
    exact S.tt.G0 p hp j Q' q1 (by rw [q2]; exact m)
section
variable {X : Cx} {W : Fx} {G G0 : Gm} {α β δ : Type} {R : Rp α} {T : Rp β} {R2 : Rp δ} {a e : Expr} {x : α} {i : Nat} {rs : List Stmt} {D : Ends}
theorem s_appR {fp : List Addr} {xs : List β} {U : Rp α} {ys : List δ} {apos cpos spos : Pos} (hG : G[i]? = some (some (tree fp (RLp (· ∈ fp) R2) ys))) (hl : Ln G G0) (ha : Ev X W a G0 (RLp (· ∈ fp) T) xs G0) (hn : xs.length < 16000000) (he : Ev X W e G0 U x G0)
    (q : ∀ us : List Unit, us.length ≤ ys.length + 1 → Tr W (G.set i (some (tree fp (RLp (· ∈ fp) RTop) us))) (wS X rs D)) (hs : starEach [e] X.env = (false, eval e X.env) :: starEach [] X.env := by rfl) (hbase : attributeBase a "append" X.env (eval a X.env) = eval a X.env := by rfl)
    (hfew : ((backTo cpos (starEach [e] X.env)).all (fun x => !x.1) && (backToKw cpos (keywordEach [] X.env)).all (fun x => x.1.isSome)
      && decide ([e].length + ([] : List Keyword).length + (if ([] : List Keyword).isEmpty then 0 else 1) < 30)) = true := by rfl)
    (hline : (apos.endLine == cpos.line) = true := by rfl)
    (hsw : swapsWith (.Call (.Attribute a "append" apos) [e] [] cpos) none spos.line X.env = pure false := by rfl) :
    Tr W G (wS X (.Expr (.Call (.Attribute a "append" apos) [e] [] cpos) spos :: rs) D) := .mk fun σ F H S => by
  obtain ⟨F0, e0, S0, bk⟩ := lend_go hl S
  refine toS (pss_cons (ps_expr (pe_bm PySem.F.plainAttrs_list PySem.F.slot_list_append PySem.F.type_list_append mt_append wE_pe (pa_cons wE_pe pa_nil hs) hbase hfew hline hs (by rfl)) hsw) wS_ps) ?_
  refine ha.out σ F0 H _ S0 fun v F1 H1 e1 S1 r1 => ?_
  obtain ⟨pa, vs, rfl, h1, h2, h3⟩ := r1
  refine ⟨.inl ⟨rfl, vs, .inl (.inl (S1.ex _ _ h1))⟩, he.out σ F1 H1 _ S1 fun w F2 H2 e2 S2 r2 => ?_⟩
  obtain ⟨F3, e3, S3⟩ := bk F2 H2 (e1.trans e2) S2
  have hpa : H2 pa = some (.lst vs) := S2.ex _ _ (e2 _ _ h1)
  refine ⟨pa, vs, w, rfl, rfl, hpa, by rw [h3.len]; exact size16 hn, ?_⟩
  obtain ⟨u, su, hu⟩ := S3.sl i _ hG
  obtain ⟨⟨p, ws, rfl, w1, w2, w3⟩, hall⟩ := hu
  rw [mrg_in w2] at w1
  have hnew : ∃ zs, (upd H2 pa (.lst (vs ++ [w]))) p = some (.lst zs) ∧ zs.length ≤ ys.length + 1 := by
    by_cases z : p = pa
    · subst z
      rw [hpa] at w1
      cases w1
      exact ⟨_, upd_same, by rw [List.length_append, List.length_singleton, w3.len]; exact Nat.le_refl _⟩
    · exact ⟨ws, by rw [upd_ne z]; exact w1, by rw [w3.len]; exact Nat.le_succ _⟩
  obtain ⟨zs, z1, z2⟩ := hnew
  refine (q (List.replicate zs.length ()) (by rw [List.length_replicate]; exact z2)).out σ F3 _ (S3.ruinM hG rfl (fun b hb => upd_ne fun z => hb (by rw [z]; exact h2)) (fun b hb => ?_) fun v hv' hv => ?_)
  · by_cases z : b = pa
    · rw [z, upd_same]; exact fun y => nomatch y
    · rw [upd_ne z]
      obtain ⟨xs, hx⟩ := hall b hb
      rw [hx]; exact fun y => nomatch y
  · refine ⟨?_, fun b hb => ?_⟩
    · rw [su] at hv'
      cases hv'
      exact ⟨p, zs, rfl, by rw [mrg_in w2]; exact z1, w2, all_top zs⟩
    · by_cases z : b = pa
      · rw [z, upd_same]; exact ⟨_, rfl⟩
      · rw [upd_ne z]; exact hall b hb
end
/-! ### lists that are known to be new, as data -/
section
variable {K : PySem.W.Frag} {α : Type} {R : Rp α} {φ : Addr → Prop}
def d_F (D : Dd K R) : Dd K (RLp φ R) := ⟨(d_L D).e, fun F v l h => (d_L D).r F v l (sb_p sb_refl F v l h), (d_L D).q, (d_L D).c, (d_L D).n, (d_L D).d⟩
theorem od_F {D : Dd K R} (h : Od D) : Od (d_F (φ := φ) D) := ⟨(od_L h).al, (od_L h).nn, (od_L h).kd⟩
end
end Mz

namespace Mz
open PySem PySem.Spec PyProof.Rows L2 PySem.W PySem.Calls
/-! ### d.get(k) -/
section
variable {X : Cx} {W : Fx} {G G1 G2 : Gm} {a b : Expr} {κ' : Type} [DecidableEq κ'] {κ : Type} [DecidableEq κ] {β : Type} {Rk : Rp κ} {R : Rp β} {KD : Kx κ' Rk} {d : List (κ × β)} {N : Nat}
theorem ev_dget1 {k : κ} {apos cpos : Pos} (nn : NN R) (hr : Room N X.A) (ha : Ev X W a G (RDi KD R) d G1) (hb : Ev X W b G1 Rk k G2) (m : M1 X a "get" apos b cpos) : Ev X W (.Call (.Attribute a "get" apos) [b] [] cpos) G (RO R) (dgt d k) G2 := .mk fun σ F H Q S q =>
  toE (pe_dget1 (hu_of hr) wE_pe wE_pe m) (ha.out σ F H _ S fun v F1 H1 e1 S1 r1 => by
    obtain ⟨p, z, rfl, h2, h3⟩ := r1
    refine ⟨p, rfl, KD.isd (.inr ⟨z.1, S1.ex _ _ h2⟩), hb.out σ F1 H1 _ S1 fun u F2 H2 e2 S2 r2 => ?_⟩
    have g := KD.get S2.ex r2 (kvs := z.2) (.inr ⟨z.1, S2.ex _ _ (e2 _ _ h2)⟩)
    refine ⟨_, g, q _ F2 H2 (e1.trans e2) S2 ?_⟩
    have v3 := (h3.mono e2).val KD.inj k
    cases y : dgt d k with
    | none => rw [v3.2 y]; rfl
    | some x' => obtain ⟨w', h4, h5⟩ := v3.1 x' y; rw [h4]; exact ⟨h5, nn _ _ _ h5⟩)
end
section
variable {κ' κ β : Type} [DecidableEq κ'] [DecidableEq κ] {Rk : Rp κ} {KD : Kx κ' Rk} {R : Rp β} {d : List (κ × β)}
variable {X : Cx} {W : Fx} {G G1 : Gm} {a : Expr} {pos p : Pos} {N : Nat}
/-- sorted(f(..)), a new dict's keys in order -/
theorem eo_sortedDO {D : Dd X.K Rk} (en : κ → PyData) (O : Od D) (he : D.e = en) (hr : Room N X.A) (hd : D.n ≤ 60) (hm : X.mg "sorted" = none) (ha : EvO X W a G (fun l => QD l KD R d) G1) (hc : X.calm = true := by rfl) (hg : Gl X "sorted" := by rfl) (hs : starEach [a] X.env = (false, eval a X.env) :: starEach [] X.env := by rfl) :
    EvO X W (.Call (.Name "sorted" p) [a] [] pos) G (fun l => QL l Rk (srtE en (d.map (·.1)))) G1 := .mk fun σ F H Q S q => by
  subst he
  have cr : CallR X (.builtin "sorted") (fun vs H Q => ∃ (pa : Addr) (kvs : List (κ' × V)) (F : Hp), vs = [.ref pa] ∧ H pa = some (KD.ho kvs) ∧ DP R KD.enc F kvs d ∧ Ex F H ∧ F pa = none ∧
      ∀ (F' : Hp) (ys : List V) (l : Addr), Ex F F' → Ex F' H → (∀ b, H b ≠ none → F' b = F b ∨ ∃ xs, H b = some (.tup xs)) → All2 Rk F' ys (srtE D.e (d.map (·.1))) → H l = none → Q (.ref l) (upd H l (.lst ys))) := by
    intro pins s σ H vs us Q I r h
    obtain ⟨pa, kvs, F, rfl, h1, h2, h3, hF, q⟩ := h
    obtain ⟨u, eu, rx⟩ := vals1 r
    subst eu
    cases rx
    obtain ⟨od, I0⟩ := I.lock h1 (KD.mt kvs)
    have nof := I.nofrz h1 (KD.mt kvs)
    have h3' : Ex F (upd H pa (.frz od (KD.ho kvs))) := fun b o e => by
      rw [upd_ne fun z => by rw [z, hF] at e; cases e]; exact h3 b o e
    have hz : (upd H pa (.frz od (KD.ho kvs))) pa = some (.frz od (KD.ho kvs)) := upd_same
    obtain ⟨lo, hget, hx, es, ep, hda, hsz, ent⟩ := KD.ent I0 hz
    have few := KD.few I0 (.inr ⟨od, hz⟩)
    obtain ⟨F', xs, f1, f2, f3, f4, f5⟩ := keys_all (KD := KD) (es := es.toList) h3' h2 (by rw [Array.length_toList]; exact hsz) fun i k v e => by
      obtain ⟨en', x, e1, e2, e3⟩ := ent i k v e
      exact ⟨en', x, by rw [Array.getElem?_toList]; exact e1, e2, e3⟩
    have er := each_of I0 (P := fun x b => Rk.r F' x b) (e := D.e) (fun x b h => ex_dp f2 (D.r F' x b h)) f4 f5
    refine MzD.sortedD (R := fun v b => ∃ x, RelV x v ∧ Rk.r F' x b) (en := D.e) (bs := d.map (·.1)) (I0.ok.hd hc) hget lo hx hda (by rw [hsz]; exact few) rfl (er.mono fun _ _ h => h.1) (er.mono fun _ _ h => h.2) (AllAlike.of fun b b' => O.al b b') ?_ (fun b _ => ?_) fun h1' tk out k1 k2 k3 => ?_
    · rcases O.kd with k | k
      · exact Sortable.tuples k
      · exact Sortable.others fun b => ⟨O.nn b, k b⟩
    · have := D.d b
      have := room64 hr
      omega
    · obtain ⟨ys, g1, g2⟩ := each_back k3
      have hoL : (h1'.push (seqObj "list" (es.toList.map (·.key)).toArray 0)).get? h1'.objs.size = some (seqObj "list" (es.toList.map (·.key)).toArray 0) := Heap.get?_push_size _ rfl
      obtain ⟨ep', he'⟩ := PyProof.Rows.sortedHeap_at (vs := es.toList.map (·.key)) (out := List.toArray out) hoL
      have hF' : F' pa = none := by
        rcases f3 pa (by rw [hz]; exact fun y => nomatch y) with y | ⟨xs, y⟩
        · rw [y]; exact hF
        · rw [hz] at y; cases y
      have f2' : Ex F' H := fun b o e => by
        have y := f2 b o e
        rw [upd_ne fun z => by rw [z, hF'] at e; cases e] at y
        exact y
      have f3' : ∀ b, H b ≠ none → F' b = F b ∨ ∃ xs, H b = some (.tup xs) := fun b hb => by
        by_cases y : b = pa
        · left; rw [y, hF', hF]
        · have z := f3 b (by rw [upd_ne y]; exact hb)
          rw [upd_ne y] at z
          exact z
      have I1 : Inv X pins σ (upd H pa (.frz od (KD.ho kvs))) { s with heap := h1', toks := tk } := I0.kept k1
      have hy : ys.length ≤ sizeLine := by rw [g1.length, k2, List.length_map, ← h2.len]; exact few
      have fr := I1.hok.fresh (Nat.le_refl h1'.objs.size)
      have np : pa ≠ h1'.objs.size := fun z => by rw [← z, hz] at fr; cases fr
      have I2 := I1.laid (t' := tk) (a := h1'.objs.size) (fun b u e => ?_) (Nat.le_refl _) (show ObjOk X.prog X.w _ _ _ (.lst ys) from ⟨hy, out, ep', g1, he'⟩)
      · have I3 := I2.unlock (d := pa) (od := od) (u := KD.ho kvs) (by rw [upd_ne np]; exact hz) nof
        have eH : upd (upd (upd H pa (.frz od (KD.ho kvs))) h1'.objs.size (.lst ys)) pa (KD.ho kvs) = upd H h1'.objs.size (.lst ys) := by
          funext b
          by_cases y : b = pa
          · rw [y, upd_same, upd_ne np, h1]
          · rw [upd_ne y]
            by_cases z : b = h1'.objs.size
            · rw [z, upd_same, upd_same]
            · rw [upd_ne z, upd_ne z, upd_ne y]
        rw [eH] at I3
        exact ⟨.ref _, _, I3, rfl, q F' ys _ f1 f2' f3' g2 (by rw [← upd_ne (H := H) (o := .frz od (KD.ho kvs)) np.symm]; exact fr)⟩
      have hb : b < h1'.objs.size := Heap.lt_size e
      rw [PyProof.Rows.sortedHeap_old (Nat.ne_of_lt hb) (by rw [size_push']; exact Nat.lt_succ_of_lt hb)]
      exact Heap.get?_push_of_some _ e
  exact toE (pe_callB cr hg hm (by decide +kernel) (pa_cons wE_pe pa_nil hs) (by decide) (by decide) hs rfl) (ha.out σ F H _ S fun l F1 H1 e1 S1 n => by
    obtain ⟨⟨kvs, n1, n2⟩, nf⟩ := n
    have c := nf l (List.mem_singleton.mpr rfl)
    refine ⟨l, kvs, F1, rfl, n1, n2, S1.ex, c.1, fun F' ys l2 f1 f2 f3 g hl => ?_⟩
    have S2 := S1.stepT f1 f2 (Ex.refl _) f3
    obtain ⟨s1, s2⟩ := NewO.list (R := Rk) (as := srtE D.e (d.map (·.1))) S2 hl g
    exact q l2 F' _ (e1.trans f1) s1 s2)
end
end Mz

namespace Lw
open PySem PySem.Spec PyProof.Rows L2 Mz
def c_STEPS : (List (Int × Int)) := [((1 : Int), (0 : Int)), ((1 : Int), (-1 : Int)), ((0 : Int), (-1 : Int)), ((-1 : Int), (0 : Int)), ((-1 : Int), (1 : Int)), ((0 : Int), (1 : Int))]
noncomputable def m__law_draw (box1 : ((List Int) × Int)) (many2 : Int) : Option (Int × ((List Int) × Int)) :=
  lt (box1.2 + (1 : Int)) fun box3 =>
  if (decide ((box1.1, box3).2 > (((box1.1, box3).1).length : Int))) = true then
    (modO ((((box1.1, box3).2) * (7 : Int)) + (3 : Int)) many2).bind fun t5 =>
    some (t5, (box1.1, box3))
  else
  (ix ((box1.1, box3).1) ((box1.1, box3).2 - (1 : Int))).bind fun t6 =>
  (modO t6 many2).bind fun t7 =>
  some (t7, (box1.1, box3))
noncomputable def m__law_pick {a : Type} (box1 : ((List Int) × Int)) (row2 : (List a)) : Option (a × ((List Int) × Int)) :=
  (m__law_draw box1 (1000 : Int)).bind fun t3 =>
  (modO t3.1 (row2.length : Int)).bind fun t4 =>
  (ix row2 t4).bind fun t5 =>
  some (t5, t3.2)
noncomputable def m__law_lot (box1 : ((List Int) × Int)) : Option ((List (Int × Int)) × ((List Int) × Int)) :=
  (m__law_pick box1 ([(2 : Int), (3 : Int), (4 : Int), (5 : Int)] : List Int)).bind fun t2 =>
  (m__law_draw t2.2 (9 : Int)).bind fun t3 =>
  lt (t3.1 - (4 : Int)) fun left4 =>
  lt ([] : List (Int × Int)) fun found5 =>
  (m__law_pick t3.2 ([(1 : Int), (2 : Int), (5 : Int), (8 : Int), (11 : Int), (14 : Int), (14 : Int)] : List Int)).bind fun t7 =>
  (gd (rngOk 0 t7.1)).bind fun g8 =>
  (lp (fun (a10 : Int) (s9 : (((List Int) × Int) × (List (Int × Int)))) =>
      (m__law_draw s9.1 t2.1).bind fun t13 =>
      (m__law_draw t13.2 t2.1).bind fun t14 =>
      lt ((left4 + t13.1), (t14.1 - left4)) fun spot15 =>
      if (!(decide (spot15 ∈ s9.2))) = true then
        (appO s9.2 spot15).bind fun found17 =>
        some (t14.2, found17)
      else
      some (t14.2, s9.2)) (rng 0 t7.1) (t7.2, found5)).bind fun s18 =>
  some (s18.2, s18.1)
noncomputable def m_moved (place1 : (Int × Int)) (way2 : Int) (many3 : Int) : Option (Int × Int) :=
  (ix c_STEPS way2).bind fun t4 =>
  (mulO t4.1 many3).bind fun t5 =>
  (ix c_STEPS way2).bind fun t6 =>
  (mulO t6.2 many3).bind fun t7 =>
  some ((place1.1 + t5), (place1.2 + t7))
noncomputable def m_beside (place1 : (Int × Int)) : Option (List (Int × Int)) :=
  (lcO (fun (a2 : Int) => (m_moved place1 a2 (1 : Int)).bind fun t4 => some t4) (rng 0 (6 : Int))).bind fun t5 =>
  some t5
noncomputable def m_pieces (places1 : (List (Int × Int))) : Option (List (List (Int × Int))) :=
  lt (srtE (enT (enC enI (en1 enI))) places1) fun left2 =>
  lt ([] : List (List (Int × Int))) fun found4 =>
  (wh (β := Unit) (fun (s6 : ((List (Int × Int)) × (List (List (Int × Int))))) => some (decide ((s6.1.length : Int) > (0 : Int)))) (fun (s6 : ((List (Int × Int)) × (List (List (Int × Int))))) =>
      (ix s6.1 (0 : Int)).bind fun t9 =>
      lt ([t9] : List (Int × Int)) fun piece10 =>
      (wh (β := Unit) (fun (s12 : ((List (Int × Int)) × Int)) => some (decide (s12.2 < (s12.1.length : Int)))) (fun (s12 : ((List (Int × Int)) × Int)) =>
          (ix s12.1 s12.2).bind fun t15 =>
          (m_beside t15).bind fun t16 =>
          (addO s12.1 ((t16.filter fun (a17 : (Int × Int)) => ((decide (a17 ∈ s6.1)) && (!(decide (a17 ∈ s12.1))))).map fun (a17 : (Int × Int)) => a17)).bind fun piece19 =>
          lt (s12.2 + (1 : Int)) fun at20 =>
          some (Ctl.next (piece19, at20))) (piece10, (0 : Int))).bind fun c => c.on (fun s21 =>
        (appO s6.2 (srtE (enT (enC enI (en1 enI))) s21.1)).bind fun found23 =>
        lt ((s6.1.filter fun (a24 : (Int × Int)) => (!(decide (a24 ∈ s21.1)))).map fun (a24 : (Int × Int)) => a24) fun left26 =>
        some (Ctl.next (left26, found23))) (fun (q28 : Unit) => none)) (left2, found4)).bind fun c => c.on (fun s29 =>
    some s29.2) (fun (q31 : Unit) => none)
noncomputable def m__law_cell (script1 : (List Int)) (k2 : Int) : Option Int :=
  if (decide (k2 < (script1.length : Int))) = true then
    (ix script1 k2).bind fun t4 =>
    some t4
  else
  some (0 : Int)
noncomputable def m__law_digits (script1 : (List Int)) (first2 : Int) (last3 : Int) : Option (List Int) :=
  lt ([] : List Int) fun digits4 =>
  (gd (rngOk first2 last3)).bind fun g6 =>
  (lp (fun (a8 : Int) (s7 : ((List Int))) =>
      (m__law_cell script1 a8).bind fun t11 =>
      Option.bind (α := (Int)) (if (decide (t11 < (0 : Int))) = true then
        lt ((1 : Int) - ((2 : Int) * t11)) fun cell14 =>
        some cell14
      else
        some t11) fun s15 =>
      if (decide (s15 ≥ (1000000000000000000 : Int))) = true then
        (lp (fun (a18 : Int) (s17 : ((List Int) × Int)) =>
            if (decide (s17.2 > (0 : Int))) = true then
              (appO s17.1 (s17.2 % (1000 : Int))).bind fun digits22 =>
              lt (s17.2 / (1000 : Int)) fun cell23 =>
              some (digits22, cell23)
            else
            some (s17.1, s17.2)) (rng 0 (60 : Int)) (s7, s15)).bind fun s24 =>
        some s24.1
      else
      lt ((((s15 * (48271 : Int)) + (a8 * (69621 : Int))) + (11 : Int)) % (2147483647 : Int)) fun seed26 =>
      (lp (fun (a28 : Int) (s27 : ((List Int) × Int)) =>
          lt ((((s27.2 * (16807 : Int)) + ((7 : Int) * a28)) + (1 : Int)) % (2147483647 : Int)) fun seed31 =>
          (appO s27.1 ((seed31 / (997 : Int)) % (1000 : Int))).bind fun digits32 =>
          some (digits32, seed31)) (rng 0 (12 : Int)) (s7, seed26)).bind fun s33 =>
      some s33.1) (rng first2 last3) digits4).bind fun s35 =>
  some s35
noncomputable def m__law_low (top1 : Int) (bottom2 : Int) : Option (Int × Int) :=
  lt (absZ top1) fun one3 =>
  lt (absZ bottom2) fun other4 =>
  (lpC (β := (Int × Int)) (fun (a6 : Int) (s5 : (Int × Int)) =>
      if (decide (s5.2 = (0 : Int))) = true then
        some (Ctl.brk (s5.1, s5.2))
      else
      (modO s5.1 s5.2).bind fun t10 =>
      some (Ctl.next (s5.2, t10))) (rng 0 (400 : Int)) (one3, other4)).bind fun c => c.on (fun s11 =>
    Option.bind (α := (Int)) (if (decide (bottom2 < (0 : Int))) = true then
      lt (-s11.1) fun one15 =>
      some one15
    else
      some s11.1) fun s16 =>
    (divO top1 s16).bind fun t17 =>
    (divO bottom2 s16).bind fun t18 =>
    some (t17, t18)) (fun (q19 : (Int × Int)) => some q19)
noncomputable def m__law_near (spot1 : (Int × Int)) : Option (List (Int × Int)) :=
  some ([((spot1.1 + (1 : Int)), spot1.2), ((spot1.1 + (1 : Int)), (spot1.2 - (1 : Int))), (spot1.1, (spot1.2 - (1 : Int))), ((spot1.1 - (1 : Int)), spot1.2), ((spot1.1 - (1 : Int)), (spot1.2 + (1 : Int))), (spot1.1, (spot1.2 + (1 : Int)))] : List (Int × Int))
noncomputable def m__law_steps (lot1 : (List (Int × Int))) (start2 : (Int × Int)) : Option (List ((Int × Int) × Int)) :=
  lt [(start2, (0 : Int))] fun found3 =>
  lt ([start2] : List (Int × Int)) fun last5 =>
  (gd (rngOk (1 : Int) (lot1.length : Int))).bind fun g7 =>
  (lp (fun (a9 : Int) (s8 : ((List ((Int × Int) × Int)) × (List (Int × Int)))) =>
      lt ([] : List (Int × Int)) fun fresh12 =>
      (lp (fun (a15 : (Int × Int)) (s14 : ((List ((Int × Int) × Int)) × (List (Int × Int)))) =>
          (m__law_near a15).bind fun t18 =>
          (lp (fun (a20 : (Int × Int)) (s19 : ((List ((Int × Int) × Int)) × (List (Int × Int)))) =>
              if ((decide (a20 ∈ lot1)) && (!(dgt s19.1 a20).isSome)) = true then
                (dpo s19.1 a20 a9).bind fun found24 =>
                (appO s19.2 a20).bind fun fresh25 =>
                some (found24, fresh25)
              else
              some (s19.1, s19.2)) t18 (s14.1, s14.2)).bind fun s26 =>
          some (s26.1, s26.2)) s8.2 (s8.1, fresh12)).bind fun s28 =>
      some (s28.1, s28.2)) (rng (1 : Int) (lot1.length : Int)) (found3, last5)).bind fun s30 =>
  some s30.1
noncomputable def m_outline (places1 : (List (Int × Int))) : Option Int :=
  (lcO (fun (a2 : (Int × Int)) => (m_beside a2).bind fun t4 => some (((t4.filter fun (a5 : (Int × Int)) => (!(decide (a5 ∈ places1)))).map fun (a5 : (Int × Int)) => (1 : Int)).length : Int)) places1).bind fun t7 =>
  some t7.sum
noncomputable def m_fraction (top1 : Int) (bottom2 : Int) : Option (Int × Int) :=
  lt (gcdZ top1 bottom2) fun share3 =>
  Option.bind (α := (Int)) (if (decide (bottom2 < (0 : Int))) = true then
    lt (-share3) fun share6 =>
    some share6
  else
    some share3) fun s7 =>
  (divO top1 s7).bind fun t8 =>
  (divO bottom2 s7).bind fun t9 =>
  some (t8, t9)
noncomputable def m_middle (places1 : (List (Int × Int))) : Option ((Int × Int) × (Int × Int)) :=
  lt (places1.length : Int) fun many2 =>
  (m_fraction ((places1.map fun (a3 : (Int × Int)) => a3.1).sum) many2).bind fun t5 =>
  (m_fraction ((places1.map fun (a6 : (Int × Int)) => a6.2).sum) many2).bind fun t8 =>
  some (t5, t8)
noncomputable def m__law_mixed {a : Type} (box1 : ((List Int) × Int)) (row2 : (List a)) : Option ((List a) × ((List Int) × Int)) :=
  lt ([] : List a) fun found4 =>
  (gd (rngOk 0 (row2.length : Int))).bind fun g6 =>
  (lp (fun (a8 : Int) (s7 : (((List Int) × Int) × (List a) × (List a))) =>
      (m__law_draw s7.1 (1000 : Int)).bind fun t11 =>
      (modO t11.1 (s7.2.1.length : Int)).bind fun t12 =>
      (popAt s7.2.1 t12).bind fun t13 =>
      (appO s7.2.2 t13.2).bind fun found14 =>
      some (t11.2, t13.1, found14)) (rng 0 (row2.length : Int)) (box1, row2, found4)).bind fun s15 =>
  some (s15.2.2, s15.1)
noncomputable def m_fewest_steps (places1 : (List (Int × Int))) (start2 : (Int × Int)) (goal3 : (Int × Int)) : Option (Option Int) :=
  lt [(start2, (0 : Int))] fun found4 =>
  lt ([start2] : List (Int × Int)) fun waiting6 =>
  (wh (β := Unit) (fun (s8 : ((List ((Int × Int) × Int)) × (List (Int × Int)) × Int)) => some (decide (s8.2.2 < (s8.2.1.length : Int)))) (fun (s8 : ((List ((Int × Int) × Int)) × (List (Int × Int)) × Int)) =>
      (ix s8.2.1 s8.2.2).bind fun t11 =>
      lt (s8.2.2 + (1 : Int)) fun at12 =>
      (m_beside t11).bind fun t13 =>
      (lp (fun (a15 : (Int × Int)) (s14 : ((List ((Int × Int) × Int)) × (List (Int × Int)))) =>
          if ((decide (a15 ∈ places1)) && (!(dgt s14.1 a15).isSome)) = true then
            (dgt s14.1 t11).bind fun t19 =>
            (dpo s14.1 a15 (t19 + (1 : Int))).bind fun found20 =>
            (appO s14.2 a15).bind fun waiting21 =>
            some (found20, waiting21)
          else
          some (s14.1, s14.2)) t13 (s8.1, s8.2.1)).bind fun s22 =>
      some (Ctl.next (s22.1, s22.2, at12))) (found4, waiting6, (0 : Int))).bind fun c => c.on (fun s24 =>
    some (dgt s24.1 goal3)) (fun (q26 : Unit) => none)
noncomputable def m_law (script1 : (List Int)) : Option Bool :=
  (m__law_digits script1 (0 : Int) (20 : Int)).bind fun t2 =>
  lt (t2, (0 : Int)) fun box3 =>
  (m__law_lot box3).bind fun t5 =>
  lt ([] : List (List (Int × Int))) fun due6 =>
  (lp (fun (a9 : (Int × Int)) (s8 : ((List (List (Int × Int))))) =>
      if (decide (((s8.filter fun (a12 : (List (Int × Int))) => (decide (a9 ∈ a12))).map fun (a12 : (List (Int × Int))) => a12) = ([] : List (List (Int × Int))))) = true then
        (m__law_steps t5.1 a9).bind fun t15 =>
        (appO s8 (srtE (enT (enC enI (en1 enI))) (t15.map (·.1)))).bind fun due16 =>
        some due16
      else
      some s8) (srtE (enT (enC enI (en1 enI))) t5.1) due6).bind fun s17 =>
  (m_pieces t5.1).bind fun t20 =>
  (sameO (okL (okL (okP okI okI))) t20 s17).bind fun t22 =>
  if ((!t22) || (!decide (t5.1 = t5.1))) = true then
    some false
  else
  (ix t20 (0 : Int)).bind fun t24 =>
  (gd (decide (t24.length < 16000000))).bind fun g25 =>
  (m__law_mixed t5.2 t5.1).bind fun t26 =>
  (m_pieces t26.1).bind fun t27 =>
  (sameO (okL (okL (okP okI okI))) t27 s17).bind fun t28 =>
  if (!t28) = true then
    some false
  else
  (lp (fun (a31 : (Int × Int)) (s30 : (Int)) =>
      (m__law_near a31).bind fun t37 =>
      lt (s30 + (((t37.filter fun (a38 : (Int × Int)) => (!(decide (a38 ∈ t5.1)))).map fun (a38 : (Int × Int)) => a38).length : Int)) fun sides40 =>
      some sides40) t5.1 (0 : Int)).bind fun s41 =>
  (m_outline t5.1).bind fun t43 =>
  (sameO okI t43 s41).bind fun t44 =>
  if (!t44) = true then
    some false
  else
  (m__law_low ((t5.1.map fun (a46 : (Int × Int)) => a46.1).sum) (t5.1.length : Int)).bind fun t48 =>
  (m__law_low ((t5.1.map fun (a49 : (Int × Int)) => a49.2).sum) (t5.1.length : Int)).bind fun t51 =>
  lt (t48, t51) fun mean52 =>
  (m_middle t5.1).bind fun t53 =>
  (sameO (okP (okP okI okI) (okP okI okI)) t53 mean52).bind fun t54 =>
  if (!t54) = true then
    some false
  else
  (lpC (β := Bool) (fun (a57 : Int) (s56 : (((List Int) × Int))) =>
      (m__law_pick s56 t5.1).bind fun t60 =>
      (m__law_pick t60.2 t5.1).bind fun t61 =>
      (m__law_steps t5.1 t60.1).bind fun t62 =>
      (m_fewest_steps t5.1 t60.1 t61.1).bind fun t64 =>
      (if (dgt t62 t61.1).isSome = true then (dgt t62 t61.1).bind fun t65 => some (some t65) else some none).bind fun t66 =>
      (sameO (okO okI) t64 t66).bind fun t67 =>
      if (!t67) = true then
        some (Ctl.ret false)
      else
      some (Ctl.next t61.2)) (rng 0 (4 : Int)) t26.2).bind fun c => c.on (fun s69 =>
    some (decide (t5.1 = t5.1))) (fun (q71 : Bool) => some q71)
end Lw
namespace Mz
open PySem PySem.Spec PyProof.Rows L2

/-! ### plain facts about the mirrors' words -/
theorem lt_eq {α β : Type} (a : α) (k : α → β) : lt a k = k a := rfl
theorem ix_nat {α : Type} (xs : List α) (j : Nat) : ix xs (j : Int) = xs[j]? := by
  unfold ix atI ixN
  rw [if_pos (Int.natCast_nonneg j)]
  by_cases h : j < xs.length
  · rw [if_pos (by omega)]
    show xs[(j : Int).toNat]? = _
    rw [Int.toNat_natCast]
  · rw [if_neg (by omega)]
    exact (List.getElem?_eq_none_iff.mpr (by omega)).symm
theorem ix_mem {α : Type} {xs : List α} {i : Int} (h0 : 0 ≤ i) (h1 : i < xs.length) : ∃ x, ix xs i = some x ∧ x ∈ xs := by
  obtain ⟨j, rfl⟩ := Int.eq_ofNat_of_zero_le h0
  have hj : j < xs.length := by omega
  exact ⟨xs[j], by rw [ix_nat, List.getElem?_eq_getElem hj], List.getElem_mem hj⟩
theorem ix_map {α β : Type} (g : α → β) (xs : List α) (i : Int) : ix (xs.map g) i = (ix xs i).map g := by
  unfold ix atI
  rw [List.length_map]
  cases ixN xs.length i with
  | none => rfl
  | some j => simp
theorem modO_pos {i j : Int} (h : 0 < j) : ∃ v, modO i j = some v ∧ v = i % j ∧ 0 ≤ v ∧ v < j := by
  refine ⟨i % j, ?_, rfl, Int.emod_nonneg i (by omega), Int.emod_lt_of_pos i h⟩
  unfold modO
  rw [if_pos (by omega), Int.fmod_eq_emod_of_nonneg i (by omega)]
theorem appO_ok {α : Type} {xs : List α} {a : α} (h : xs.length < 16000000) : appO xs a = some (xs ++ [a]) := if_pos h
theorem appO_map {α β : Type} (g : α → β) (xs : List α) (a : α) : appO (xs.map g) (g a) = (appO xs a).map (List.map g) := by
  unfold appO
  rw [List.length_map]
  split <;> simp
theorem addO_ok {α : Type} {xs ys : List α} (h : xs.length + ys.length ≤ 16000000) : addO xs ys = some (xs ++ ys) := if_pos h
theorem gd_ok {b : Bool} (h : b = true) : gd b = some () := if_pos h
theorem rng_ok {i j : Int} (h1 : -1000000000 ≤ i) (h2 : i ≤ 1000000000) (h3 : -1000000000 ≤ j) (h4 : j ≤ 1000000000) (h5 : j - i ≤ 16777216) : gd (rngOk i j) = some () := gd_ok (rngOk_mk h1 h2 h3 h4 h5)
theorem rng_mem {lo hi x : Int} (h : x ∈ rng lo hi) : lo ≤ x ∧ x < hi := by
  obtain ⟨i, hi'⟩ := List.getElem?_of_mem h
  obtain ⟨h1, h2⟩ := rng_get hi'
  omega
theorem mem_rng {lo hi x : Int} (h1 : lo ≤ x) (h2 : x < hi) : x ∈ rng lo hi := by
  unfold rng
  exact List.mem_map.mpr ⟨(x - lo).toNat, List.mem_range.mpr (by omega), by omega⟩
section
variable {α β S T : Type}
/-- a loop that keeps a word -/
theorem lp_inv {f : α → S → Option S} (P : Nat → S → Prop) : ∀ {as : List α} {s : S} (n : Nat), P n s → (∀ i a s, as[i]? = some a → P (n + i) s → ∃ s', f a s = some s' ∧ P (n + i + 1) s') → ∃ s', lp f as s = some s' ∧ P (n + as.length) s'
  | [], s, n, h0, _ => ⟨s, rfl, h0⟩
  | a :: as, s, n, h0, hs => by
    obtain ⟨s1, h1, h2⟩ := hs 0 a s rfl h0
    obtain ⟨s2, h3, h4⟩ := lp_inv P (as := as) (n + 1) h2 (fun i b t hb ht => by
      have := hs (i + 1) b t hb (by rw [show n + (i + 1) = n + 1 + i by omega]; exact ht)
      rw [show n + (i + 1) + 1 = n + 1 + i + 1 by omega] at this
      exact this)
    refine ⟨s2, ?_, by rw [List.length_cons, show n + (as.length + 1) = n + 1 + as.length by omega]; exact h4⟩
    show (f a s).bind _ = _
    rw [h1]; exact h3
/-- a loop that keeps a word, whatever the turn -/
theorem lp_keep {f : α → S → Option S} (P : S → Prop) {as : List α} {s : S} (h0 : P s) (hs : ∀ a s, a ∈ as → P s → ∃ s', f a s = some s' ∧ P s') : ∃ s', lp f as s = some s' ∧ P s' :=
  lp_inv (fun _ => P) (n := 0) h0 fun i a s ha hp => hs a s (List.mem_of_getElem? ha) hp
/-- a loop moved along a map of its states -/
theorem lp_map {f : α → S → Option S} {g : α → T → Option T} (φ : S → T) : ∀ {as : List α} {s : S}, (∀ a s, a ∈ as → g a (φ s) = (f a s).map φ) → lp g as (φ s) = (lp f as s).map φ
  | [], s, _ => rfl
  | a :: as, s, h => by
    show (g a (φ s)).bind _ = ((f a s).bind _).map φ
    rw [h a s List.mem_cons_self]
    cases q : f a s with
    | none => rfl
    | some s1 => exact lp_map φ fun b t hb => h b t (List.mem_cons_of_mem _ hb)
theorem lpb_map {γ δ : Type} {f : α → S → Option S} {g : α → T → Option T} {as : List α} {s : S} {t : T} {k : T → Option δ} {k' : S → Option γ} {ψ : γ → δ} (φ : S → T) (ht : t = φ s) (h : ∀ a s, a ∈ as → g a (φ s) = (f a s).map φ) (hk : ∀ s, k (φ s) = (k' s).map ψ) : (lp g as t).bind k = ((lp f as s).bind k').map ψ := by
  rw [ht, lp_map φ h]
  cases lp f as s with
  | none => rfl
  | some r => exact hk r
theorem map_bind {γ δ : Type} {m : Option α} {g : α → γ} {k : γ → Option δ} {k' : α → Option β} {φ : β → δ} (h : ∀ a, k (g a) = (k' a).map φ) : (m.map g).bind k = (m.bind k').map φ := by
  cases m with
  | none => rfl
  | some a => exact h a
theorem bind_same {γ : Type} {m : Option α} {k : α → Option γ} {k' : α → Option β} {φ : β → γ} (h : ∀ a, k a = (k' a).map φ) : m.bind k = (m.bind k').map φ := by
  cases m with
  | none => rfl
  | some a => exact h a
/-- a loop whose every turn goes on -/
theorem lpC_all {f : α → Unit → Option (Ctl Unit β)} : ∀ {as : List α}, (∀ a, a ∈ as → f a () = some (.next ())) → lpC f as () = some (.next ())
  | [], _ => rfl
  | a :: as, h => by
    show (f a ()).bind _ = _
    rw [h a List.mem_cons_self]
    exact lpC_all fun b hb => h b (List.mem_cons_of_mem _ hb)
theorem lpC_keep {f : α → S → Option (Ctl S β)} (P : S → Prop) : ∀ {as : List α} {s : S}, P s → (∀ a s, a ∈ as → P s → ∃ s', f a s = some (.next s') ∧ P s') → ∃ s', lpC f as s = some (.next s') ∧ P s'
  | [], s, h0, _ => ⟨s, rfl, h0⟩
  | a :: as, s, h0, hs => by
    obtain ⟨s1, h1, h2⟩ := hs a s List.mem_cons_self h0
    obtain ⟨s2, h3, h4⟩ := lpC_keep P (as := as) h2 fun b t hb => hs b t (List.mem_cons_of_mem _ hb)
    refine ⟨s2, ?_, h4⟩
    show (f a s).bind _ = _
    rw [h1]; exact h3
/-- a comprehension that hands a state on -/
theorem lcS_keep {f : α → S → Option (β × S)} (P : S → Prop) (Q : β → Prop) : ∀ {as : List α} {s : S}, P s → (∀ a s, a ∈ as → P s → ∃ b s', f a s = some (b, s') ∧ P s' ∧ Q b) → ∃ bs s', lcS f as s = some (bs, s') ∧ P s' ∧ (∀ b ∈ bs, Q b) ∧ bs.length = as.length
  | [], s, h0, _ => ⟨[], s, rfl, h0, (fun b h => nomatch h), rfl⟩
  | a :: as, s, h0, hs => by
    obtain ⟨b, s1, h1, h2, h5⟩ := hs a s List.mem_cons_self h0
    obtain ⟨bs, s2, h3, h4, h6, h7⟩ := lcS_keep P Q (as := as) h2 fun b t hb => hs b t (List.mem_cons_of_mem _ hb)
    refine ⟨b :: bs, s2, ?_, h4, fun c hc => ?_, by rw [List.length_cons, List.length_cons, h7]⟩
    · show (f a s).bind _ = _
      rw [h1]
      show (lcS f as s1).bind _ = _
      rw [h3]; rfl
    · rcases List.mem_cons.mp hc with rfl | hc
      · exact h5
      · exact h6 c hc
theorem lcO_of {f : α → Option β} {g : α → β} : ∀ {as : List α}, (∀ a, a ∈ as → f a = some (g a)) → lcO f as = some (as.map g)
  | [], _ => rfl
  | a :: as, h => by
    show (f a).bind _ = _
    rw [h a List.mem_cons_self]
    show (lcO f as).bind _ = _
    rw [lcO_of fun b hb => h b (List.mem_cons_of_mem _ hb)]; rfl
theorem lcF_id : ∀ (as : List α), lcF (fun a => some (some a)) as = some as
  | [] => rfl
  | a :: as => by
    show (lcF _ as).bind _ = _
    rw [lcF_id as]; rfl
theorem lcO_map2 {f g : α → Option (List β)} (φ : β → β) : ∀ {as : List α}, (∀ a, a ∈ as → g a = (f a).map (List.map φ)) → lcO g as = (lcO f as).map (List.map (List.map φ))
  | [], _ => rfl
  | a :: as, h => by
    show (g a).bind _ = ((f a).bind _).map _
    rw [h a List.mem_cons_self]
    cases q : f a with
    | none => rfl
    | some b =>
      show (lcO g as).bind _ = ((lcO f as).bind _).map _
      rw [lcO_map2 φ fun b hb => h b (List.mem_cons_of_mem _ hb)]
      cases lcO f as <;> rfl
theorem flatO_map (φ : β → β) (bss : List (List β)) : flatO (bss.map (List.map φ)) = (flatO bss).map (List.map φ) := by
  unfold flatO
  have e : (bss.map (List.map φ)).flatten = bss.flatten.map φ := (List.map_flatten (f := φ) (L := bss)).symm
  rw [e, List.length_map]
  split <;> rfl
end
theorem same_t {α : Type} {ok : α → Prop} {a b : α} (h : a = b) (k : ok b) : sameO ok a b = some true := sameO_of h k
theorem small_log {i : Int} (h : i.natAbs < 2 ^ 1900) : i.natAbs.log2 < 1920 := by
  by_cases z : i.natAbs = 0
  · rw [z]; decide
  · exact Nat.lt_trans ((Nat.log2_lt z).mpr h) (by decide)
theorem okI_small {i : Int} (h1 : -1000000000000 ≤ i) (h2 : i ≤ 1000000000000) : okI i := small_log (Nat.lt_of_le_of_lt (show i.natAbs ≤ 1000000000000 by omega) (by decide))

/-! ### a small calculus: m comes to something of which Q holds -/
def Ok {α : Type} (m : Option α) (Q : α → Prop) : Prop := ∃ r, m = some r ∧ Q r
section
variable {α β S ρ : Type} {Q : α → Prop}
theorem ok_some {a : α} (h : Q a) : Ok (some a) Q := ⟨a, rfl, h⟩
theorem ok_mono {m : Option α} {P : α → Prop} (h : Ok m P) (k : ∀ a, P a → Q a) : Ok m Q := by
  obtain ⟨r, e, p⟩ := h
  exact ⟨r, e, k r p⟩
theorem ok_bind {m : Option β} {k : β → Option α} (P : β → Prop) (h : Ok m P) (g : ∀ b, P b → Ok (k b) Q) : Ok (m.bind k) Q := by
  obtain ⟨r, e, p⟩ := h
  rw [e]; exact g r p
theorem ok_lt {a : β} {k : β → Option α} (h : Ok (k a) Q) : Ok (lt a k) Q := h
theorem ok_if {b : Bool} {m1 m2 : Option α} (h1 : b = true → Ok m1 Q) (h2 : b = false → Ok m2 Q) : Ok (if b = true then m1 else m2) Q := by
  cases b
  · exact h2 rfl
  · exact h1 rfl
theorem ok_gd {b : Bool} {k : Unit → Option α} (hb : b = true) (h : Ok (k ()) Q) : Ok ((gd b).bind k) Q := by
  rw [gd_ok hb]; exact h
theorem ok_rng {i j : Int} {k : Unit → Option α} (h1 : -1000000000 ≤ i) (h2 : i ≤ 1000000000) (h3 : -1000000000 ≤ j) (h4 : j ≤ 1000000000) (h5 : j - i ≤ 16777216) (h : Ok (k ()) Q) : Ok ((gd (rngOk i j)).bind k) Q := ok_gd (rngOk_mk h1 h2 h3 h4 h5) h
theorem ok_app {xs : List β} {a : β} {k : List β → Option α} (hl : xs.length < 16000000) (h : Ok (k (xs ++ [a])) Q) : Ok ((appO xs a).bind k) Q := by
  rw [appO_ok hl]; exact h
theorem ok_mod {i j : Int} {k : Int → Option α} (hj : 0 < j) (h : ∀ v, v = i % j → 0 ≤ v → v < j → Ok (k v) Q) : Ok ((modO i j).bind k) Q := by
  obtain ⟨v, e, e2, h1, h2⟩ := modO_pos (i := i) hj
  rw [e]; exact h v e2 h1 h2
theorem ok_ix {xs : List β} {i : Int} {k : β → Option α} (h0 : 0 ≤ i) (h1 : i < xs.length) (h : ∀ x, x ∈ xs → ix xs i = some x → Ok (k x) Q) : Ok ((ix xs i).bind k) Q := by
  obtain ⟨x, e, hx⟩ := ix_mem h0 h1
  rw [e]; exact h x hx e
theorem ok_lp {f : β → S → Option S} {as : List β} {s : S} {k : S → Option α} (P : Nat → S → Prop) (h0 : P 0 s) (hs : ∀ i a s, as[i]? = some a → P i s → Ok (f a s) (P (i + 1))) (hk : ∀ s, P as.length s → Ok (k s) Q) : Ok ((lp f as s).bind k) Q := by
  obtain ⟨r, e, p⟩ := lp_inv P (n := 0) h0 fun i a s ha hp => by
    rw [Nat.zero_add] at hp ⊢
    exact hs i a s ha hp
  rw [e]
  rw [Nat.zero_add] at p
  exact hk r p
theorem ok_lpC {f : β → S → Option (Ctl S ρ)} {as : List β} {s : S} {k : S → Option α} {ro : ρ → Option α} (P : S → Prop) (h0 : P s) (hs : ∀ a s, a ∈ as → P s → Ok (f a s) fun c => ∃ s', c = .next s' ∧ P s') (hk : ∀ s, P s → Ok (k s) Q) : Ok ((lpC f as s).bind fun c => c.on k ro) Q := by
  obtain ⟨r, e, p⟩ := lpC_keep P h0 fun a s ha hp => by
    obtain ⟨c, e, s', rfl, p⟩ := hs a s ha hp
    exact ⟨s', e, p⟩
  rw [e]
  exact hk r p
theorem ok_same {a b : β} {ok : β → Prop} {k : Bool → Option α} (h1 : a = b) (h2 : ok b) (h : Ok (k true) Q) : Ok ((sameO ok a b).bind k) Q := by
  rw [sameO_of h1 h2]; exact h
theorem ok_to {m : Option α} {a : α} (h : Ok m fun r => r = a) : m = some a := by
  obtain ⟨r, e, rfl⟩ := h
  exact e
end
theorem mulO_ok {a b : Int} (h1 : -1000000000000 ≤ a) (h2 : a ≤ 1000000000000) (h3 : -1000000000000 ≤ b) (h4 : b ≤ 1000000000000) : mulO a b = some (a * b) := if_pos (by
  unfold mulOk
  rw [decide_eq_true (show -(2 ^ 64) < a by omega), decide_eq_true (show a < 2 ^ 64 by omega), decide_eq_true (show -(2 ^ 64) < b by omega), decide_eq_true (show b < 2 ^ 64 by omega)]
  rfl)
theorem ok_mulO {α : Type} {Q : α → Prop} {a b : Int} {k : Int → Option α} (h1 : -1000000000000 ≤ a) (h2 : a ≤ 1000000000000) (h3 : -1000000000000 ≤ b) (h4 : b ≤ 1000000000000) (h : Ok (k (a * b)) Q) : Ok ((mulO a b).bind k) Q := by
  rw [mulO_ok h1 h2 h3 h4]; exact h
theorem divO_ok {a b : Int} (h1 : 0 < b) (h2 : b ≤ 1000000000000) : divO a b = some (a / b) := by
  unfold divO
  rw [if_pos ⟨by omega, Nat.lt_of_lt_of_le (small_log (Nat.lt_of_le_of_lt (show b.natAbs ≤ 1000000000000 by omega) (by decide))) (by decide)⟩, Int.fdiv_eq_ediv_of_nonneg _ (by omega)]
theorem ok_divO {α : Type} {Q : α → Prop} {a b : Int} {k : Int → Option α} (h1 : 0 < b) (h2 : b ≤ 1000000000000) (h : Ok (k (a / b)) Q) : Ok ((divO a b).bind k) Q := by
  rw [divO_ok h1 h2]; exact h
theorem rng_ix {n m : Int} (h1 : 0 ≤ n) (h2 : n < m) : ix (rng 0 m) n = some n := by
  obtain ⟨j, rfl⟩ := Int.eq_ofNat_of_zero_le h1
  rw [ix_nat]
  obtain ⟨x, hx⟩ : ∃ x, (rng 0 m)[j]? = some x := ⟨_, List.getElem?_eq_getElem (by rw [rng_len]; omega)⟩
  rw [hx, (rng_get hx).2, Int.zero_add]
theorem lcF_none {α β : Type} {f : α → Option (Option β)} : ∀ {as : List α}, (∀ a ∈ as, f a = some none) → lcF f as = some []
  | [], _ => rfl
  | a :: as, h => by
    show (f a).bind _ = _
    rw [h a List.mem_cons_self]
    show (lcF f as).bind _ = _
    rw [lcF_none fun b hb => h b (List.mem_cons_of_mem _ hb)]
    rfl
theorem setO_ok {α : Type} {xs : List α} {i : Int} {j : Nat} {a : α} (e : i = j) (h : j < xs.length) : setO xs i a = some (xs.set j a) := by
  subst e
  unfold setO ixN
  rw [if_pos (Int.natCast_nonneg j), if_pos (by omega)]
  rfl
end Mz

namespace Mz
open PySem PySem.Spec PyProof.Rows L2
/-! ### more plain facts: parts of lists, places, first things found, choices -/
theorem okI_s {x : Int} (h1 : -100000 ≤ x) (h2 : x ≤ 100000) : okI x := okI_small (by omega) (by omega)
theorem pop_ok {α : Type} {l : List α} {v : Int} (h0 : 0 ≤ v) (h1 : v < l.length) (hl : l.length ≤ 16000000) : Ok (popAt l v) fun r => (r.2 :: r.1).Perm l ∧ r.1.length + 1 = l.length := by
  obtain ⟨j, rfl⟩ := Int.eq_ofNat_of_zero_le h0
  have hj : j < l.length := by omega
  refine ⟨(l.eraseIdx j, l[j]), ?_, ?_, ?_⟩
  · unfold popAt ixN
    rw [if_pos hl, if_pos (Int.natCast_nonneg j), if_pos (by omega)]
    simp [hj]
  · show (l[j] :: l.eraseIdx j).Perm l
    rw [List.eraseIdx_eq_take_drop_succ]
    have e : l = l.take j ++ l[j] :: l.drop (j + 1) := by rw [List.getElem_cons_drop, List.take_append_drop]
    have p := List.perm_middle (a := l[j]) (l₁ := l.take j) (l₂ := l.drop (j + 1))
    exact p.symm.trans (List.Perm.of_eq e.symm)
  · show (l.eraseIdx j).length + 1 = _
    rw [List.length_eraseIdx, if_pos hj]; omega
theorem cutT {α : Type} (xs : List α) (n : Nat) : cutL xs none (some (n : Int)) = xs.take n := by
  unfold cutL
  rw [HT.sIx_nat, HT.sIx_none, Nat.sub_zero, List.drop_zero]
  by_cases h : n ≤ xs.length
  · rw [Nat.min_eq_left h]
  · rw [Nat.min_eq_right (by omega), List.take_length, List.take_of_length_le (by omega)]
theorem cutD {α : Type} (xs : List α) (n : Nat) : cutL xs (some (n : Int)) none = xs.drop n := by
  unfold cutL
  rw [HT.sIx_nat, HT.sIx_none]
  by_cases h : n ≤ xs.length
  · rw [Nat.min_eq_left h, List.take_of_length_le (by rw [List.length_drop]; exact Nat.le_refl _)]
  · rw [Nat.min_eq_right (by omega), Nat.sub_self, List.take_zero, List.drop_of_length_le (by omega)]
theorem cutM {α : Type} (xs : List α) (m n : Nat) : cutL xs (some (m : Int)) (some (n : Int)) = (xs.drop m).take (n - m) := by
  unfold cutL
  rw [HT.sIx_nat, HT.sIx_nat]
  by_cases h : m ≤ xs.length
  · rw [Nat.min_eq_left h]
    by_cases h2 : n ≤ xs.length
    · rw [Nat.min_eq_left h2]
    · rw [Nat.min_eq_right (by omega), List.take_of_length_le (by rw [List.length_drop]; exact Nat.le_refl _), List.take_of_length_le (by rw [List.length_drop]; omega)]
  · rw [Nat.min_eq_right (show xs.length ≤ m by omega), List.drop_of_length_le (Nat.le_refl _), List.drop_of_length_le (show xs.length ≤ m by omega), List.take_nil, List.take_nil]
/-- a loop that tells the first thing found -/
theorem lpC_first {α β : Type} {f : α → Unit → Option (Ctl Unit β)} (g : α → Option β) : ∀ {as : List α}, (∀ a ∈ as, f a () = some (match g a with | some q => .ret q | none => .next ())) → lpC f as () = some (match as.findSome? g with | some q => .ret q | none => .next ())
  | [], _ => rfl
  | a :: as, h => by
    show (f a ()).bind _ = _
    rw [h a List.mem_cons_self, List.findSome?_cons]
    cases g a with
    | some q => rfl
    | none => exact lpC_first g fun b hb => h b (List.mem_cons_of_mem _ hb)
theorem find_some {α β : Type} (c : α → Bool) (g : α → β) : ∀ as : List α, as.findSome? (fun a => if c a = true then some (g a) else none) = (as.find? c).map g
  | [] => rfl
  | a :: as => by
    rw [List.findSome?_cons, List.find?_cons]
    by_cases q : c a = true
    · rw [q]; rfl
    · have : c a = false := by simpa using q
      rw [this]
      exact find_some c g as
theorem findSome_map {α β γ : Type} (h : α → Option β) (f : β → γ) : ∀ as : List α, as.findSome? (fun o => (h o).map f) = (as.findSome? h).map f
  | [] => rfl
  | a :: as => by
    rw [List.findSome?_cons, List.findSome?_cons]
    cases h a with
    | some q => rfl
    | none => exact findSome_map h f as
/-- a loop that asks of each thing; the first one that fails ends it -/
theorem lpC_ask {α β : Type} {f : α → Unit → Option (Ctl Unit β)} (c : α → Bool) (q : β) {as : List α} (h : ∀ a ∈ as, f a () = some (if c a = true then .ret q else .next ())) : lpC f as () = some (if as.any c = true then .ret q else .next ()) := by
  induction as with
  | nil => rfl
  | cons a as ih =>
    show (f a ()).bind _ = _
    rw [h a List.mem_cons_self, List.any_cons]
    cases hc : c a with
    | true => rfl
    | false => exact ih fun b hb => h b (List.mem_cons_of_mem _ hb)
/-- the choices of k out of a list, in their order -/
def subs {α : Type} : Nat → List α → List (List α)
  | 0, _ => [[]]
  | _ + 1, [] => []
  | k + 1, a :: l => (subs k l).map (a :: ·) ++ subs (k + 1) l
theorem subs_zero {α : Type} (l : List α) : subs 0 l = [[]] := by cases l <;> rfl
theorem mem_subs {α : Type} {c l : List α} (h : c.Sublist l) : c ∈ subs c.length l := by
  induction h with
  | slnil => exact List.mem_singleton.mpr rfl
  | @cons c l a h ih =>
    cases c with
    | nil => rw [List.length_nil, subs_zero]; exact List.mem_singleton.mpr rfl
    | cons x c => exact List.mem_append_right _ ih
  | @cons_cons c l a h ih => exact List.mem_append_left _ (List.mem_map.mpr ⟨c, ih, rfl⟩)
theorem subs_mem {α : Type} : ∀ {k : Nat} {l c : List α}, c ∈ subs k l → c.Sublist l ∧ c.length = k
  | 0, l, c, h => by
    rw [List.mem_singleton.mp (show c ∈ [[]] from subs_zero l ▸ h)]
    exact ⟨List.nil_sublist _, rfl⟩
  | k + 1, [], c, h => nomatch h
  | k + 1, a :: l, c, h => by
    rcases List.mem_append.mp h with h | h
    · obtain ⟨d, hd, rfl⟩ := List.mem_map.mp h
      obtain ⟨h1, h2⟩ := subs_mem hd
      exact ⟨h1.cons_cons _, by rw [List.length_cons, h2]⟩
    · obtain ⟨h1, h2⟩ := subs_mem h
      exact ⟨h1.cons _, h2⟩
theorem sub_srt : ∀ {l c : List Int}, l.Pairwise (· < ·) → c.Pairwise (· < ·) → (∀ x ∈ c, x ∈ l) → c.Sublist l
  | [], c, _, _, h => by
    cases c with
    | nil => exact List.Sublist.slnil
    | cons x c => exact nomatch h x List.mem_cons_self
  | a :: l, [], _, _, _ => List.nil_sublist _
  | a :: l, x :: c, hl, hc, h => by
    have hl' := List.pairwise_cons.mp hl
    have hc' := List.pairwise_cons.mp hc
    rcases List.mem_cons.mp (h x List.mem_cons_self) with rfl | hx
    · refine (sub_srt hl'.2 hc'.2 fun y hy => ?_).cons_cons _
      have := hc'.1 y hy
      rcases List.mem_cons.mp (h y (List.mem_cons_of_mem _ hy)) with rfl | h2
      · omega
      · exact h2
    · refine (sub_srt hl'.2 hc fun y hy => ?_).cons _
      have h1 := hl'.1 x hx
      rcases List.mem_cons.mp (h y hy) with rfl | h2
      · rcases List.mem_cons.mp hy with rfl | h3
        · omega
        · have := hc'.1 _ h3; omega
      · exact h2
theorem rng_srt (lo hi : Int) : (rng lo hi).Pairwise (· < ·) := by
  unfold rng
  rw [List.pairwise_map]
  exact List.pairwise_lt_range.imp fun h => by omega
theorem nodup_lt {l : List Int} (h : l.Pairwise (· < ·)) : l.Nodup := h.imp fun h => by omega
/-! ### least and greatest -/
theorem min_ok {l : List Int} (h : l ≠ []) : Ok (minL l) fun m => m ∈ l ∧ ∀ x ∈ l, m ≤ x := by
  unfold minL
  cases q : l.min? with
  | none => exact absurd (List.min?_eq_none_iff.mp q) h
  | some m => exact ⟨m, rfl, (List.min?_eq_some_iff.mp q).1, fun x hx => (List.min?_eq_some_iff.mp q).2 x hx⟩
theorem max_ok {l : List Int} (h : l ≠ []) : Ok (maxL l) fun m => m ∈ l ∧ ∀ x ∈ l, x ≤ m := by
  unfold maxL
  cases q : l.max? with
  | none => exact absurd (List.max?_eq_none_iff.mp q) h
  | some m => exact ⟨m, rfl, (List.max?_eq_some_iff.mp q).1, fun x hx => (List.max?_eq_some_iff.mp q).2 x hx⟩
theorem idx_ok {α : Type} [DecidableEq α] {l : List α} {x : α} (h : x ∈ l) : Ok (idxO l x) fun i => ∃ j : Nat, i = j ∧ j < l.length ∧ l[j]? = some x ∧ ∀ k, k < j → l[k]? ≠ some x := by
  unfold idxO
  cases q : l.findIdx? (fun y => decide (y = x)) with
  | none =>
    have := List.findIdx?_eq_none_iff.mp q x h
    simp at this
  | some j =>
    obtain ⟨h1, h2, h3⟩ := List.findIdx?_eq_some_iff_getElem.mp q
    refine ⟨_, rfl, j, rfl, h1, ?_, fun k hk e => ?_⟩
    · rw [List.getElem?_eq_getElem h1]
      exact congrArg some (of_decide_eq_true h2)
    · obtain ⟨hk2, hk3⟩ := List.getElem?_eq_some_iff.mp e
      have h4 := h3 k hk
      rw [hk3] at h4
      simp at h4
/-- a loop with ways out: a word at each turn, a word of what is returned -/
theorem ok_lpCi {α S ρ τ : Type} {f : α → S → Option (Ctl S ρ)} {k : S → Option τ} {ro : ρ → Option τ} {Q : τ → Prop} (P : Nat → S → Prop) (R : ρ → Prop) : ∀ {as : List α} {s : S} (n : Nat), P n s →
    (∀ i a s, as[i]? = some a → P (n + i) s → Ok (f a s) fun c => (∃ s', c = .next s' ∧ P (n + i + 1) s') ∨ ∃ q, c = .ret q ∧ R q) → (∀ s, P (n + as.length) s → Ok (k s) Q) → (∀ q, R q → Ok (ro q) Q) → Ok ((lpC f as s).bind fun c => c.on k ro) Q
  | [], s, n, h0, _, hk, _ => hk s h0
  | a :: as, s, n, h0, hs, hk, hr => by
    obtain ⟨c, e, h⟩ := hs 0 a s rfl h0
    show Ok (((f a s).bind _).bind _) Q
    rw [e]
    rcases h with ⟨s', rfl, h⟩ | ⟨q, rfl, h⟩
    · refine ok_lpCi P R (as := as) (n + 1) h (fun i b t hb ht => ?_) (fun t ht => hk t (by rw [List.length_cons, show n + (as.length + 1) = n + 1 + as.length by omega]; exact ht)) hr
      have := hs (i + 1) b t hb (by rw [show n + (i + 1) = n + 1 + i by omega]; exact ht)
      rw [show n + (i + 1) + 1 = n + 1 + i + 1 by omega] at this
      exact this
    · exact hr q h
theorem lcF_map {α β : Type} {f : α → Option (Option β)} {g : α → β} : ∀ {as : List α}, (∀ a ∈ as, f a = some (some (g a))) → lcF f as = some (as.map g)
  | [], _ => rfl
  | a :: as, h => by
    show (f a).bind _ = _
    rw [h a List.mem_cons_self]
    show (lcF f as).bind _ = _
    rw [lcF_map fun b hb => h b (List.mem_cons_of_mem _ hb)]; rfl
theorem lcF_filt {α β : Type} {f : α → Option (Option β)} (c : α → Bool) (g : α → β) : ∀ {as : List α}, (∀ a ∈ as, f a = some (if c a = true then some (g a) else none)) → lcF f as = some ((as.filter c).map g)
  | [], _ => rfl
  | a :: as, h => by
    show (f a).bind _ = _
    rw [h a List.mem_cons_self]
    show (lcF f as).bind _ = _
    rw [lcF_filt c g fun b hb => h b (List.mem_cons_of_mem _ hb), List.filter_cons]
    cases c a <;> rfl
theorem flat_ok {β : Type} {bss : List (List β)} (h : bss.flatten.length ≤ 16000000) : flatO bss = some bss.flatten := if_pos h
theorem flat_len {α β : Type} (f : α → List β) (c : Nat) : ∀ as : List α, (∀ a ∈ as, (f a).length ≤ c) → (as.map f).flatten.length ≤ c * as.length
  | [], _ => by simp
  | a :: as, h => by
    rw [List.map_cons, List.flatten_cons, List.length_append, List.length_cons]
    have := flat_len f c as fun b hb => h b (List.mem_cons_of_mem _ hb)
    have := h a List.mem_cons_self
    rw [Nat.mul_succ]; omega
theorem rng_range (n : Nat) : rng 0 (n : Int) = (List.range n).map fun (i : Nat) => (i : Int) := by
  unfold rng
  rw [show ((n : Int) - 0).toNat = n by omega]
  exact List.map_congr_left fun i _ => Int.zero_add _
/-- items by their places -/
def itm {α : Type} (l : List α) (d : α) (i : Nat) : α := l.getD i d
theorem itm_get {α : Type} {l : List α} {d : α} {i : Nat} (h : i < l.length) : l[i]? = some (itm l d i) := by
  unfold itm
  rw [List.getD_eq_getElem?_getD, List.getElem?_eq_getElem h]; rfl
theorem ix_itm {α : Type} {l : List α} (d : α) {z : Int} {i : Nat} (e : z = i) (h : i < l.length) : ix l z = some (itm l d i) := by rw [e, ix_nat, itm_get h]
theorem itm_mem {α : Type} {l : List α} {d : α} {i : Nat} (h : i < l.length) : itm l d i ∈ l := List.mem_of_getElem? (itm_get h)
theorem as_range {α : Type} (l : List α) (d : α) : l = (List.range l.length).map (itm l d) := by
  apply List.ext_getElem?
  intro i
  by_cases h : i < l.length
  · rw [itm_get h, List.getElem?_map, List.getElem?_range h]; rfl
  · rw [List.getElem?_eq_none (by omega), List.getElem?_eq_none (by simp; omega)]
theorem ix_last {α : Type} (xs : List α) : ix xs (-1 : Int) = xs.getLast? := by
  unfold ix atI ixN
  rw [if_neg (by decide)]
  by_cases h : xs = []
  · subst h; rfl
  · have := List.length_pos_iff.mpr h
    rw [if_pos (by omega)]
    show xs[(-1 + (xs.length : Int)).toNat]? = _
    rw [show (-1 + (xs.length : Int)).toNat = xs.length - 1 by omega, List.getLast?_eq_getElem?]
end Mz

namespace Mz
open PySem PySem.Spec PyProof.Rows L2
open PySem.W (alike alikeAll dataLt dataLe keyToks keyToksAll)

/-! ### the order of data, for every kind -/
def enS : Str → PyData := .str
def enB : Bool → PyData := .bool
structure Lo {α : Type} (e : α → PyData) : Prop where
  al : ∀ a b, alike (e a) (e b) = true
  q : ∀ a b, PyData.eqv (e a) (e b) = true ↔ a = b
structure LoR {α : Type} (f : α → List PyData) : Prop where
  al : ∀ a b, alikeAll (f a) (f b) = true
  q : ∀ a b, PyData.eqvAll (f a) (f b) = true ↔ a = b
theorem lo_I : Lo enI := ⟨fun a b => by simp [enI, alike], fun a b => by simp [enI, PyData.eqv]⟩
theorem lo_S : Lo enS := ⟨fun a b => by simp [enS, alike], fun a b => by simp [enS, PyData.eqv]⟩
theorem lo_B : Lo enB := ⟨fun a b => by simp [enB, alike], fun a b => by simp [enB, PyData.eqv]⟩
section
variable {α β : Type} {e : α → PyData} {f : β → List PyData}
theorem lor_1 (h : Lo e) : LoR (en1 e) := ⟨fun a b => by simp [en1, alikeAll, h.al], fun a b => by simp [en1, PyData.eqvAll, h.q]⟩
theorem lor_C (h : Lo e) (g : LoR f) : LoR (enC e f) := ⟨fun a b => by simp [enC, alikeAll, h.al, g.al], fun a b => by
  simp only [enC, PyData.eqvAll, Bool.and_eq_true, h.q, g.q]
  exact ⟨fun z => Prod.ext z.1 z.2, fun z => by rw [z]; exact ⟨rfl, rfl⟩⟩⟩
theorem lo_T (g : LoR f) : Lo (enT f) := ⟨fun a b => by simp [enT, alike, g.al], fun a b => by simp [enT, PyData.eqv, g.q]⟩
theorem lo_L (h : Lo e) : Lo (enL e) := ⟨fun a b => by simp only [enL, alike]; exact alikeAll_map h.al a b, fun a b => by
  simp only [enL, PyData.eqv]
  induction a generalizing b with
  | nil => cases b <;> simp [PyData.eqvAll]
  | cons x a ih =>
    cases b with
    | nil => simp [PyData.eqvAll]
    | cons y b =>
      simp only [List.map_cons, PyData.eqvAll, Bool.and_eq_true, h.q, List.cons.injEq]
      exact and_congr_right fun _ => ih b⟩
def ltE (e : α → PyData) (a b : α) : Bool := dataLt (e a) (e b)
def ltR (f : β → List PyData) (a b : β) : Bool := PyProof.Rows.lexLt itemOrd (keyToksAll (f a)) (keyToksAll (f b))
theorem ltE_irr (a : α) : ltE e a a = false := lex_irrefl _
theorem ltE_trans {a b c : α} (h : ltE e a b = true) (k : ltE e b c = true) : ltE e a c = true := lex_trans _ _ _ h k
theorem ltE_neg {a b c : α} (h : ltE e a c = true) : ltE e a b = true ∨ ltE e b c = true := lex_negTrans _ _ _ h
theorem ltE_asym {a b : α} (h : ltE e a b = true) : ltE e b a = false := by
  cases q : ltE e b a with
  | false => rfl
  | true => have := ltE_trans h q; rw [ltE_irr] at this; cases this
/-- a is not greater than b -/
def leE (e : α → PyData) (a b : α) : Bool := !ltE e b a
theorem leE_iff {a b : α} : leE e a b = true ↔ ltE e b a = false := by unfold leE; cases ltE e b a <;> simp
theorem leE_refl (a : α) : leE e a a = true := leE_iff.mpr (ltE_irr a)
theorem leE_trans {a b c : α} (h : leE e a b = true) (k : leE e b c = true) : leE e a c = true := by
  rw [leE_iff] at *
  cases q : ltE e c a with
  | false => rfl
  | true => rcases ltE_neg (b := b) q with z | z <;> simp_all
theorem leE_total (a b : α) : leE e a b = true ∨ leE e b a = true := by
  rw [leE_iff, leE_iff]
  cases q : ltE e b a with
  | false => exact .inl rfl
  | true => exact .inr (ltE_asym q)
theorem Lo.anti (h : Lo e) {a b : α} (h1 : leE e a b = true) (h2 : leE e b a = true) : a = b := by
  rw [leE_iff] at *
  have t : keyToks (e b) = keyToks (e a) := lex_total _ _ h1 h2
  refine Classical.byContradiction fun n => ?_
  have z : PyData.eqv (e a) (e b) = false := by
    cases q : PyData.eqv (e a) (e b) with
    | false => rfl
    | true => exact absurd ((h.q a b).mp q) n
  have w := (PySem.W.toks_eqv (e a) (e b) (h.al a b)).2 z
  have w1 := w [.inl 0] [.inl 1]
  rw [t, PySem.W.lex_pre, lex_irrefl] at w1
  exact absurd w1 (by decide)
theorem ltE_of_le (h : Lo e) {a b : α} (h1 : leE e a b = true) (n : a ≠ b) : ltE e a b = true := by
  cases q : ltE e a b with
  | true => rfl
  | false => exact absurd (h.anti h1 (leE_iff.mpr q)) n
/-! ### how the order is reckoned -/
theorem ltE_I (a b : Int) : ltE enI a b = decide (a < b) := PySem.W.dataLt_int a b
theorem ltE_S (a b : Str) : ltE enS a b = decide (a.cps.toList < b.cps.toList) := PySem.W.dataLt_str a b
theorem ltE_T (a b : β) : ltE (enT f) a b = ltR f a b := PySem.W.dataLt_tuple _ _
theorem ltR_C [DecidableEq α] (h : Lo e) (a b : α × β) : ltR (enC e f) a b = if a.1 = b.1 then ltR f a.2 b.2 else ltE e a.1 b.1 := by
  show PyProof.Rows.lexLt itemOrd (keyToksAll (e a.1 :: f a.2)) (keyToksAll (e b.1 :: f b.2)) = _
  rw [PySem.W.dataLt_cons (h.al _ _)]
  by_cases q : a.1 = b.1
  · rw [if_pos q, if_pos ((h.q _ _).mpr q)]; rfl
  · rw [if_neg q, if_neg fun z => q ((h.q _ _).mp z)]; rfl
theorem ltR_1 (h : Lo e) (a b : α) : ltR (en1 e) a b = ltE e a b := by
  show PyProof.Rows.lexLt itemOrd (keyToksAll [e a]) (keyToksAll [e b]) = _
  rw [PySem.W.dataLt_cons (h.al _ _)]
  rcases Classical.em (a = b) with q | q
  · rw [if_pos ((h.q _ _).mpr q), q, ltE_irr]; exact lex_irrefl _
  · rw [if_neg fun z => q ((h.q _ _).mp z)]; rfl
theorem ltL_nn : ltE (enL e) [] [] = false := ltE_irr _
theorem ltL_nc (y : α) (ys : List α) : ltE (enL e) [] (y :: ys) = true := by
  show dataLt (.list []) (.list (e y :: ys.map e)) = true
  rw [PySem.W.dataLt_list, PySem.W.toks_all_cons]
  simp only [keyToksAll]
  rw [lex_diff (O := itemOrd) (by simp)]
  rfl
theorem ltL_cn (x : α) (xs : List α) : ltE (enL e) (x :: xs) [] = false := ltE_asym (ltL_nc x xs)
theorem ltL_cc [DecidableEq α] (h : Lo e) (x y : α) (xs ys : List α) : ltE (enL e) (x :: xs) (y :: ys) = if x = y then ltE (enL e) xs ys else ltE e x y := by
  show dataLt (.list (e x :: xs.map e)) (.list (e y :: ys.map e)) = _
  rw [PySem.W.dataLt_list, PySem.W.dataLt_cons (h.al _ _)]
  by_cases q : x = y
  · rw [if_pos q, if_pos ((h.q _ _).mpr q)]
    exact (PySem.W.dataLt_list _ _).symm
  · rw [if_neg q, if_neg fun z => q ((h.q _ _).mp z)]; rfl
/-! ### least, greatest, sorted -/
theorem foldMin : ∀ (t : List α) (x : α), (t.foldl (fun a y => if dataLt (e y) (e a) = true then y else a) x) ∈ x :: t ∧ ∀ y ∈ x :: t, leE e (t.foldl (fun a y => if dataLt (e y) (e a) = true then y else a) x) y = true
  | [], x => ⟨List.mem_cons_self, fun y hy => by rw [List.mem_singleton.mp hy]; exact leE_refl x⟩
  | z :: t, x => by
    obtain ⟨h1, h2⟩ := foldMin t (if dataLt (e z) (e x) = true then z else x)
    rw [List.foldl_cons]
    generalize t.foldl (fun a y => if dataLt (e y) (e a) = true then y else a) (if dataLt (e z) (e x) = true then z else x) = m at *
    have h3 := h2 _ List.mem_cons_self
    have hz : leE e m z = true ∧ leE e m x = true := by
      by_cases c : dataLt (e z) (e x) = true
      · rw [if_pos c] at h3
        exact ⟨h3, leE_trans h3 (leE_iff.mpr (ltE_asym c))⟩
      · rw [if_neg c] at h3
        exact ⟨leE_trans h3 (leE_iff.mpr (by simpa [ltE] using c)), h3⟩
    refine ⟨?_, fun y hy => ?_⟩
    · rcases List.mem_cons.mp h1 with h1 | h1
      · rw [h1]
        split
        · exact List.mem_cons_of_mem _ List.mem_cons_self
        · exact List.mem_cons_self
      · exact List.mem_cons_of_mem _ (List.mem_cons_of_mem _ h1)
    · rcases List.mem_cons.mp hy with rfl | hy
      · exact hz.2
      · rcases List.mem_cons.mp hy with rfl | hy
        · exact hz.1
        · exact h2 y (List.mem_cons_of_mem _ hy)
theorem foldMax : ∀ (t : List α) (x : α), (t.foldl (fun a y => if dataLt (e a) (e y) = true then y else a) x) ∈ x :: t ∧ ∀ y ∈ x :: t, leE e y (t.foldl (fun a y => if dataLt (e a) (e y) = true then y else a) x) = true
  | [], x => ⟨List.mem_cons_self, fun y hy => by rw [List.mem_singleton.mp hy]; exact leE_refl x⟩
  | z :: t, x => by
    obtain ⟨h1, h2⟩ := foldMax t (if dataLt (e x) (e z) = true then z else x)
    rw [List.foldl_cons]
    generalize t.foldl (fun a y => if dataLt (e a) (e y) = true then y else a) (if dataLt (e x) (e z) = true then z else x) = m at *
    have h3 := h2 _ List.mem_cons_self
    have hz : leE e z m = true ∧ leE e x m = true := by
      by_cases c : dataLt (e x) (e z) = true
      · rw [if_pos c] at h3
        exact ⟨h3, leE_trans (leE_iff.mpr (ltE_asym c)) h3⟩
      · rw [if_neg c] at h3
        exact ⟨leE_trans (leE_iff.mpr (by simpa [ltE] using c)) h3, h3⟩
    refine ⟨?_, fun y hy => ?_⟩
    · rcases List.mem_cons.mp h1 with h1 | h1
      · rw [h1]
        split
        · exact List.mem_cons_of_mem _ List.mem_cons_self
        · exact List.mem_cons_self
      · exact List.mem_cons_of_mem _ (List.mem_cons_of_mem _ h1)
    · rcases List.mem_cons.mp hy with rfl | hy
      · exact hz.2
      · rcases List.mem_cons.mp hy with rfl | hy
        · exact hz.1
        · exact h2 y (List.mem_cons_of_mem _ hy)
theorem minE_spec {xs : List α} (h : xs ≠ []) : ∃ m, minE e xs = some m ∧ m ∈ xs ∧ ∀ y ∈ xs, leE e m y = true := by
  cases xs with
  | nil => exact absurd rfl h
  | cons x t => exact ⟨_, rfl, foldMin t x⟩
theorem maxE_spec {xs : List α} (h : xs ≠ []) : ∃ m, maxE e xs = some m ∧ m ∈ xs ∧ ∀ y ∈ xs, leE e y m = true := by
  cases xs with
  | nil => exact absurd rfl h
  | cons x t => exact ⟨_, rfl, foldMax t x⟩
/-- the least is told: it is there, and none is less -/
theorem minE_eq (h : Lo e) {xs : List α} {m : α} (hm : m ∈ xs) (hl : ∀ y ∈ xs, leE e m y = true) : minE e xs = some m := by
  obtain ⟨k, k1, k2, k3⟩ := minE_spec (e := e) (xs := xs) (List.ne_nil_of_mem hm)
  rw [k1, h.anti (k3 m hm) (hl k k2)]
theorem maxE_eq (h : Lo e) {xs : List α} {m : α} (hm : m ∈ xs) (hl : ∀ y ∈ xs, leE e y m = true) : maxE e xs = some m := by
  obtain ⟨k, k1, k2, k3⟩ := maxE_spec (e := e) (xs := xs) (List.ne_nil_of_mem hm)
  rw [k1, h.anti (hl k k2) (k3 m hm)]
theorem srtE_le (xs : List α) : srtE e xs = xs.mergeSort (leE e) := rfl
theorem srtE_perm (xs : List α) : (srtE e xs).Perm xs := List.mergeSort_perm _ _
theorem srtE_sorted (xs : List α) : (srtE e xs).Pairwise fun a b => leE e a b = true := by
  rw [srtE_le]
  exact List.pairwise_mergeSort (le := leE e) (fun _ _ _ h k => leE_trans h k) (fun a b => by
    have := leE_total (e := e) a b
    simpa [Bool.or_eq_true] using this) xs
theorem mem_srtE {xs : List α} {x : α} : x ∈ srtE e xs ↔ x ∈ xs := (srtE_perm xs).mem_iff
/-- the one row in order -/
theorem sorted_one (h : Lo e) : ∀ {xs ys : List α}, xs.Perm ys → xs.Pairwise (fun a b => leE e a b = true) → ys.Pairwise (fun a b => leE e a b = true) → xs = ys := fun {xs ys} p h1 h2 =>
  p.eq_of_pairwise (fun a b _ _ k1 k2 => h.anti k1 k2) h1 h2
theorem srtE_eq (h : Lo e) {xs ys : List α} (p : ys.Perm xs) (hs : ys.Pairwise fun a b => leE e a b = true) : srtE e xs = ys := sorted_one h ((srtE_perm xs).trans p.symm) (srtE_sorted xs) hs
theorem srtE_perm_eq (h : Lo e) {xs ys : List α} (p : xs.Perm ys) : srtE e xs = srtE e ys := srtE_eq h ((srtE_perm ys).trans p.symm) (srtE_sorted ys)
end
end Mz

namespace Lw
open PySem PySem.Spec PyProof.Rows L2 Mz
/-! ### digits, draws -/
theorem cell_ok (s : List Int) (k : Int) (h : 0 ≤ k) : Ok (m__law_cell s k) fun _ => True := by
  unfold m__law_cell
  refine ok_if (fun c => ?_) fun _ => ok_some trivial
  exact ok_ix h (of_decide_eq_true c) fun x _ _ => ok_some trivial
def Dg (ds : List Int) : Prop := ∀ d ∈ ds, 0 ≤ d ∧ d < 1000
theorem dg_app {ds : List Int} {d : Int} (h : Dg ds) (h1 : 0 ≤ d) (h2 : d < 1000) : Dg (ds ++ [d]) := fun x hx => by
  rcases List.mem_append.mp hx with hx | hx
  · exact h x hx
  · rw [List.mem_singleton.mp hx]; exact ⟨h1, h2⟩
theorem digits_ok (s : List Int) (f l : Int) (h0 : 0 ≤ f) (h1 : f ≤ l) (h2 : l ≤ 1000) : Ok (m__law_digits s f l) fun ds => Dg ds ∧ ds.length ≤ 60 * (l - f).toNat := by
  unfold m__law_digits
  refine ok_lt (ok_rng (by omega) (by omega) (by omega) (by omega) (by omega) ?_)
  refine ok_lp (fun n (ds : List Int) => Dg ds ∧ ds.length ≤ 60 * n) ⟨(fun d hd => nomatch hd), Nat.le_refl _⟩ (fun i a ds ha ⟨g1, g2⟩ => ?_) (fun ds ⟨d1, d2⟩ => ok_some ⟨d1, by rw [rng_len] at d2; exact d2⟩)
  have hm := rng_mem (List.mem_of_getElem? ha)
  have hi := (rng_get ha).1
  refine ok_bind _ (cell_ok s a (by omega)) fun c _ => ?_
  refine ok_bind (fun _ => True) (ok_if (fun _ => ok_lt (ok_some trivial)) fun _ => ok_some trivial) fun c' _ => ?_
  refine ok_if (fun _ => ?_) fun _ => ok_lt ?_
  · refine ok_lp (fun n (t : List Int × Int) => Dg t.1 ∧ t.1.length ≤ ds.length + n) ⟨g1, Nat.le_refl _⟩ (fun j b t hb ⟨k1, k2⟩ => ?_) (fun t ⟨k1, k2⟩ => ok_some ⟨k1, by rw [rng_len] at k2; have : (60 - 0 : Int).toNat = 60 := rfl; omega⟩)
    have hj := (rng_get hb).1
    refine ok_if (fun _ => ok_app (by omega) (ok_lt (ok_some ⟨dg_app k1 (Int.emod_nonneg _ (by decide)) (Int.emod_lt_of_pos _ (by decide)), by simp; omega⟩))) fun _ => ok_some ⟨k1, by show t.1.length ≤ _; omega⟩
  · refine ok_lp (fun n (t : List Int × Int) => Dg t.1 ∧ t.1.length ≤ ds.length + n) ⟨g1, Nat.le_refl _⟩ (fun j b t hb ⟨k1, k2⟩ => ?_) (fun t ⟨k1, k2⟩ => ok_some ⟨k1, by rw [rng_len] at k2; have : (12 - 0 : Int).toNat = 12 := rfl; omega⟩)
    have hj := (rng_get hb).1
    exact ok_lt (ok_app (by omega) (ok_some ⟨dg_app k1 (Int.emod_nonneg _ (by decide)) (Int.emod_lt_of_pos _ (by decide)), by simp; omega⟩))
/-- a box from which is drawn -/
def Bx (b : List Int × Int) : Prop := 0 ≤ b.2
theorem bx0 (ds : List Int) : Bx (ds, 0) := Int.le_refl 0
theorem draw_ok {b : List Int × Int} {m : Int} (hb : Bx b) (hm : 0 < m) : Ok (m__law_draw b m) fun r => Bx r.2 ∧ 0 ≤ r.1 ∧ r.1 < m := by
  unfold Bx at hb
  unfold m__law_draw
  refine ok_lt (ok_if (fun _ => ok_mod hm fun v _ h1 h2 => ok_some ⟨?_, h1, h2⟩) fun c => ?_)
  · show 0 ≤ b.2 + 1; omega
  · have c' : b.2 + 1 ≤ (b.1.length : Int) := Int.not_lt.mp (of_decide_eq_false c)
    refine ok_ix (by show 0 ≤ b.2 + 1 - 1; omega) (by show b.2 + 1 - 1 < (b.1.length : Int); omega) fun x _ _ => ok_mod hm fun v _ h1 h2 => ok_some ⟨?_, h1, h2⟩
    show 0 ≤ b.2 + 1; omega
theorem pick_ok {α : Type} {b : List Int × Int} {row : List α} (hb : Bx b) (hr : row ≠ []) : Ok (m__law_pick b row) fun r => Bx r.2 ∧ r.1 ∈ row := by
  unfold m__law_pick
  have hl : 0 < row.length := List.length_pos_iff.mpr hr
  refine ok_bind _ (draw_ok hb (by decide)) fun t ht => ok_mod (by omega) fun v _ h1 h2 => ok_ix h1 h2 fun x hx _ => ok_some ⟨ht.1, hx⟩
/-! ### fractions -/
def Fr (t b : Int) : Int × Int := if b < 0 then (t / -gcdZ t b, b / -gcdZ t b) else (t / gcdZ t b, b / gcdZ t b)
theorem gcdZ_pos {t b : Int} (h : b ≠ 0) : 0 < gcdZ t b := by
  unfold gcdZ
  have h1 : 0 < Nat.gcd t.natAbs b.natAbs := Nat.gcd_pos_of_pos_right _ (by omega)
  omega
theorem gcdZ_le {t b : Int} (h : b ≠ 0) : gcdZ t b ≤ b.natAbs := by
  unfold gcdZ
  have h2 : Nat.gcd t.natAbs b.natAbs ≤ b.natAbs := Nat.gcd_le_right _ (by omega)
  omega
theorem gcdZ_dvd (t b : Int) : gcdZ t b ∣ t ∧ gcdZ t b ∣ b := by
  unfold gcdZ
  exact ⟨Int.ofNat_dvd_left.mpr (Nat.gcd_dvd_left _ _), Int.ofNat_dvd_left.mpr (Nat.gcd_dvd_right _ _)⟩
/-- in lowest terms, the bottom above 0 -/
def Low (p : Int × Int) : Prop := 0 < p.2 ∧ Nat.gcd p.1.natAbs p.2.natAbs = 1
theorem fr_spec {t b : Int} (h : b ≠ 0) : Low (Fr t b) ∧ (Fr t b).1 * b = t * (Fr t b).2 := by
  have hg := gcdZ_pos (t := t) h
  obtain ⟨⟨A, hA⟩, ⟨B, hB⟩⟩ := gcdZ_dvd t b
  have co : Nat.gcd A.natAbs B.natAbs = 1 := by
    have e : gcdZ t b = ((Nat.gcd t.natAbs b.natAbs : Nat) : Int) := rfl
    have e1 : t.natAbs = (Nat.gcd t.natAbs b.natAbs) * A.natAbs := by
      have := congrArg Int.natAbs hA
      rw [Int.natAbs_mul, e, Int.natAbs_natCast] at this
      exact this
    have e2 : b.natAbs = (Nat.gcd t.natAbs b.natAbs) * B.natAbs := by
      have := congrArg Int.natAbs hB
      rw [Int.natAbs_mul, e, Int.natAbs_natCast] at this
      exact this
    have e3 : Nat.gcd t.natAbs b.natAbs = Nat.gcd t.natAbs b.natAbs * Nat.gcd A.natAbs B.natAbs := by
      rw [← Nat.gcd_mul_left, ← e1, ← e2]
    have hp : 0 < Nat.gcd t.natAbs b.natAbs := by unfold gcdZ at hg; omega
    exact Nat.eq_of_mul_eq_mul_left hp (by rw [Nat.mul_one]; exact e3.symm)
  unfold Fr
  generalize gcdZ t b = g at *
  subst hA hB
  by_cases c : g * B < 0
  · have hB : B < 0 := by
      refine Int.not_le.mp fun z => ?_
      have := Int.mul_nonneg (Int.le_of_lt hg) z
      omega
    rw [if_pos c, Int.ediv_neg, Int.ediv_neg, Int.mul_ediv_cancel_left _ (by omega), Int.mul_ediv_cancel_left _ (by omega)]
    refine ⟨⟨?_, ?_⟩, ?_⟩
    · show 0 < -B; omega
    · show Nat.gcd (-A).natAbs (-B).natAbs = 1; rw [Int.natAbs_neg, Int.natAbs_neg]; exact co
    · show -A * (g * B) = g * A * -B; grind
  · have hB : 0 < B := by
      rcases Int.lt_trichotomy B 0 with z | z | z
      · have := Int.mul_neg_of_pos_of_neg hg z; omega
      · subst z; simp at h
      · exact z
    rw [if_neg c, Int.mul_ediv_cancel_left _ (by omega), Int.mul_ediv_cancel_left _ (by omega)]
    refine ⟨⟨hB, co⟩, ?_⟩
    show A * (g * B) = g * A * B; grind
theorem fr_abs {t b : Int} (h : b ≠ 0) : (Fr t b).1.natAbs ≤ t.natAbs ∧ (Fr t b).2.natAbs ≤ b.natAbs := by
  have key : ∀ x g : Int, (x / -g).natAbs ≤ x.natAbs ∧ (x / g).natAbs ≤ x.natAbs := fun x g => by
    constructor <;> exact Int.natAbs_ediv_le_natAbs _ _
  unfold Fr
  split
  · exact ⟨(key t _).1, (key b _).1⟩
  · exact ⟨(key t _).2, (key b _).2⟩
theorem fraction_ok {t b : Int} (h : b ≠ 0) (h1 : -10000000000000000000 ≤ b) (h2 : b ≤ 10000000000000000000) : m_fraction t b = some (Fr t b) := by
  have hg := gcdZ_pos (t := t) h
  have hg2 := gcdZ_le (t := t) h
  have div : ∀ x s : Int, s ≠ 0 → s.natAbs ≤ 10000000000000000000 → divO x s = some (x.fdiv s) := fun x s hs hl => by
    unfold divO
    rw [if_pos ⟨hs, Nat.lt_of_lt_of_le (small_log (Nat.lt_of_le_of_lt hl (by decide))) (by decide)⟩]
  have fd : ∀ x s : Int, s ∣ x → x.fdiv s = x / s := fun x s hs => Int.fdiv_eq_ediv_of_dvd hs
  obtain ⟨d1, d2⟩ := gcdZ_dvd t b
  unfold m_fraction Fr
  simp only [lt_eq]
  by_cases c : b < 0
  · rw [if_pos (decide_eq_true c), if_pos c, Option.bind_some]
    rw [div _ _ (by omega) (by omega), Option.bind_some, div _ _ (by omega) (by omega), Option.bind_some, fd _ _ (Int.neg_dvd.mpr d1), fd _ _ (Int.neg_dvd.mpr d2)]
  · rw [if_neg (by rw [decide_eq_false c]; exact Bool.false_ne_true), if_neg c, Option.bind_some]
    rw [div _ _ (by omega) (by omega), Option.bind_some, div _ _ (by omega) (by omega), Option.bind_some, fd _ _ d1, fd _ _ d2]
theorem mulO_big {a b : Int} (h1 : -10000000000000000000 ≤ a) (h2 : a ≤ 10000000000000000000) (h3 : -10000000000000000000 ≤ b) (h4 : b ≤ 10000000000000000000) : mulO a b = some (a * b) := if_pos (by
  unfold mulOk
  rw [decide_eq_true (show -(2 ^ 64) < a by omega), decide_eq_true (show a < 2 ^ 64 by omega), decide_eq_true (show -(2 ^ 64) < b by omega), decide_eq_true (show b < 2 ^ 64 by omega)]
  rfl)
/-- |a| <= n -/
def Ab (n : Nat) (a : Int) : Prop := a.natAbs ≤ n
theorem ab_mul {m n : Nat} {a b : Int} (h1 : Ab m a) (h2 : Ab n b) : Ab (m * n) (a * b) := by
  unfold Ab at *
  rw [Int.natAbs_mul]
  exact Nat.mul_le_mul h1 h2
theorem ab_add {m n : Nat} {a b : Int} (h1 : Ab m a) (h2 : Ab n b) : Ab (m + n) (a + b) := by unfold Ab at *; omega
theorem ab_sub {m n : Nat} {a b : Int} (h1 : Ab m a) (h2 : Ab n b) : Ab (m + n) (a - b) := by unfold Ab at *; omega
theorem mulO_ab {m n : Nat} {a b : Int} (h1 : Ab m a) (h2 : Ab n b) (hm : m ≤ 10000000000000000000 := by first | assumption | decide) (hn : n ≤ 10000000000000000000 := by first | assumption | decide) : mulO a b = some (a * b) := by
  unfold Ab at *
  exact mulO_big (by omega) (by omega) (by omega) (by omega)
theorem frac_ab {m n : Nat} {t b : Int} (h : b ≠ 0) (h1 : Ab m t) (h2 : Ab n b) (hn : n ≤ 10000000000000000000 := by first | assumption | decide) : m_fraction t b = some (Fr t b) ∧ Ab m (Fr t b).1 ∧ Ab n (Fr t b).2 := by
  unfold Ab at *
  have := fr_abs (t := t) h
  exact ⟨fraction_ok h (by omega) (by omega), by omega, by omega⟩

end Lw
namespace Lw
open PySem PySem.Spec PyProof.Rows L2 Mz
abbrev Pt := Int × Int
theorem ab_mono {m n : Nat} {a : Int} (h : Ab m a) (k : m ≤ n) : Ab n a := Nat.le_trans h k
/-! ### wide numbers -/
abbrev L90 : Nat := 1000000000000000000000000000000000000000000000000000000000000000000000000000000000000000000
abbrev E21 : Nat := 1000000000000000000000
theorem l90_log {a : Int} (h : Ab L90 a) : a.natAbs.log2 < 1920 := small_log (Nat.lt_of_le_of_lt h (by decide))
theorem mulO_aw {m n : Nat} {a b : Int} (h1 : Ab m a) (h2 : Ab n b) (hm : m ≤ L90 := by first | assumption | decide) (hn : n ≤ L90 := by first | assumption | decide) : mulO a b = some (a * b) := if_pos (by
  have x := l90_log (ab_mono h1 hm)
  have y := l90_log (ab_mono h2 hn)
  unfold mulOk
  rw [decide_eq_true (show a.natAbs.log2 + b.natAbs.log2 < 1000000 by omega), Bool.or_true])
theorem divO_w {x s : Int} (hs : s ≠ 0) (h : Ab L90 s) : divO x s = some (x.fdiv s) := by
  unfold divO
  rw [if_pos ⟨hs, Nat.lt_trans (l90_log h) (by decide)⟩]
theorem fraction_w {n : Nat} {t b : Int} (h : b ≠ 0) (h1 : Ab n b) (hn : n ≤ L90 := by first | assumption | decide) : m_fraction t b = some (Fr t b) := by
  have hg := gcdZ_pos (t := t) h
  have hg2 := gcdZ_le (t := t) h
  have hb := ab_mono h1 hn
  have fd : ∀ x s : Int, s ∣ x → x.fdiv s = x / s := fun x s hs => Int.fdiv_eq_ediv_of_dvd hs
  have ag : Ab L90 (gcdZ t b) := by unfold Ab at *; omega
  have an : Ab L90 (-gcdZ t b) := by unfold Ab at *; omega
  obtain ⟨d1, d2⟩ := gcdZ_dvd t b
  unfold m_fraction Fr
  simp only [lt_eq]
  by_cases c : b < 0
  · rw [if_pos (decide_eq_true c), if_pos c, Option.bind_some]
    rw [divO_w (by omega) an, Option.bind_some, divO_w (by omega) an, Option.bind_some, fd _ _ (Int.neg_dvd.mpr d1), fd _ _ (Int.neg_dvd.mpr d2)]
  · rw [if_neg (by rw [decide_eq_false c]; exact Bool.false_ne_true), if_neg c, Option.bind_some]
    rw [divO_w (by omega) ag, Option.bind_some, divO_w (by omega) ag, Option.bind_some, fd _ _ d1, fd _ _ d2]
theorem fr_ab {m n : Nat} {t b : Int} (h : b ≠ 0) (h1 : Ab m t) (h2 : Ab n b) : Ab m (Fr t b).1 ∧ Ab n (Fr t b).2 := by
  have := fr_abs (t := t) h
  unfold Ab at *
  omega
/-! ### greatest common parts in 400 turns -/
theorem absZ_nat (x : Int) : absZ x = (x.natAbs : Int) := by unfold absZ; split <;> omega
theorem mod_half (b r : Nat) (hr : 0 < r) (hb : r < b) : 2 * (b % r) < b := by
  have h1 := Nat.mod_lt b hr
  have h2 := Nat.div_add_mod b r
  have h3 : 1 ≤ b / r := (Nat.le_div_iff_mul_le hr).mpr (by omega)
  have h4 : r * 1 ≤ r * (b / r) := Nat.mul_le_mul_left r h3
  omega
abbrev bfG {β : Type} : Int → Int × Int → Option (Ctl (Int × Int) β) := fun (a4 : Int) (s3 : (Int × Int)) =>
      if (decide (s3.2 = (0 : Int))) = true then
        some (Ctl.brk (s3.1, s3.2))
      else
      (modO s3.1 s3.2).bind fun t7 =>
      some (Ctl.next (s3.2, t7))
theorem bfG_zero {β : Type} (i : Int) (a : Nat) : bfG (β := β) i ((a : Int), 0) = some (.brk ((a : Int), 0)) := rfl
theorem bfG_step {β : Type} (i : Int) (a b : Nat) (h : b ≠ 0) : bfG (β := β) i ((a : Int), (b : Int)) = some (.next ((b : Int), ((a % b : Nat) : Int))) := by
  unfold bfG
  rw [if_neg (by rw [decide_eq_false (show ¬ (b : Int) = 0 by omega)]; exact Bool.false_ne_true)]
  obtain ⟨v, e1, e2, _, _⟩ := modO_pos (i := (a : Int)) (j := (b : Int)) (by omega)
  dsimp only
  rw [e1, e2]
  rfl
theorem lpC_gcd {β : Type} : ∀ (k : Nat) (a b : Nat) (as : List Int), b < 2 ^ k → 2 * k + 1 ≤ as.length → ∃ q, lpC (bfG (β := β)) as ((a : Int), (b : Int)) = some (.next ((Nat.gcd a b : Nat), q))
  | 0, a, b, as, hb, hl => by
    have : b = 0 := by simpa using hb
    subst this
    match as, hl with
    | i :: as, hl => exact ⟨0, by rw [Nat.gcd_zero_right]; rfl⟩
  | k + 1, a, b, as, hb, hl => by
    match as, hl with
    | i :: j :: as, hl =>
      by_cases z : b = 0
      · subst z
        exact ⟨0, by rw [Nat.gcd_zero_right]; rfl⟩
      have e1 : lpC (bfG (β := β)) (i :: j :: as) ((a : Int), (b : Int)) = lpC (bfG (β := β)) (j :: as) ((b : Int), ((a % b : Nat) : Int)) := by
        show (bfG i _).bind _ = _
        rw [bfG_step i a b z]; rfl
      have eg : Nat.gcd a b = Nat.gcd b (a % b) := by rw [Nat.gcd_comm b, ← Nat.gcd_rec, Nat.gcd_comm]
      rw [e1, eg]
      have hr := Nat.mod_lt a (show 0 < b by omega)
      generalize a % b = r at *
      by_cases z2 : r = 0
      · subst z2
        exact ⟨0, by rw [Nat.gcd_zero_right]; rfl⟩
      have e2 : lpC (bfG (β := β)) (j :: as) ((b : Int), (r : Int)) = lpC (bfG (β := β)) as ((r : Int), ((b % r : Nat) : Int)) := by
        show (bfG j _).bind _ = _
        rw [bfG_step j b r z2]; rfl
      have eg2 : Nat.gcd b r = Nat.gcd r (b % r) := by rw [Nat.gcd_comm r, ← Nat.gcd_rec, Nat.gcd_comm]
      rw [e2, eg2]
      have := mod_half b r (by omega) hr
      exact lpC_gcd k r (b % r) as (by rw [Nat.pow_succ] at hb; omega) (by simp only [List.length_cons] at hl; omega)

theorem low_ok {n : Nat} {t b : Int} (hb : b ≠ 0) (h1 : Ab n b) (hn : n ≤ 1000000 := by first | assumption | decide) : m__law_low t b = some (Fr t b) := by
  have hb2 : b.natAbs ≤ 1000000 := Nat.le_trans h1 hn
  have hg := gcdZ_pos (t := t) hb
  have hg2 := gcdZ_le (t := t) hb
  have fd : ∀ x s : Int, s ∣ x → x.fdiv s = x / s := fun x s hs => Int.fdiv_eq_ediv_of_dvd hs
  have hL : Ab L90 b := ab_mono h1 (Nat.le_trans hn (by decide))
  have ag : Ab L90 (gcdZ t b) := by unfold Ab at *; omega
  have an : Ab L90 (-gcdZ t b) := by unfold Ab at *; omega
  obtain ⟨d1, d2⟩ := gcdZ_dvd t b
  unfold m__law_low Fr
  rw [lt_eq, lt_eq, absZ_nat, absZ_nat]
  obtain ⟨q, e⟩ := lpC_gcd (β := Int × Int) 199 t.natAbs b.natAbs (rng 0 400) (Nat.lt_of_le_of_lt hb2 (by decide)) (by rw [rng_len]; decide)
  refine (congrArg (fun o => Option.bind o _) (show lpC (β := Int × Int) _ (rng 0 400) ((t.natAbs : Int), (b.natAbs : Int)) = _ from e)).trans ?_
  show Option.bind (if decide (b < 0) = true then lt (-gcdZ t b) _ else some (gcdZ t b)) _ = _
  by_cases c : b < 0
  · rw [if_pos (decide_eq_true c), if_pos c, lt_eq, Option.bind_some]
    rw [divO_w (by omega) an, Option.bind_some, divO_w (by omega) an, Option.bind_some, fd _ _ (Int.neg_dvd.mpr d1), fd _ _ (Int.neg_dvd.mpr d2)]
  · rw [if_neg (by rw [decide_eq_false c]; exact Bool.false_ne_true), if_neg c, Option.bind_some]
    rw [divO_w (by omega) ag, Option.bind_some, divO_w (by omega) ag, Option.bind_some, fd _ _ d1, fd _ _ d2]
/-! ### places beside one -/
abbrev Dq := List (Pt × Int)
def nbr (p : Pt) : List Pt := [(p.1 + 1, p.2), (p.1 + 1, p.2 - 1), (p.1, p.2 - 1), (p.1 - 1, p.2), (p.1 - 1, p.2 + 1), (p.1, p.2 + 1)]
theorem near_ok (p : Pt) : m__law_near p = some (nbr p) := rfl
def stp (a : Int) : Pt := (c_STEPS[a.toNat]?).getD (0, 0)
theorem stp_ok : ∀ a ∈ rng 0 6, ix c_STEPS a = some (stp a) ∧ (-1 ≤ (stp a).1 ∧ (stp a).1 ≤ 1) ∧ -1 ≤ (stp a).2 ∧ (stp a).2 ≤ 1 := by decide
theorem beside_ok (p : Pt) : m_beside p = some (nbr p) := by
  unfold m_beside
  rw [lcO_of (g := fun a => (p.1 + (stp a).1, p.2 + (stp a).2)) fun a ha => by
    obtain ⟨h1, h2, h3⟩ := stp_ok a ha
    unfold m_moved
    rw [h1, Option.bind_some, mulO_ok (by omega) (by omega) (by decide) (by decide), Option.bind_some, Option.bind_some, mulO_ok (by omega) (by omega) (by decide) (by decide), Option.bind_some, Option.bind_some, Int.mul_one, Int.mul_one], Option.bind_some]
  rw [show rng 0 6 = [0, 1, 2, 3, 4, 5] from by decide]
  simp [stp, c_STEPS, nbr, Int.sub_eq_add_neg]
theorem nbr_map (p : Pt) : nbr p = (nbr (0, 0)).map fun q => (p.1 + q.1, p.2 + q.2) := by simp [nbr, Int.sub_eq_add_neg]
theorem nbr_nd (p : Pt) : (nbr p).Nodup := by
  rw [nbr_map]
  unfold List.Nodup
  rw [List.pairwise_map]
  have h : (nbr (0, 0)).Nodup := by decide
  refine h.imp fun {x y} hn hc => hn ?_
  have h1 := congrArg Prod.fst hc
  have h2 := congrArg Prod.snd hc
  simp only at h1 h2
  exact Prod.ext (by omega) (by omega)
theorem nbr_sym {p q : Pt} (h : q ∈ nbr p) : p ∈ nbr q := by
  have key : ∀ a b c d : Int, ((a, b) : Pt) ∈ nbr (c, d) → ((c, d) : Pt) ∈ nbr (a, b) := fun a b c d h => by
    simp only [nbr, List.mem_cons, Prod.mk.injEq, List.not_mem_nil, or_false] at h ⊢
    omega
  exact key q.1 q.2 p.1 p.2 h
/-! ### the search -/
abbrev ks (D : Dq) : List Pt := D.map fun e => e.1
theorem dgt_none {D : Dq} {q : Pt} : dgt D q = none ↔ q ∉ ks D := by
  unfold dgt
  rw [Option.map_eq_none_iff, List.find?_eq_none]
  constructor
  · intro h z
    obtain ⟨e, he, rfl⟩ := List.mem_map.mp z
    exact h e he (decide_eq_true rfl)
  · intro h e he z
    exact h (List.mem_map.mpr ⟨e, he, of_decide_eq_true z⟩)
theorem dgt_some {D : Dq} {q : Pt} : (!(dgt D q).isSome) = decide (q ∉ ks D) := by
  by_cases c : q ∈ ks D
  · rw [decide_eq_false (by simpa using c)]
    cases e : dgt D q with
    | none => exact absurd c (dgt_none.mp e)
    | some v => rfl
  · rw [decide_eq_true c, dgt_none.mpr c]; rfl
theorem dgt_at : ∀ {D : Dq} {i : Nat} {e : Pt × Int}, (ks D).Nodup → D[i]? = some e → dgt D e.1 = some e.2
  | [], _, _, _, h => by simp at h
  | d :: D, 0, e, nd, h => by
    cases h
    exact dgt_pos rfl
  | d :: D, i + 1, e, nd, h => by
    have h : D[i]? = some e := h
    have nd : (d.1 :: ks D).Nodup := nd
    obtain ⟨n1, n2⟩ := List.nodup_cons.mp nd
    rw [dgt_neg (fun z => n1 (by rw [z]; exact List.mem_map.mpr ⟨e, List.mem_of_getElem? h, rfl⟩))]
    exact dgt_at n2 h
def nw (L : List Pt) (W : List Pt) (p : Pt) : List Pt := (nbr p).filter fun q => decide (q ∈ L) && decide (q ∉ W)
def exq (L : List Pt) (D : Dq) (p : Pt) (v : Int) : Dq := D ++ (nw L (ks D) p).map fun q => (q, v)
def qs (L : List Pt) (s : Pt) : Nat → Dq
  | 0 => [(s, 0)]
  | n + 1 => match (qs L s n)[n]? with
    | none => qs L s n
    | some e => exq L (qs L s n) e.1 (e.2 + 1)
theorem ks_exq {L : List Pt} {D : Dq} {p : Pt} {v : Int} : ks (exq L D p v) = ks D ++ nw L (ks D) p := by
  unfold exq ks
  rw [List.map_append, List.map_map]
  congr 1
  exact List.map_id _
section
variable {L : List Pt} {s : Pt}
theorem qs_some {n : Nat} {e : Pt × Int} (h : (qs L s n)[n]? = some e) : qs L s (n + 1) = exq L (qs L s n) e.1 (e.2 + 1) := by rw [qs, h]
theorem qs_none {n : Nat} (h : (qs L s n).length ≤ n) : qs L s (n + 1) = qs L s n := by rw [qs, List.getElem?_eq_none h]
theorem qs_pre1 (n : Nat) : ∃ t, qs L s (n + 1) = qs L s n ++ t := by
  rcases Nat.lt_or_ge n (qs L s n).length with h | h
  · rw [qs_some (List.getElem?_eq_getElem h)]
    exact ⟨_, rfl⟩
  · exact ⟨[], by rw [qs_none h, List.append_nil]⟩
theorem qs_pre {n m : Nat} (h : n ≤ m) : ∃ t, qs L s m = qs L s n ++ t := by
  induction h with
  | refl => exact ⟨[], by rw [List.append_nil]⟩
  | step _ ih =>
    obtain ⟨t, e⟩ := ih
    obtain ⟨u, f⟩ := qs_pre1 (L := L) (s := s) _
    exact ⟨t ++ u, by rw [f, e, List.append_assoc]⟩
theorem qs_get {n m i : Nat} {e : Pt × Int} (h : n ≤ m) (g : (qs L s n)[i]? = some e) : (qs L s m)[i]? = some e := by
  obtain ⟨t, f⟩ := qs_pre (L := L) (s := s) h
  rw [f, List.getElem?_append_left (List.getElem?_eq_some_iff.mp g).1]
  exact g
theorem qs_len {n m : Nat} (h : n ≤ m) : (qs L s n).length ≤ (qs L s m).length := by
  obtain ⟨t, f⟩ := qs_pre (L := L) (s := s) h
  rw [f, List.length_append]; omega
theorem qs_ok (hs : s ∈ L) : ∀ n, (ks (qs L s n)).Nodup ∧ ∀ q ∈ ks (qs L s n), q ∈ L
  | 0 => ⟨by simp [qs], fun q hq => by rw [List.mem_singleton.mp hq]; exact hs⟩
  | n + 1 => by
    obtain ⟨h1, h2⟩ := qs_ok hs n
    rcases Nat.lt_or_ge n (qs L s n).length with h | h
    · rw [qs_some (List.getElem?_eq_getElem h), ks_exq]
      refine ⟨List.nodup_append.mpr ⟨h1, (nbr_nd _).sublist List.filter_sublist, fun a ha b hb z => ?_⟩, fun q hq => ?_⟩
      · subst z
        have := (List.mem_filter.mp hb).2
        rw [Bool.and_eq_true, decide_eq_true_iff, decide_eq_true_iff] at this
        exact this.2 ha
      · rcases List.mem_append.mp hq with hq | hq
        · exact h2 q hq
        · have := (List.mem_filter.mp hq).2
          rw [Bool.and_eq_true, decide_eq_true_iff] at this
          exact this.1
    · rw [qs_none h]; exact ⟨h1, h2⟩
theorem qs_le (hs : s ∈ L) (n : Nat) : (qs L s n).length ≤ L.length := by
  obtain ⟨h1, h2⟩ := qs_ok hs n
  have := h1.length_le_of_subset (l₂ := L) fun q hq => h2 q hq
  rw [List.length_map] at this
  exact this
def Fin' (L : List Pt) (s : Pt) (a : Nat) : Prop := ∀ m, a ≤ m → qs L s m = qs L s a
theorem fin_of {a : Nat} (h : (qs L s a).length ≤ a) : Fin' L s a := fun m hm => by
  induction hm with
  | refl => rfl
  | step hm ih => rw [qs_none (by rw [ih]; exact Nat.le_trans h hm), ih]
theorem fin_full (hs : s ∈ L) {a : Nat} (h : L.length ≤ (qs L s a).length) : Fin' L s a := fun m hm => by
  obtain ⟨t, e⟩ := qs_pre (L := L) (s := s) hm
  have h1 := qs_le hs m
  rw [e, List.length_append] at h1
  have : t = [] := List.eq_nil_of_length_eq_zero (by omega)
  rw [e, this, List.append_nil]
/-- the last state of the search -/
abbrev fin (L : List Pt) (s : Pt) : Dq := qs L s L.length
theorem fin_is (hs : s ∈ L) {a : Nat} (ha : a ≤ L.length) (h : Fin' L s a) : qs L s a = fin L s := (h _ ha).symm
theorem qs_closed (hs : s ∈ L) : ∀ (n i : Nat) (e : Pt × Int), i < n → (qs L s n)[i]? = some e → ∀ q ∈ nbr e.1, q ∈ L → q ∈ ks (qs L s n)
  | 0, i, e, h, _, _, _, _ => absurd h (Nat.not_lt_zero i)
  | n + 1, i, e, h, g, q, hq, hL => by
    obtain ⟨t, f⟩ := qs_pre1 (L := L) (s := s) n
    have up : ∀ q ∈ ks (qs L s n), q ∈ ks (qs L s (n + 1)) := fun q hq => by
      rw [f]
      show q ∈ List.map _ (_ ++ t)
      rw [List.map_append]
      exact List.mem_append_left _ hq
    rcases Nat.lt_or_ge n (qs L s n).length with c | c
    · by_cases z : i = n
      · subst z
        have g0 := List.getElem?_eq_getElem c
        have := qs_get (L := L) (s := s) (Nat.le_succ i) g0
        rw [this] at g
        cases g
        rw [qs_some g0, ks_exq]
        by_cases w : q ∈ ks (qs L s i)
        · exact List.mem_append_left _ w
        · exact List.mem_append_right _ (List.mem_filter.mpr ⟨hq, by rw [Bool.and_eq_true, decide_eq_true_iff, decide_eq_true_iff]; exact ⟨hL, w⟩⟩)
      · have hi : i < n := by omega
        have g0 := List.getElem?_eq_getElem (show i < (qs L s n).length by omega)
        have := qs_get (L := L) (s := s) (Nat.le_succ n) g0
        rw [this] at g
        cases g
        exact up q (qs_closed hs n i _ hi g0 q hq hL)
    · rw [qs_none c] at g ⊢
      have hi : i < n := by have := (List.getElem?_eq_some_iff.mp g).1; omega
      exact qs_closed hs n i e hi g q hq hL
theorem fin_closed (hs : s ∈ L) {p q : Pt} (hp : p ∈ ks (fin L s)) (hq : q ∈ nbr p) (hL : q ∈ L) : q ∈ ks (fin L s) := by
  obtain ⟨e, he, rfl⟩ := List.mem_map.mp hp
  obtain ⟨i, hi⟩ := List.mem_iff_getElem?.mp he
  have h1 := (List.getElem?_eq_some_iff.mp hi).1
  exact qs_closed hs L.length i e (Nat.lt_of_lt_of_le h1 (qs_le hs L.length)) hi q hq hL
theorem fin_start (hs : s ∈ L) : s ∈ ks (fin L s) := by
  obtain ⟨t, e⟩ := qs_pre (L := L) (s := s) (Nat.zero_le L.length)
  unfold fin
  rw [e]
  exact List.mem_cons_self
/-- the search within a closed part -/
theorem qs_part {M : List Pt} (hM : ∀ q ∈ M, q ∈ L) (cl : ∀ p ∈ M, ∀ q ∈ nbr p, q ∈ L → q ∈ M) (hs : s ∈ M) : ∀ n, qs M s n = qs L s n
  | 0 => rfl
  | n + 1 => by
    have ih := qs_part hM cl hs n
    rcases Nat.lt_or_ge n (qs L s n).length with h | h
    · have g := List.getElem?_eq_getElem h
      rw [qs_some g, qs_some (L := M) (by rw [ih]; exact g), ih]
      unfold exq
      congr 2
      unfold nw
      refine List.filter_congr fun q hq => ?_
      congr 1
      refine decide_eq_decide.mpr ⟨hM q, fun hL => ?_⟩
      have := (qs_ok hs n).2 (qs L s n)[n].1 (by rw [ih]; exact List.mem_map.mpr ⟨_, List.getElem_mem h, rfl⟩)
      exact cl _ this q hq hL
    · rw [qs_none h, qs_none (by rw [ih]; exact h), ih]
end
/-! ### the loops -/
abbrev cnd (L : List Pt) (D : Dq) (q : Pt) : Bool := decide (q ∈ L) && !(dgt D q).isSome
theorem cnd_eq {L : List Pt} {D : Dq} {q : Pt} : cnd L D q = (decide (q ∈ L) && decide (q ∉ ks D)) := by
  show (_ && !(dgt D q).isSome) = _
  rw [dgt_some]
theorem lp_new {L : List Pt} {v : Int} {f : Pt → Dq × List Pt → Option (Dq × List Pt)} (P : Dq → Prop) (hP : ∀ D a, P D → dgt D a = none → P (D ++ [(a, v)])) (hf : ∀ a (s : Dq × List Pt), P s.1 → s.1.length ≤ 1000 → s.2.length ≤ 1000 → f a s = if cnd L s.1 a = true then some (s.1 ++ [(a, v)], s.2 ++ [a]) else some s) :
    ∀ (N : List Pt) (s : Dq × List Pt), N.Nodup → P s.1 → s.1.length + N.length ≤ 1000 → s.2.length + N.length ≤ 1000 → lp f N s = some (s.1 ++ (N.filter (cnd L s.1)).map (fun q => (q, v)), s.2 ++ N.filter (cnd L s.1))
  | [], s, _, _, _, _ => by simp [lp]
  | a :: N, s, nd, hp, h1, h2 => by
    obtain ⟨n1, n2⟩ := List.nodup_cons.mp nd
    rw [List.length_cons] at h1 h2
    show (f a s).bind _ = _
    rw [hf a s hp (by omega) (by omega), List.filter_cons]
    by_cases c : cnd L s.1 a = true
    · rw [if_pos c, if_pos c, Option.bind_some]
      have hn : dgt s.1 a = none := by
        have := c
        rw [cnd_eq, Bool.and_eq_true, decide_eq_true_iff, decide_eq_true_iff] at this
        exact dgt_none.mpr this.2
      rw [lp_new P hP hf N (s.1 ++ [(a, v)], s.2 ++ [a]) n2 (hP _ _ hp hn) (by rw [List.length_append, List.length_singleton]; omega) (by rw [List.length_append, List.length_singleton]; omega)]
      have e : N.filter (cnd L (s.1 ++ [(a, v)])) = N.filter (cnd L s.1) := List.filter_congr fun q hq => by
        show (_ && !(dgt (s.1 ++ [(a, v)]) q).isSome) = _
        rw [dgt_snoc a q v s.1 hn, if_neg fun z => n1 (by rw [← z]; exact hq)]
      simp only [e]
      rw [List.map_cons, List.append_assoc, List.append_assoc]
      rfl
    · rw [if_neg c, if_neg c, Option.bind_some]
      exact lp_new P hP hf N s n2 hp (by omega) (by omega)
theorem filt_nw {L : List Pt} {D : Dq} {p : Pt} : (nbr p).filter (cnd L D) = nw L (ks D) p := List.filter_congr fun q _ => cnd_eq
noncomputable abbrev lf1 (L : List Pt) (v : Int) : Pt → Dq × List Pt → Option (Dq × List Pt) := fun (a20 : (Int × Int)) (s19 : ((List ((Int × Int) × Int)) × (List (Int × Int)))) =>
              if ((decide (a20 ∈ L)) && (!(dgt s19.1 a20).isSome)) = true then
                (dpo s19.1 a20 v).bind fun found24 =>
                (appO s19.2 a20).bind fun fresh25 =>
                some (found24, fresh25)
              else
              some (s19.1, s19.2)
theorem dpo_new {D : Dq} {a : Pt} {v : Int} (h : dgt D a = none) (hl : D.length ≤ 1000) : dpo D a v = some (D ++ [(a, v)]) := by
  unfold dpo
  rw [if_pos (by omega), dpt_new v h]
theorem law_new {L : List Pt} {D : Dq} {W : List Pt} {p : Pt} {v : Int} (h1 : D.length ≤ 900) (h2 : W.length ≤ 900) : lp (lf1 L v) (nbr p) (D, W) = some (exq L D p v, W ++ nw L (ks D) p) := by
  have hn : (nbr p).length = 6 := rfl
  rw [lp_new (L := L) (v := v) (fun _ => True) (fun _ _ _ _ => trivial) (fun a s _ k1 k2 => ?_) (nbr p) (D, W) (nbr_nd p) trivial (by show D.length + _ ≤ _; omega) (by show W.length + _ ≤ _; omega), filt_nw]
  · rfl
  · show (if cnd L s.1 a = true then _ else _) = _
    by_cases c : cnd L s.1 a = true
    · rw [if_pos c, if_pos c]
      have hn : dgt s.1 a = none := by
        rw [cnd_eq, Bool.and_eq_true, decide_eq_true_iff, decide_eq_true_iff] at c
        exact dgt_none.mpr c.2
      rw [dpo_new hn k1, Option.bind_some, appO_ok (by omega), Option.bind_some]
    · rw [if_neg c, if_neg c]
section
variable {L : List Pt} {s : Pt}
noncomputable abbrev lf2 (L : List Pt) (v : Int) : Pt → Dq × List Pt → Option (Dq × List Pt) := fun (a15 : (Int × Int)) (s14 : ((List ((Int × Int) × Int)) × (List (Int × Int)))) =>
          (m__law_near a15).bind fun t18 =>
          (lp (lf1 L v) t18 (s14.1, s14.2)).bind fun s26 =>
          some (s26.1, s26.2)
/-- one round: all that came last -/
theorem law_round (hs : s ∈ L) (hL : L.length ≤ 100) {a : Nat} {v : Int} (hv : ∀ i e, a ≤ i → (qs L s a)[i]? = some e → e.2 + 1 = v) (ha : a ≤ (qs L s a).length) : lp (lf2 L v) ((ks (qs L s a)).drop a) (qs L s a, []) = some (qs L s (qs L s a).length, (ks (qs L s (qs L s a).length)).drop (qs L s a).length) := by
  have hk : (ks (qs L s a)).length = (qs L s a).length := List.length_map _
  obtain ⟨r, e, hr⟩ := lp_inv (f := lf2 L v) (fun i (r : Dq × List Pt) => r = (qs L s (a + i), (ks (qs L s (a + i))).drop (qs L s a).length)) (as := (ks (qs L s a)).drop a) (s := (qs L s a, [])) 0 (by
    show _ = (qs L s (a + 0), (ks (qs L s (a + 0))).drop (qs L s a).length)
    rw [Nat.add_zero, List.drop_eq_nil_of_le (by omega)]) fun i p r hp hr => by
    rw [Nat.zero_add] at hr ⊢
    subst hr
    rw [List.getElem?_drop, List.getElem?_map] at hp
    obtain ⟨e, he, rfl⟩ := Option.map_eq_some_iff.mp hp
    have g := qs_get (L := L) (s := s) (show a ≤ a + i by omega) he
    have hv' := hv (a + i) e (by omega) he
    have l1 := qs_le hs (a + i)
    refine ⟨_, ?_, by rw [show a + (i + 1) = a + i + 1 by omega]⟩
    show Option.bind (m__law_near e.1) _ = _
    rw [near_ok, Option.bind_some]
    show Option.bind (lp (lf1 L v) (nbr e.1) (qs L s (a + i), (ks (qs L s (a + i))).drop (qs L s a).length)) _ = _
    rw [law_new (by omega) (by rw [List.length_drop, List.length_map]; omega), Option.bind_some, qs_some g, hv']
    congr 2
    rw [ks_exq, List.drop_append_of_le_length (by rw [List.length_map]; exact qs_len (by omega))]
  rw [e, hr, Nat.zero_add, List.length_drop, hk, show a + ((qs L s a).length - a) = (qs L s a).length by omega]
def lv (L : List Pt) (s : Pt) : Nat → Nat
  | 0 => 0
  | k + 1 => (qs L s (lv L s k)).length
theorem lv_le (k : Nat) : lv L s k ≤ (qs L s (lv L s k)).length := by
  induction k with
  | zero => exact Nat.zero_le _
  | succ k ih =>
    show (qs L s (lv L s k)).length ≤ (qs L s (qs L s (lv L s k)).length).length
    exact qs_len ih
theorem lv_max (hs : s ∈ L) (k : Nat) : lv L s k ≤ L.length := by
  cases k with
  | zero => exact Nat.zero_le _
  | succ k => exact qs_le hs _
theorem lv_fin (k : Nat) : Fin' L s (lv L s k) ∨ (k + 1 ≤ (qs L s (lv L s k)).length) := by
  induction k with
  | zero => exact .inr (by show 1 ≤ 1; omega)
  | succ k ih =>
    have h1 := lv_le (L := L) (s := s) k
    rcases Nat.lt_or_ge (lv L s (k + 1)) (qs L s (lv L s (k + 1))).length with c | c
    · rcases ih with f | f
      · left
        have e : lv L s (k + 1) = (qs L s (lv L s k)).length := rfl
        intro m hm
        rw [f m (by rw [e] at hm; exact Nat.le_trans h1 hm), f (lv L s (k + 1)) (by rw [e]; exact h1)]
      · right
        have e : lv L s (k + 1) = (qs L s (lv L s k)).length := rfl
        omega
    · exact .inl (fin_of c)
/-- the values of a round -/
theorem lv_val : ∀ (k i : Nat) (e : Pt × Int), lv L s k ≤ i → (qs L s (lv L s k))[i]? = some e → e.2 = (k : Int)
  | 0, i, e, _, h => by
    have h : [(s, (0 : Int))][i]? = some e := h
    cases i with
    | zero => cases h; rfl
    | succ i => simp at h
  | k + 1, i, e, hi, h => by
    have ih := lv_val k
    have key : ∀ n, lv L s k ≤ n → n ≤ (qs L s (lv L s k)).length → ∀ i e, (qs L s (lv L s k)).length ≤ i → (qs L s n)[i]? = some e → e.2 = ((k + 1 : Nat) : Int) := fun n hn => by
      induction hn with
      | refl => intro _ i e h1 h2; have := (List.getElem?_eq_some_iff.mp h2).1; omega
      | @step n hn ihn =>
        intro h1 i e h2 h3
        have hn : lv L s k ≤ n := hn
        have hlt : n < (qs L s (lv L s k)).length := h1
        have g0 := List.getElem?_eq_getElem hlt
        have g := qs_get (L := L) (s := s) hn g0
        rw [qs_some g] at h3
        unfold exq at h3
        by_cases c : i < (qs L s n).length
        · rw [List.getElem?_append_left c] at h3
          exact ihn (Nat.le_of_lt h1) i e h2 h3
        · rw [List.getElem?_append_right (by omega), List.getElem?_map] at h3
          obtain ⟨q, _, rfl⟩ := Option.map_eq_some_iff.mp h3
          have := ih n _ hn g0
          show _ + 1 = _
          omega
    exact key _ (lv_le k) (Nat.le_refl _) i e hi h
theorem steps_ok (hs : s ∈ L) (hL : L.length ≤ 100) : m__law_steps L s = some (fin L s) := by
  have h0 : 0 < L.length := List.length_pos_iff.mpr (List.ne_nil_of_mem hs)
  unfold m__law_steps
  rw [lt_eq, lt_eq, rng_ok (by omega) (by omega) (by omega) (by omega) (by omega), Option.bind_some]
  obtain ⟨r, e, hr⟩ := lp_inv (f := fun (a9 : Int) (s8 : ((List ((Int × Int) × Int)) × (List (Int × Int)))) =>
      lt ([] : List (Int × Int)) fun fresh12 =>
      (lp (lf2 L a9) s8.2 (s8.1, fresh12)).bind fun s28 =>
      some (s28.1, s28.2)) (fun k (r : Dq × List Pt) => r = (qs L s (lv L s k), (ks (qs L s (lv L s k))).drop (lv L s k))) (as := rng (1 : Int) (L.length : Int)) (s := ([(s, (0 : Int))], [s])) 0 rfl fun k a r ha hr => by
    rw [Nat.zero_add] at hr ⊢
    subst hr
    obtain ⟨a1, a2⟩ := rng_get ha
    refine ⟨_, ?_, rfl⟩
    show Option.bind (lp (lf2 L a) ((ks (qs L s (lv L s k))).drop (lv L s k)) (qs L s (lv L s k), [])) _ = _
    rw [law_round hs hL (fun i e h1 h2 => by have := lv_val k i e h1 h2; omega) (lv_le k), Option.bind_some]
    rfl
  refine (congrArg (fun o => Option.bind o _) e).trans ?_
  show some r.1 = _
  rw [hr, Nat.zero_add, rng_len]
  congr 1
  refine fin_is hs (lv_max hs _) ?_
  rcases lv_fin (L := L) (s := s) ((L.length : Int) - 1).toNat with f | f
  · exact f
  · exact fin_full hs (by omega)
/-- the program's search, with distances -/
noncomputable abbrev pf1 (L : List Pt) (here : Pt) : Pt → Dq × List Pt → Option (Dq × List Pt) := fun (a15 : (Int × Int)) (s14 : ((List ((Int × Int) × Int)) × (List (Int × Int)))) =>
          if ((decide (a15 ∈ L)) && (!(dgt s14.1 a15).isSome)) = true then
            (dgt s14.1 here).bind fun t19 =>
            (dpo s14.1 a15 (t19 + (1 : Int))).bind fun found20 =>
            (appO s14.2 a15).bind fun waiting21 =>
            some (found20, waiting21)
          else
          some (s14.1, s14.2)
theorem prog_new {D : Dq} {W : List Pt} {p : Pt} {v : Int} (hd : dgt D p = some v) (h1 : D.length ≤ 900) (h2 : W.length ≤ 900) : lp (pf1 L p) (nbr p) (D, W) = some (exq L D p (v + 1), W ++ nw L (ks D) p) := by
  have hn : (nbr p).length = 6 := rfl
  rw [lp_new (L := L) (v := v + 1) (fun D => dgt D p = some v) (fun D a h k => ?_) (fun a s hp k1 k2 => ?_) (nbr p) (D, W) (nbr_nd p) hd (by show D.length + _ ≤ _; omega) (by show W.length + _ ≤ _; omega), filt_nw]
  · rfl
  · rw [dgt_snoc a p (v + 1) D k, if_neg (fun z => by rw [z, k] at h; cases h)]; exact h
  · show (if cnd L s.1 a = true then _ else _) = _
    by_cases c : cnd L s.1 a = true
    · rw [if_pos c, if_pos c]
      have hn : dgt s.1 a = none := by
        rw [cnd_eq, Bool.and_eq_true, decide_eq_true_iff, decide_eq_true_iff] at c
        exact dgt_none.mpr c.2
      rw [hp, Option.bind_some, dpo_new hn k1, Option.bind_some, appO_ok (by omega), Option.bind_some]
    · rw [if_neg c, if_neg c]
noncomputable abbrev pwb (L : List Pt) : (Dq × List Pt × Int) → Option (Ctl (Dq × List Pt × Int) Unit) := fun (s8 : ((List ((Int × Int) × Int)) × (List (Int × Int)) × Int)) =>
      (ix s8.2.1 s8.2.2).bind fun t11 =>
      lt (s8.2.2 + (1 : Int)) fun at12 =>
      (m_beside t11).bind fun t13 =>
      (lp (pf1 L t11) t13 (s8.1, s8.2.1)).bind fun s22 =>
      some (Ctl.next (s22.1, s22.2, at12))
theorem prog_wh (hs : s ∈ L) (hL : L.length ≤ 100) : ∀ (f n : Nat), L.length ≤ n + f → n ≤ L.length → ∃ z, wh (β := Unit) (fun (s8 : (Dq × List Pt × Int)) => some (decide (s8.2.2 < (s8.2.1.length : Int)))) (pwb L) (qs L s n, ks (qs L s n), (n : Int)) = some (.next (fin L s, z))
  | f, n, h1, h2 => by
    have hk : (ks (qs L s n)).length = (qs L s n).length := List.length_map _
    have hle := qs_le hs n
    rcases Nat.lt_or_ge n (qs L s n).length with c | c
    · cases f with
      | zero => omega
      | succ f =>
        have g := List.getElem?_eq_getElem c
        obtain ⟨z, ih⟩ := prog_wh hs hL f (n + 1) (by omega) (by omega)
        refine ⟨z, wh_next (congrArg some (decide_eq_true (show (n : Int) < ((ks (qs L s n)).length : Int) by rw [hk]; omega))) ?_ ih⟩
        show Option.bind (ix (ks (qs L s n)) (n : Int)) _ = _
        rw [ix_nat, List.getElem?_map, g, Option.map_some, Option.bind_some, lt_eq, beside_ok, Option.bind_some]
        have hd := dgt_at (qs_ok hs n).1 g
        show Option.bind (lp (pf1 L (qs L s n)[n].1) (nbr (qs L s n)[n].1) (qs L s n, ks (qs L s n))) _ = _
        rw [prog_new hd (by omega) (by rw [hk]; omega), Option.bind_some, qs_some g, ks_exq]
        rfl
    · refine ⟨(ks (qs L s n), (n : Int)), ?_⟩
      rw [← fin_is hs h2 (fin_of c)]
      exact wh_stop (congrArg some (decide_eq_false (show ¬ (n : Int) < ((ks (qs L s n)).length : Int) by rw [hk]; omega)))
theorem fewest_ok (hs : s ∈ L) (hL : L.length ≤ 100) (g : Pt) : m_fewest_steps L s g = some (dgt (fin L s) g) := by
  unfold m_fewest_steps
  rw [lt_eq, lt_eq]
  obtain ⟨z, e⟩ := prog_wh hs hL L.length 0 (by omega) (Nat.zero_le _)
  refine (congrArg (fun o => Option.bind o _) (show wh (β := Unit) _ _ ([(s, (0 : Int))], ([s] : List (Int × Int)), (0 : Int)) = _ from e)).trans ?_
  rfl
end
/-! ### what hangs together -/
abbrev enPt : Int × Int → PyData := enT (enC enI (en1 enI))
noncomputable abbrev piw (M : List Pt) : (List Pt × Int) → Option (Ctl (List Pt × Int) Unit) := fun (s12 : ((List (Int × Int)) × Int)) =>
          (ix s12.1 s12.2).bind fun t15 =>
          (m_beside t15).bind fun t16 =>
          (addO s12.1 ((t16.filter fun (a17 : (Int × Int)) => ((decide (a17 ∈ M)) && (!(decide (a17 ∈ s12.1))))).map fun (a17 : (Int × Int)) => a17)).bind fun piece19 =>
          lt (s12.2 + (1 : Int)) fun at20 =>
          some (Ctl.next (piece19, at20))
section
variable {L M : List Pt} {s : Pt}
theorem piece_wh (hM : ∀ q ∈ M, q ∈ L) (cl : ∀ p ∈ M, ∀ q ∈ nbr p, q ∈ L → q ∈ M) (hm : s ∈ M) (hL : L.length ≤ 100) : ∀ (f n : Nat), L.length ≤ n + f → n ≤ L.length → ∃ z, wh (β := Unit) (fun (s12 : (List Pt × Int)) => some (decide (s12.2 < (s12.1.length : Int)))) (piw M) (ks (qs L s n), (n : Int)) = some (.next (ks (fin L s), z))
  | f, n, h1, h2 => by
    have hs : s ∈ L := hM s hm
    have hk : (ks (qs L s n)).length = (qs L s n).length := List.length_map _
    have hle := qs_le hs n
    rcases Nat.lt_or_ge n (qs L s n).length with c | c
    · cases f with
      | zero => omega
      | succ f =>
        have g := List.getElem?_eq_getElem c
        obtain ⟨z, ih⟩ := piece_wh hM cl hm hL f (n + 1) (by omega) (by omega)
        refine ⟨z, wh_next (congrArg some (decide_eq_true (show (n : Int) < ((ks (qs L s n)).length : Int) by rw [hk]; omega))) ?_ ih⟩
        show Option.bind (ix (ks (qs L s n)) (n : Int)) _ = _
        rw [ix_nat, List.getElem?_map, g, Option.map_some, Option.bind_some, beside_ok, Option.bind_some]
        have hp : (qs L s n)[n].1 ∈ M := by
          have e := qs_part hM cl hm n
          have := (qs_ok hm n).2 (qs L s n)[n].1
          rw [e] at this
          exact this (List.mem_map.mpr ⟨_, List.getElem_mem c, rfl⟩)
        have ef : (nbr (qs L s n)[n].1).filter (fun (a17 : (Int × Int)) => ((decide (a17 ∈ M)) && (!(decide (a17 ∈ ks (qs L s n)))))) = nw L (ks (qs L s n)) (qs L s n)[n].1 := by
          unfold nw
          refine List.filter_congr fun q hq => ?_
          have e1 : decide (q ∈ M) = decide (q ∈ L) := decide_eq_decide.mpr ⟨hM q, cl _ hp q hq⟩
          rw [e1]
          congr 1
          by_cases w : q ∈ ks (qs L s n)
          · rw [decide_eq_true w, decide_eq_false (by simpa using w)]; rfl
          · rw [decide_eq_false w, decide_eq_true w]; rfl
        have ef2 : ((nbr (qs L s n)[n].1).filter (fun (a17 : (Int × Int)) => ((decide (a17 ∈ M)) && (!(decide (a17 ∈ (ks (qs L s n), (n : Int)).1)))))).map (fun (a17 : (Int × Int)) => a17) = nw L (ks (qs L s n)) (qs L s n)[n].1 := by
          rw [List.map_id']; exact ef
        rw [ef2]
        have hnw : (nw L (ks (qs L s n)) (qs L s n)[n].1).length ≤ 6 := List.length_filter_le _ _
        show Option.bind (addO (ks (qs L s n)) _) _ = _
        rw [addO_ok (by rw [hk]; omega), Option.bind_some, lt_eq, qs_some g, ks_exq]
        rfl
    · refine ⟨(n : Int), ?_⟩
      rw [← fin_is hs h2 (fin_of c)]
      exact wh_stop (congrArg some (decide_eq_false (show ¬ (n : Int) < ((ks (qs L s n)).length : Int) by rw [hk]; omega)))
end
def unc (due : List (List Pt)) (q : Pt) : Bool := due.all fun r => !decide (q ∈ r)
theorem unc_iff {due : List (List Pt)} {q : Pt} : unc due q = true ↔ ∀ r ∈ due, q ∉ r := by
  unfold unc
  rw [List.all_eq_true]
  constructor
  · intro h r hr
    have := h r hr
    rw [Bool.not_eq_true', decide_eq_false_iff_not] at this
    exact this
  · intro h r hr
    rw [Bool.not_eq_true', decide_eq_false_iff_not]
    exact h r hr
noncomputable def cmp_ (L : List Pt) (s : Pt) : List Pt := srtE enPt (ks (fin L s))
noncomputable abbrev pob (_L : List Pt) : (List Pt × List (List Pt)) → Option (Ctl (List Pt × List (List Pt)) Unit) := fun (s6 : ((List (Int × Int)) × (List (List (Int × Int))))) =>
      (ix s6.1 (0 : Int)).bind fun t9 =>
      lt ([t9] : List (Int × Int)) fun piece10 =>
      (wh (β := Unit) (fun (s12 : ((List (Int × Int)) × Int)) => some (decide (s12.2 < (s12.1.length : Int)))) (piw s6.1) (piece10, (0 : Int))).bind fun c => c.on (fun s21 =>
        (appO s6.2 (srtE (enT (enC enI (en1 enI))) s21.1)).bind fun found23 =>
        lt ((s6.1.filter fun (a24 : (Int × Int)) => (!(decide (a24 ∈ s21.1)))).map fun (a24 : (Int × Int)) => a24) fun left26 =>
        some (Ctl.next (left26, found23))) (fun (q28 : Unit) => none)
noncomputable abbrev lob (L : List Pt) : Pt → List (List Pt) → Option (List (List Pt)) := fun (a9 : (Int × Int)) (s8 : ((List (List (Int × Int))))) =>
      if (decide (((s8.filter fun (a12 : (List (Int × Int))) => (decide (a9 ∈ a12))).map fun (a12 : (List (Int × Int))) => a12) = ([] : List (List (Int × Int))))) = true then
        (m__law_steps L a9).bind fun t15 =>
        (appO s8 (srtE (enT (enC enI (en1 enI))) (t15.map (·.1)))).bind fun due16 =>
        some due16
      else
      some s8
structure Dv (L R : List Pt) (due : List (List Pt)) : Prop where
  sub : ∀ q ∈ R, q ∈ L
  nd : R.Nodup
  cov : ∀ q ∈ L, q ∉ R → unc due q = false
  cl : ∀ r ∈ due, ∀ p ∈ r, p ∈ L ∧ ∀ q ∈ nbr p, q ∈ L → q ∈ r
  len : due.length + R.length ≤ 100
  rl : ∀ r ∈ due, r.length ≤ 100
theorem comps {L : List Pt} (hL : L.length ≤ 100) : ∀ (R : List Pt) (due : List (List Pt)), Dv L R due → ∃ X, lp (lob L) R due = some X ∧ wh (β := Unit) (fun (s6 : ((List (Int × Int)) × (List (List (Int × Int))))) => some (decide ((s6.1.length : Int) > (0 : Int)))) (pob L) (R.filter (unc due), due) = some (.next ([], X)) ∧ Dv L [] X
  | [], due, h => ⟨due, rfl, wh_stop rfl, h⟩
  | p :: R, due, h => by
    have hp : p ∈ L := h.sub p List.mem_cons_self
    obtain ⟨n1, n2⟩ := List.nodup_cons.mp h.nd
    have hlen := h.len
    rw [List.length_cons] at hlen
    have ecnd : decide (((due.filter fun (a12 : (List (Int × Int))) => (decide (p ∈ a12))).map fun (a12 : (List (Int × Int))) => a12) = ([] : List (List (Int × Int)))) = unc due p := by
      rw [List.map_id', Bool.eq_iff_iff, decide_eq_true_iff, unc_iff, List.filter_eq_nil_iff]
      constructor
      · intro z r hr w; exact z r hr (decide_eq_true w)
      · intro z r hr w; exact z r hr (of_decide_eq_true w)
    by_cases c : unc due p = true
    · have cl : ∀ a ∈ (p :: R).filter (unc due), ∀ q ∈ nbr a, q ∈ L → q ∈ (p :: R).filter (unc due) := fun a ha q hq hqL => by
        obtain ⟨a1, a2⟩ := List.mem_filter.mp ha
        have hu : unc due q = true := unc_iff.mpr fun r hr hqr => unc_iff.mp a2 r hr ((h.cl r hr q hqr).2 a (nbr_sym hq) (h.sub a a1))
        refine List.mem_filter.mpr ⟨?_, hu⟩
        by_cases w : q ∈ p :: R
        · exact w
        · have := h.cov q hqL w
          rw [this] at hu; cases hu
      have sub : ∀ q ∈ (p :: R).filter (unc due), q ∈ L := fun q hq => h.sub q (List.mem_filter.mp hq).1
      have hpM : p ∈ (p :: R).filter (unc due) := List.mem_filter.mpr ⟨List.mem_cons_self, c⟩
      obtain ⟨z, hz⟩ := piece_wh sub cl hpM hL L.length 0 (by omega) (Nat.zero_le _)
      have mem : ∀ q, q ∈ cmp_ L p ↔ q ∈ ks (fin L p) := fun q => (srtE_perm (e := enPt) (ks (fin L p))).mem_iff
      have hv : Dv L R (due ++ [cmp_ L p]) := by
        refine ⟨fun q hq => h.sub q (List.mem_cons_of_mem _ hq), n2, fun q hq hn => ?_, fun r hr a ha => ?_, by rw [List.length_append, List.length_singleton]; omega, fun r hr => (List.mem_append.mp hr).elim (h.rl r) fun w => by rw [List.mem_singleton.mp w]; unfold cmp_; rw [(srtE_perm (e := enPt) _).length_eq, List.length_map]; exact Nat.le_trans (qs_le hp L.length) hL⟩
        · by_cases w : q = p
          · cases u : unc (due ++ [cmp_ L p]) q with
            | false => rfl
            | true =>
              have := unc_iff.mp u (cmp_ L p) (List.mem_append_right _ (List.mem_singleton.mpr rfl))
              exact absurd ((mem q).mpr (by rw [w]; exact fin_start hp)) this
          · have := h.cov q hq fun y => (List.mem_cons.mp y).elim w hn
            cases u : unc (due ++ [cmp_ L p]) q with
            | false => rfl
            | true =>
              have u2 : unc due q = true := unc_iff.mpr fun r hr => unc_iff.mp u r (List.mem_append_left _ hr)
              rw [this] at u2; cases u2
        · rcases List.mem_append.mp hr with w | w
          · exact h.cl r w a ha
          · rw [List.mem_singleton.mp w] at ha ⊢
            have ha := (mem a).mp ha
            exact ⟨(qs_ok hp _).2 a ha, fun q hq hqL => (mem q).mpr (fin_closed hp ha hq hqL)⟩
      obtain ⟨X, x1, x2, x3⟩ := comps hL R (due ++ [cmp_ L p]) hv
      refine ⟨X, ?_, ?_, x3⟩
      · show (lob L p due).bind _ = _
        have e : lob L p due = some (due ++ [cmp_ L p]) := by
          show (if _ = true then _ else _) = _
          rw [ecnd, if_pos c, steps_ok hp hL, Option.bind_some]
          show Option.bind (appO due (cmp_ L p)) _ = _
          rw [appO_ok (by omega), Option.bind_some]
        rw [e, Option.bind_some]
        exact x1
      · have ecs : (p :: R).filter (unc due) = p :: R.filter (unc due) := List.filter_cons_of_pos c
        refine wh_next (s' := (R.filter (unc (due ++ [cmp_ L p])), due ++ [cmp_ L p])) (congrArg some (decide_eq_true (by rw [ecs]; show (((p :: R.filter (unc due)).length : Nat) : Int) > 0; rw [List.length_cons]; omega))) ?_ x2
        show Option.bind (ix ((p :: R).filter (unc due)) (0 : Int)) _ = _
        rw [show ix ((p :: R).filter (unc due)) (0 : Int) = some p from by rw [ecs, show (0 : Int) = ((0 : Nat) : Int) from rfl, ix_nat]; rfl, Option.bind_some, lt_eq]
        refine (congrArg (fun o => Option.bind o _) (show wh (β := Unit) _ _ (([p] : List (Int × Int)), (0 : Int)) = _ from hz)).trans ?_
        show Option.bind (appO due (cmp_ L p)) _ = _
        rw [appO_ok (by omega), Option.bind_some, lt_eq]
        congr 3
        show List.map (fun (a24 : (Int × Int)) => a24) (List.filter (fun (a24 : (Int × Int)) => (!(decide (a24 ∈ ks (fin L p))))) ((p :: R).filter (unc due))) = _
        rw [List.map_id', List.filter_filter, List.filter_cons_of_neg (by
          rw [decide_eq_true (fin_start hp)]; simp)]
        refine List.filter_congr fun q hq => ?_
        rw [Bool.eq_iff_iff, Bool.and_eq_true, Bool.not_eq_true', decide_eq_false_iff_not, unc_iff, unc_iff]
        constructor
        · rintro ⟨w1, w2⟩ r hr
          rcases List.mem_append.mp hr with y | y
          · exact w2 r y
          · rw [List.mem_singleton.mp y]; exact fun t => w1 ((mem q).mp t)
        · intro w
          exact ⟨fun t => w _ (List.mem_append_right _ (List.mem_singleton.mpr rfl)) ((mem q).mpr t), fun r hr => w r (List.mem_append_left _ hr)⟩
    · have hv : Dv L R due := by
        refine ⟨fun q hq => h.sub q (List.mem_cons_of_mem _ hq), n2, fun q hq hn => ?_, h.cl, by omega, h.rl⟩
        by_cases w : q = p
        · rw [w]; exact Bool.eq_false_iff.mpr c
        · exact h.cov q hq fun y => (List.mem_cons.mp y).elim w hn
      obtain ⟨X, x1, x2, x3⟩ := comps hL R due hv
      refine ⟨X, ?_, ?_, x3⟩
      · show (lob L p due).bind _ = _
        have e : lob L p due = some due := by
          show (if _ = true then _ else _) = _
          rw [ecnd, if_neg c]
        rw [e, Option.bind_some]
        exact x1
      · rw [List.filter_cons_of_neg c]
        exact x2
theorem pieces_ok {L M : List Pt} (nd : L.Nodup) (hL : L.length ≤ 100) (hM : M.Perm L) : ∃ X, lp (lob L) (srtE enPt L) [] = some X ∧ m_pieces M = some X ∧ Dv L [] X := by
  have p := srtE_perm (e := enPt) L
  have h0 : Dv L (srtE enPt L) [] := ⟨fun q hq => p.mem_iff.mp hq, p.nodup_iff.mpr nd, fun q hq hn => absurd (p.mem_iff.mpr hq) hn, (by intro r hr; cases hr), by show 0 + _ ≤ _; rw [p.length_eq]; omega, (by intro r hr; cases hr)⟩
  obtain ⟨X, x1, x2, x3⟩ := comps hL _ _ h0
  refine ⟨X, x1, ?_, x3⟩
  have ef : (srtE enPt L).filter (unc []) = srtE enPt L := List.filter_eq_self.mpr fun _ _ => rfl
  rw [ef] at x2
  unfold m_pieces
  rw [srtE_perm_eq (lo_T (lor_C lo_I (lor_1 lo_I))) hM, lt_eq, lt_eq]
  refine (congrArg (fun o => Option.bind o _) (show wh (β := Unit) _ _ (srtE (enT (enC enI (en1 enI))) L, ([] : List (List Pt))) = _ from x2)).trans ?_
  rfl
/-! ### sides, the mean -/
theorem filt_not {L N : List Pt} : (N.filter fun (a5 : (Int × Int)) => (!(decide (a5 ∈ L)))).length ≤ N.length := List.length_filter_le _ _
def sdn (L : List Pt) (p : Pt) : Int := (((nbr p).filter fun (a5 : (Int × Int)) => (!(decide (a5 ∈ L)))).length : Int)
theorem outline_ok (L : List Pt) : m_outline L = some ((L.map (sdn L)).sum) := by
  unfold m_outline
  rw [lcO_of (g := sdn L) fun p _ => by
    rw [beside_ok, Option.bind_some, List.length_map]; rfl, Option.bind_some]
theorem sides_ok (L : List Pt) : ∀ (N : List Pt) (z : Int), lp (fun (a31 : (Int × Int)) (s30 : (Int)) =>
      (m__law_near a31).bind fun t37 =>
      lt (s30 + (((t37.filter fun (a38 : (Int × Int)) => (!(decide (a38 ∈ L)))).map fun (a38 : (Int × Int)) => a38).length : Int)) fun sides40 =>
      some sides40) N z = some (z + (N.map (sdn L)).sum)
  | [], z => by show some z = some (z + 0); rw [Int.add_zero]
  | p :: N, z => by
    have e : (m__law_near p).bind (fun t37 => lt (z + (((t37.filter fun (a38 : (Int × Int)) => (!(decide (a38 ∈ L)))).map fun (a38 : (Int × Int)) => a38).length : Int)) fun sides40 => some sides40) = some (z + sdn L p) := by
      rw [near_ok, Option.bind_some, List.map_id']; rfl
    refine (congrArg (fun o => Option.bind o _) e).trans ?_
    rw [Option.bind_some]
    refine (sides_ok L N (z + sdn L p)).trans ?_
    rw [List.map_cons, List.sum_cons, Int.add_assoc]
theorem sdn_bd (L : List Pt) : ∀ N : List Pt, 0 ≤ (N.map (sdn L)).sum ∧ (N.map (sdn L)).sum ≤ 6 * (N.length : Int)
  | [] => by simp
  | p :: N => by
    have ih := sdn_bd L N
    have h : (((nbr p).filter fun (a5 : (Int × Int)) => (!(decide (a5 ∈ L)))).length) ≤ 6 := filt_not
    rw [List.map_cons, List.sum_cons, List.length_cons]
    unfold sdn at ih ⊢
    omega
abbrev Sml (p : Pt) : Prop := (-20 ≤ p.1 ∧ p.1 ≤ 20) ∧ -20 ≤ p.2 ∧ p.2 ≤ 20
theorem sum_bd {f : Pt → Int} : ∀ {T : List Pt}, (∀ t ∈ T, -20 ≤ f t ∧ f t ≤ 20) → -20 * (T.length : Int) ≤ (T.map f).sum ∧ (T.map f).sum ≤ 20 * (T.length : Int)
  | [], _ => by simp
  | t :: T, h => by
    have ih := sum_bd fun x hx => h x (List.mem_cons_of_mem _ hx)
    have ht := h t List.mem_cons_self
    rw [List.map_cons, List.sum_cons, List.length_cons]
    omega
theorem middle_ok {L : List Pt} (hne : L ≠ []) (hL : L.length ≤ 100) : m_middle L = some (Fr (L.map fun (a3 : (Int × Int)) => a3.1).sum (L.length : Int), Fr (L.map fun (a3 : (Int × Int)) => a3.2).sum (L.length : Int)) := by
  have hn := List.length_pos_iff.mpr hne
  have hz : (L.length : Int) ≠ 0 := by omega
  have ha : Ab 100 (L.length : Int) := by unfold Ab; omega
  unfold m_middle
  rw [lt_eq, fraction_w hz ha, Option.bind_some, fraction_w hz ha, Option.bind_some]
theorem okF {n : Nat} {p : Pt} (h1 : Ab n p.1) (h2 : Ab n p.2) (hn : n ≤ 100000 := by decide) : okP okI okI p := ⟨okI_s (x := p.1) (by unfold Ab at h1; omega) (by unfold Ab at h1; omega), okI_s (x := p.2) (by unfold Ab at h2; omega) (by unfold Ab at h2; omega)⟩
theorem lot_ok {b : List Int × Int} (hb : Bx b) : Ok (m__law_lot b) fun r => Bx r.2 ∧ r.1.Nodup ∧ r.1 ≠ [] ∧ r.1.length ≤ 14 ∧ ∀ p ∈ r.1, Sml p := by
  unfold m__law_lot
  refine ok_bind _ (pick_ok hb (by decide)) fun t2 h2 => ok_bind _ (draw_ok h2.1 (by decide)) fun t3 h3 => ok_lt (ok_lt (ok_bind _ (pick_ok h3.1 (by decide)) fun t7 h7 => ?_))
  have p2 : ∀ x ∈ ([(2 : Int), (3 : Int), (4 : Int), (5 : Int)] : List Int), 1 ≤ x ∧ x ≤ 5 := by decide
  have q2 := p2 _ h2.2
  have p7 : ∀ x ∈ ([(1 : Int), (2 : Int), (5 : Int), (8 : Int), (11 : Int), (14 : Int), (14 : Int)] : List Int), 1 ≤ x ∧ x ≤ 14 := by decide
  have q7 := p7 _ h7.2
  refine ok_rng (by omega) (by omega) (by omega) (by omega) (by omega) ?_
  refine ok_lp (fun n (s : (List Int × Int) × List (Int × Int)) => Bx s.1 ∧ s.2.Nodup ∧ (0 < n → s.2 ≠ []) ∧ s.2.length ≤ n ∧ ∀ p ∈ s.2, Sml p) ⟨h7.1, List.nodup_nil, fun z => absurd z (Nat.lt_irrefl _), Nat.le_refl _, fun p hp => (nomatch hp)⟩ (fun i a s ha ⟨g1, g2, g3, g4, g5⟩ => ?_) (fun s ⟨g1, g2, g3, g4, g5⟩ => ok_some ⟨g1, g2, ?_, ?_, g5⟩)
  · have hi := (rng_get ha).1
    refine ok_bind _ (draw_ok g1 (by omega)) fun x ⟨x1, x2, x3⟩ => ok_bind _ (draw_ok x1 (by omega)) fun y ⟨y1, y2, y3⟩ => ok_lt ?_
    refine ok_if (fun c => ok_app (Nat.lt_of_le_of_lt g4 (by omega)) (ok_some ⟨y1, ?_, fun _ => by simp, by rw [List.length_append]; exact Nat.add_le_add_right g4 1, ?_⟩)) fun c => ok_some ⟨y1, g2, fun _ => ?_, Nat.le_succ_of_le g4, g5⟩
    · have c : ((t3.1 - 4 + x.1, y.1 - (t3.1 - 4)) : Int × Int) ∉ s.2 := by simpa using c
      rw [List.nodup_append]
      exact ⟨g2, by simp, fun p hp q hq z => c (by rw [← List.mem_singleton.mp hq, ← z]; exact hp)⟩
    · intro p hp
      rcases List.mem_append.mp hp with hp | hp
      · exact g5 p hp
      · rw [List.mem_singleton.mp hp]
        unfold Sml; simp only; omega
    · have c : decide (((t3.1 - 4 + x.1, y.1 - (t3.1 - 4)) : Int × Int) ∈ s.2) = true := by simpa using c
      exact List.ne_nil_of_mem (of_decide_eq_true c)
  · exact g3 (by rw [rng_len]; omega)
  · rw [rng_len] at g4
    show s.2.length ≤ 14
    omega
theorem mixed_ok {α : Type} {b : List Int × Int} {row : List α} (hb : Bx b) (hl : row.length ≤ 1000) : Ok (m__law_mixed b row) fun r => Bx r.2 ∧ r.1.Perm row := by
  unfold m__law_mixed
  refine ok_lt (ok_rng (by omega) (by omega) (by omega) (by omega) (by omega) ?_)
  refine ok_lp (fun i (s : (List Int × Int) × List α × List α) => Bx s.1 ∧ (s.2.2 ++ s.2.1).Perm row ∧ s.2.2.length = i) ⟨hb, by rw [List.nil_append], rfl⟩ (fun i a s ha hs => ?_) fun s hs => ?_
  · obtain ⟨h1, h2, h3⟩ := hs
    have hi := (rng_get ha).1
    have hlen := h2.length_eq
    rw [List.length_append] at hlen
    refine ok_bind _ (draw_ok h1 (by decide)) fun t11 h11 => ok_mod (by omega) fun v _ v0 v1 => ?_
    refine ok_bind _ (pop_ok v0 v1 (by omega)) fun t13 h13 => ok_app (by omega) (ok_some ⟨h11.1, ?_, by rw [List.length_append, List.length_singleton]; omega⟩)
    show ((s.2.2 ++ [t13.2]) ++ t13.1).Perm row
    rw [List.append_assoc]
    exact (List.Perm.append_left s.2.2 h13.1).trans h2
  · obtain ⟨h1, h2, h3⟩ := hs
    rw [rng_len] at h3
    have hlen := h2.length_eq
    rw [List.length_append] at hlen
    have : s.2.1 = [] := List.eq_nil_of_length_eq_zero (by omega)
    rw [this, List.append_nil] at h2
    exact ok_some ⟨h1, h2⟩
theorem fin_val {L : List Pt} {s : Pt} : ∀ (n : Nat), ∀ e ∈ qs L s n, 0 ≤ e.2 ∧ e.2 ≤ (n : Int)
  | 0, e, h => by
    rw [List.mem_singleton.mp h]
    exact ⟨Int.le_refl _, Int.le_refl _⟩
  | n + 1, e, h => by
    rcases Nat.lt_or_ge n (qs L s n).length with c | c
    · have g := List.getElem?_eq_getElem c
      rw [qs_some g] at h
      rcases List.mem_append.mp h with h | h
      · have := fin_val n e h; omega
      · obtain ⟨q, _, rfl⟩ := List.mem_map.mp h
        have := fin_val n _ (List.getElem_mem c)
        show 0 ≤ _ + 1 ∧ _ + 1 ≤ _
        omega
    · rw [qs_none c] at h
      have := fin_val n e h; omega
theorem dgt_mem {d : Dq} {k : Pt} {v : Int} (h : dgt d k = some v) : ∃ e ∈ d, e.2 = v := by
  unfold dgt at h
  obtain ⟨e, he, rfl⟩ := Option.map_eq_some_iff.mp h
  exact ⟨e, List.mem_of_find?_eq_some he, rfl⟩
theorem law_ok (ns : List Int) (hl : ns.length ≤ 63) : m_law ns = some true := by
  refine ok_to ?_
  unfold m_law
  refine ok_bind _ (digits_ok ns 0 20 (by decide) (by decide) (by decide)) fun t2 _ => ok_lt ?_
  refine ok_bind _ (lot_ok (bx0 t2)) fun t5 ⟨b5, nd, ne, le, sm⟩ => ok_lt ?_
  obtain ⟨L, bx⟩ := t5
  have nd : L.Nodup := nd
  have ne : L ≠ [] := ne
  have le : L.length ≤ 14 := le
  have sm : ∀ p ∈ L, Sml p := sm
  have b5 : Bx bx := b5
  obtain ⟨X, x1, x2, x3⟩ := pieces_ok nd (by omega) (List.Perm.refl L)
  have okX : okL (okL (okP okI okI)) X := fun r hr p hp => by
    have := sm p (x3.cl r hr p hp).1
    unfold Sml at this
    exact ⟨okI_s (x := p.1) (by omega) (by omega), okI_s (x := p.2) (by omega) (by omega)⟩
  have hX : X ≠ [] := fun z => by
    obtain ⟨p, hp⟩ := List.exists_mem_of_ne_nil _ ne
    have := x3.cov p hp (by simp)
    rw [z] at this
    cases this
  have lenr : ∀ r ∈ X, ∀ p ∈ r, p ∈ L := fun r hr p hp => (x3.cl r hr p hp).1
  show Ok (Option.bind (lp (lob L) (srtE enPt L) []) _) _
  rw [x1, Option.bind_some]
  show Ok (Option.bind (m_pieces L) _) _
  rw [x2, Option.bind_some]
  refine ok_same rfl okX ?_
  rw [if_neg (by simp)]
  refine ok_ix (by decide) (by have := List.length_pos_iff.mpr hX; omega) fun r hr _ => ?_
  refine ok_gd (decide_eq_true (by have := x3.rl r hr; omega)) ?_
  show Ok (Option.bind (m__law_mixed bx L) _) _
  refine ok_bind _ (mixed_ok b5 (by omega)) fun t26 ⟨b26, p26⟩ => ?_
  obtain ⟨Y, y1, y2, _⟩ := pieces_ok nd (by omega) p26
  have eY : Y = X := Option.some.inj (y1.symm.trans x1)
  rw [y2, Option.bind_some, eY]
  refine ok_same rfl okX ?_
  rw [if_neg (by simp)]
  refine ok_bind (fun z => z = (L.map (sdn L)).sum) ?_ fun s41 h41 => ?_
  · rw [show lp _ L (0 : Int) = _ from sides_ok L L 0, Int.zero_add]
    exact ok_some rfl
  have bd := sdn_bd L L
  show Ok (Option.bind (m_outline L) _) _
  rw [outline_ok, Option.bind_some]
  refine ok_same h41.symm (by exact okI_s (by omega) (by omega)) ?_
  rw [if_neg (by simp)]
  have hn := List.length_pos_iff.mpr ne
  have hz : (L.length : Int) ≠ 0 := by omega
  have ha : Ab 100 (L.length : Int) := by unfold Ab; omega
  have bx1 := sum_bd (T := L) (f := fun (a : Pt) => a.1) fun t ht => by have := sm t ht; unfold Sml at this; omega
  have bx2 := sum_bd (T := L) (f := fun (a : Pt) => a.2) fun t ht => by have := sm t ht; unfold Sml at this; omega
  have ax : Ab 2000 (L.map fun (a : Pt) => a.1).sum := by unfold Ab; omega
  have ay : Ab 2000 (L.map fun (a : Pt) => a.2).sum := by unfold Ab; omega
  have fx := fr_ab hz ax ha
  have fy := fr_ab hz ay ha
  show Ok (Option.bind (m__law_low ((L.map fun (a46 : (Int × Int)) => a46.1).sum) (L.length : Int)) _) _
  rw [low_ok hz ha (by decide), Option.bind_some]
  show Ok (Option.bind (m__law_low ((L.map fun (a49 : (Int × Int)) => a49.2).sum) (L.length : Int)) _) _
  rw [low_ok hz ha (by decide), Option.bind_some, lt_eq]
  show Ok (Option.bind (m_middle L) _) _
  rw [middle_ok ne (by omega), Option.bind_some]
  refine ok_same rfl ⟨okF (ab_mono fx.1 (show 2000 ≤ 2000 by decide)) (ab_mono fx.2 (by decide)), okF (ab_mono fy.1 (show 2000 ≤ 2000 by decide)) (ab_mono fy.2 (by decide))⟩ ?_
  rw [if_neg (by simp)]
  refine ok_lpC Bx b26 (fun a s _ hs => ?_) fun s hs => ok_some (by simp)
  show Ok (Option.bind (m__law_pick s L) _) _
  refine ok_bind _ (pick_ok hs ne) fun t60 h60 => ?_
  show Ok (Option.bind (m__law_pick t60.2 L) _) _
  refine ok_bind _ (pick_ok h60.1 ne) fun t61 h61 => ?_
  show Ok (Option.bind (m__law_steps L t60.1) _) _
  rw [steps_ok h60.2 (by omega), Option.bind_some]
  show Ok (Option.bind (m_fewest_steps L t60.1 t61.1) _) _
  rw [fewest_ok h60.2 (by omega), Option.bind_some]
  have e66 : (if (dgt (fin L t60.1) t61.1).isSome = true then (dgt (fin L t60.1) t61.1).bind fun t65 => some (some t65) else some none) = some (dgt (fin L t60.1) t61.1) := by
    cases dgt (fin L t60.1) t61.1 <;> rfl
  rw [e66, Option.bind_some]
  refine ok_same rfl (fun x hx => ?_) ?_
  · obtain ⟨e, he, rfl⟩ := dgt_mem hx
    have := fin_val L.length e he
    exact okI_s (by omega) (by omega)
  · rw [if_neg (by simp)]
    exact ok_some ⟨_, rfl, h61.1⟩
end Lw

namespace Lw
open PySem PySem.Spec PyProof.Rows L2 Mz
def topS (i : Nat) : Stmt := PySem.Challenge.pw_maplands_k54_whole_lots_that_hang_togeth.main.body.getD i (.Pass ⟨0, 0, 0, 0⟩)
abbrev s__law_draw : Stmt := topS 14
abbrev N__law_draw : List Str := ["box", "many"]
theorem sc__law_draw : FnScope N__law_draw ["box", "many"] (defScope s__law_draw) := ⟨rfl, rfl, rfl, by decide +kernel, rfl, by decide +kernel, by decide +kernel⟩
def sp__law_draw (K : PySem.W.Frag) : Sp := fun vs H Qk _ => ∃ (l_box : Addr) (box1 : ((List Int) × Int)) (many2 : Int) (r : (Int × ((List Int) × Int))) (W : Fx) (F : Hp), m__law_draw box1 many2 = some r ∧ Sat W (([own l_box (QS l_box (RC (RL K RI) (R1 RI)) box1), imm RI many2] : List Sd).map some) (vs.map some) F H ∧ ∀ v H', Rt W (fun q P => P = imm RI q.1) (fun q => [own l_box (QS l_box (RC (RL K RI) (R1 RI)) q.2)]) r v H' → Qk v H'
theorem ok__law_draw {P : Program} {w : World} {K : PySem.W.Frag} {mg : Str → Option Value} {base : Heap} (m_int : mg "int" = none) (m_len : mg "len" = none) {fa : Addr} {fd : FuncData} (FF : FnP K "_law_draw" s__law_draw fa fd) : FnOk P w K mg base CX0 1 fa fd ["box", "many"] (sp__law_draw K) := by
  refine fn_okD FF sc__law_draw (fun vs H Q E h => ?_) (fun cdv A outer s H vs Qk E hr h => ?_)
  · obtain ⟨l_box, box1, many2, r, W, F0, hm, S, _⟩ := h
    exact sat_len S
  · obtain ⟨l_box, box1, many2, r, W, F0, hm, S, hret0⟩ := h
    have hret : ∀ q, some q = some r → ∀ v H', Rt W (fun q P => P = imm RI q.1) (fun q => [own l_box (QS l_box (RC (RL K RI) (R1 RI)) q.2)]) q v H' → Qk v H' := fun q e v H' h => hret0 v H' (by cases e; exact h)
    have h0 : Sat W [some (own l_box (QS l_box (RC (RL K RI) (R1 RI)) box1)), some (imm RI many2)] (L2.start N__law_draw vs) F0 H := start_tr S rfl
    have h1 := fun (PP : L2.St → Hp → Prop) (h : Tr W [some (own l_box (QS l_box (RC (RL K RI) (R1 RI)) box1)), some (imm RI many2)] PP) => tr_run h _ F0 _ h0
    refine h1 _ ?_
    clear h0 h1
    unfold m__law_draw at hm
    clear hret0 S
    obtain ⟨box3, h_box3, hm_⟩ := lt_get hm; clear hm; have hm := hm_; clear hm_
    refine s_setS (ixn_at 1 rfl) (up_tl up_one) (ix_at 0 rfl) (by first | exact Or.inl rfl | exact Or.inr (Or.inl rfl) | exact Or.inr (Or.inr rfl)) (Ev.eq (ev_lend (.fz (fz_listS (K := K)) (.im rfl .nil)) flat_I (ev_add (ev_ixTL (pj_tl pj_one) (ixn_at 1 rfl) (ev_var (ix_at 0 rfl) (by first | exact Or.inl rfl | exact Or.inr (Or.inl rfl) | exact Or.inr (Or.inr rfl)) rfl) ev_int) ev_int)) h_box3) ev_int rfl ?_
    refine tr_set .z ?_
    refine s_if (et_lend (.fz (fz_listS (K := K)) (.im rfl .nil)) (et_cmp cmp_gt (ev_ixTL (pj_tl pj_one) (ixn_at 1 rfl) (ev_var (ix_at 0 rfl) (by first | exact Or.inl rfl | exact Or.inr (Or.inl rfl) | exact Or.inr (Or.inr rfl)) rfl) ev_int) (ev_lenL m_len (ev_ixTL pj_hd (ixn_at 0 rfl) (ev_var (ix_at 0 rfl) (by first | exact Or.inl rfl | exact Or.inr (Or.inl rfl) | exact Or.inr (Or.inr rfl)) rfl) ev_int)) (nomark _))) hm ?_ ?_
    · intro hc4 hm
      obtain ⟨t5, h_t5, hm_⟩ := Option.bind_eq_some_iff.mp hm; clear hm; have hm := hm_; clear hm_
      exact s_ret (hret _ hm) (ev_lend (.fz (fz_listS (K := K)) (.im rfl .nil)) flat_I (ev_modO h_t5 (ev_toint m_int (ev_add (ev_mulR (by decide) (ev_ixTL (pj_tl pj_one) (ixn_at 1 rfl) (ev_var (ix_at 0 rfl) (by first | exact Or.inl rfl | exact Or.inr (Or.inl rfl) | exact Or.inr (Or.inr rfl)) rfl) ev_int) ev_int) ev_int)) (ev_var (ix_at 1 rfl) (by first | exact Or.inl rfl | exact Or.inr (Or.inl rfl) | exact Or.inr (Or.inr rfl)) rfl))) (pick_1 (i := 0) rfl) rfl
    · intro hc4 hm
      refine s_nil ?_
      obtain ⟨t6, h_t6, hm_⟩ := Option.bind_eq_some_iff.mp hm; clear hm; have hm := hm_; clear hm_
      obtain ⟨t7, h_t7, hm_⟩ := Option.bind_eq_some_iff.mp hm; clear hm; have hm := hm_; clear hm_
      exact s_ret (hret _ hm) (ev_lend (.fz (fz_listS (K := K)) (.im rfl .nil)) flat_I (ev_modO h_t7 (ev_toint m_int (ev_ixL h_t6 (ev_ixTL pj_hd (ixn_at 0 rfl) (ev_var (ix_at 0 rfl) (by first | exact Or.inl rfl | exact Or.inr (Or.inl rfl) | exact Or.inr (Or.inr rfl)) rfl) ev_int) (ev_sub (ev_ixTL (pj_tl pj_one) (ixn_at 1 rfl) (ev_var (ix_at 0 rfl) (by first | exact Or.inl rfl | exact Or.inr (Or.inl rfl) | exact Or.inr (Or.inr rfl)) rfl) ev_int) ev_int))) (ev_var (ix_at 1 rfl) (by first | exact Or.inl rfl | exact Or.inr (Or.inl rfl) | exact Or.inr (Or.inr rfl)) rfl))) (pick_1 (i := 0) rfl) rfl
abbrev s__law_pick : Stmt := topS 15
abbrev N__law_pick : List Str := ["box", "row"]
theorem sc__law_pick : FnScope N__law_pick ["box", "row"] (defScope s__law_pick) := ⟨rfl, rfl, rfl, by decide +kernel, rfl, by decide +kernel, by decide +kernel⟩
def sp__law_pick (K : PySem.W.Frag) : Sp := fun vs H Qk _ => ∃ (a : Type) (Ra : Rp a) (l_box : Addr) (box1 : ((List Int) × Int)) (row2 : (List a)) (r : (a × ((List Int) × Int))) (W : Fx) (F : Hp), m__law_pick box1 row2 = some r ∧ Sat W (([own l_box (QS l_box (RC (RL K RI) (R1 RI)) box1), imm (RL K Ra) row2] : List Sd).map some) (vs.map some) F H ∧ ∀ v H', Rt W (fun q P => P = imm Ra q.1) (fun q => [own l_box (QS l_box (RC (RL K RI) (R1 RI)) q.2)]) r v H' → Qk v H'
theorem ok__law_pick {P : Program} {w : World} {K : PySem.W.Frag} {mg : Str → Option Value} {base : Heap} (m_int : mg "int" = none) (m_len : mg "len" = none) {f__law_draw : Addr} {fd__law_draw : FuncData} (C__law_draw : Cal P w K mg base "_law_draw" 1 f__law_draw fd__law_draw ["box", "many"] (sp__law_draw K)) {fa : Addr} {fd : FuncData} (FF : FnP K "_law_pick" s__law_pick fa fd) : FnOk P w K mg base CX0 2 fa fd ["box", "row"] (sp__law_pick K) := by
  refine fn_okD FF sc__law_pick (fun vs H Q E h => ?_) (fun cdv A outer s H vs Qk E hr h => ?_)
  · obtain ⟨a, Ra, l_box, box1, row2, r, W, F0, hm, S, _⟩ := h
    exact sat_len S
  · obtain ⟨a, Ra, l_box, box1, row2, r, W, F0, hm, S, hret0⟩ := h
    have hret : ∀ q, some q = some r → ∀ v H', Rt W (fun q P => P = imm Ra q.1) (fun q => [own l_box (QS l_box (RC (RL K RI) (R1 RI)) q.2)]) q v H' → Qk v H' := fun q e v H' h => hret0 v H' (by cases e; exact h)
    have h0 : Sat W [some (own l_box (QS l_box (RC (RL K RI) (R1 RI)) box1)), some (imm (RL K Ra) row2)] (L2.start N__law_pick vs) F0 H := start_tr S rfl
    have h1 := fun (PP : L2.St → Hp → Prop) (h : Tr W [some (own l_box (QS l_box (RC (RL K RI) (R1 RI)) box1)), some (imm (RL K Ra) row2)] PP) => tr_run h _ F0 _ h0
    refine h1 _ ?_
    clear h0 h1
    unfold m__law_pick at hm
    clear hret0 S
    obtain ⟨t3, h_t3, hm_⟩ := Option.bind_eq_some_iff.mp hm; clear hm; have hm := hm_; clear hm_
    obtain ⟨t4, h_t4, hm_⟩ := Option.bind_eq_some_iff.mp hm; clear hm; have hm := hm_; clear hm_
    obtain ⟨t5, h_t5, hm_⟩ := Option.bind_eq_some_iff.mp hm; clear hm; have hm := hm_; clear hm_
    exact s_ret (hret _ hm) (ev_ixL h_t5 (ev_var (ix_at 1 rfl) (by first | exact Or.inl rfl | exact Or.inr (Or.inl rfl) | exact Or.inr (Or.inr rfl)) rfl) (ev_modO h_t4 (ev_toint m_int (ev_R RI t3.1 (ev_set (ev_callM (r := t3) C__law_draw.fn (hr.mono (by decide)) C__law_draw.g C__law_draw.kp C__law_draw.b (ea_lend (ix_at 0 rfl) (by first | exact Or.inl rfl | exact Or.inr (Or.inl rfl) | exact Or.inr (Or.inr rfl)) rfl (ea_cons ev_int ea_nil)) (ix_at 0 rfl) (ix_at 0 rfl) (fun vs H Qk W F e S q => ⟨l_box, _, _, _, W, F, h_t3, S, q⟩) (fun P h => h) (outs_at (QS l_box (RC (RL K RI) (R1 RI)) t3.2) rfl)) .z))) (ev_lenL m_len (ev_var (ix_at 1 rfl) (by first | exact Or.inl rfl | exact Or.inr (Or.inl rfl) | exact Or.inr (Or.inr rfl)) rfl)))) (pick_1 (i := 0) rfl) rfl
abbrev s__law_lot : Stmt := topS 20
abbrev N__law_lot : List Str := ["box", "wide", "left", "found", "k", "spot"]
theorem sc__law_lot : FnScope N__law_lot ["box"] (defScope s__law_lot) := ⟨rfl, rfl, rfl, by decide +kernel, rfl, by decide +kernel, by decide +kernel⟩
def sp__law_lot (K : PySem.W.Frag) : Sp := fun vs H Qk _ => ∃ (l_box : Addr) (box1 : ((List Int) × Int)) (r : ((List (Int × Int)) × ((List Int) × Int))) (W : Fx) (F : Hp), m__law_lot box1 = some r ∧ Sat W (([own l_box (QS l_box (RC (RL K RI) (R1 RI)) box1)] : List Sd).map some) (vs.map some) F H ∧ ∀ v H', Rt W (fun q P => P = imm (RL K (RH (RC RI (R1 RI)))) q.1) (fun q => [own l_box (QS l_box (RC (RL K RI) (R1 RI)) q.2)]) r v H' → Qk v H'
theorem ok__law_lot {P : Program} {w : World} {K : PySem.W.Frag} {mg : Str → Option Value} {base : Heap} (m_range : mg "range" = none) {f__law_pick : Addr} {fd__law_pick : FuncData} (C__law_pick : Cal P w K mg base "_law_pick" 2 f__law_pick fd__law_pick ["box", "row"] (sp__law_pick K)) {f__law_draw : Addr} {fd__law_draw : FuncData} (C__law_draw : Cal P w K mg base "_law_draw" 1 f__law_draw fd__law_draw ["box", "many"] (sp__law_draw K)) {fa : Addr} {fd : FuncData} (FF : FnP K "_law_lot" s__law_lot fa fd) : FnOk P w K mg base CX0 3 fa fd ["box"] (sp__law_lot K) := by
  refine fn_okD FF sc__law_lot (fun vs H Q E h => ?_) (fun cdv A outer s H vs Qk E hr h => ?_)
  · obtain ⟨l_box, box1, r, W, F0, hm, S, _⟩ := h
    exact sat_len S
  · obtain ⟨l_box, box1, r, W, F0, hm, S, hret0⟩ := h
    have hret : ∀ q, some q = some r → ∀ v H', Rt W (fun q P => P = imm (RL K (RH (RC RI (R1 RI)))) q.1) (fun q => [own l_box (QS l_box (RC (RL K RI) (R1 RI)) q.2)]) q v H' → Qk v H' := fun q e v H' h => hret0 v H' (by cases e; exact h)
    have h0 : Sat W [some (own l_box (QS l_box (RC (RL K RI) (R1 RI)) box1)), none, none, none, none, none] (L2.start N__law_lot vs) F0 H := start_tr S rfl
    have h1 := fun (PP : L2.St → Hp → Prop) (h : Tr W [some (own l_box (QS l_box (RC (RL K RI) (R1 RI)) box1)), none, none, none, none, none] PP) => tr_run h _ F0 _ h0
    refine h1 _ ?_
    clear h0 h1
    unfold m__law_lot at hm
    clear hret0 S
    obtain ⟨t2, h_t2, hm_⟩ := Option.bind_eq_some_iff.mp hm; clear hm; have hm := hm_; clear hm_
    refine s_set (ev_R RI t2.1 (ev_set (ev_callM (r := t2) C__law_pick.fn (hr.mono (by decide)) C__law_pick.g C__law_pick.kp C__law_pick.b (ea_lend (ix_at 0 rfl) (by first | exact Or.inl rfl | exact Or.inr (Or.inl rfl) | exact Or.inr (Or.inr rfl)) rfl (ea_cons (EvO.fix (eo_lst (el_cons ev_int (el_cons ev_int (el_cons ev_int (el_cons ev_int el_nil)))))) ea_nil)) (ix_at 0 rfl) (ix_at 0 rfl) (fun vs H Qk W F e S q => ⟨Int, RI, l_box, _, _, _, W, F, h_t2, S, q⟩) (fun P h => h) (outs_at (QS l_box (RC (RL K RI) (R1 RI)) t2.2) rfl)) .z)) sc__law_lot.nd (ix_at 1 rfl) (by first | exact Or.inl rfl | exact Or.inr rfl) ?_
    refine tr_set (.s .z) ?_
    obtain ⟨t3, h_t3, hm_⟩ := Option.bind_eq_some_iff.mp hm; clear hm; have hm := hm_; clear hm_
    obtain ⟨left4, h_left4, hm_⟩ := lt_get hm; clear hm; have hm := hm_; clear hm_
    refine s_set (Ev.eq (ev_sub (ev_R RI t3.1 (ev_set (ev_callM (r := t3) C__law_draw.fn (hr.mono (by decide)) C__law_draw.g C__law_draw.kp C__law_draw.b (ea_lend (ix_at 0 rfl) (by first | exact Or.inl rfl | exact Or.inr (Or.inl rfl) | exact Or.inr (Or.inr rfl)) rfl (ea_cons ev_int ea_nil)) (ix_at 0 rfl) (ix_at 0 rfl) (fun vs H Qk W F e S q => ⟨l_box, _, _, _, W, F, h_t3, S, q⟩) (fun P h => h) (outs_at (QS l_box (RC (RL K RI) (R1 RI)) t3.2) rfl)) .z)) ev_int) h_left4) sc__law_lot.nd (ix_at 2 rfl) (by first | exact Or.inl rfl | exact Or.inr rfl) ?_
    refine tr_set (.s (.s .z)) ?_
    obtain ⟨found5, h_found5, hm_⟩ := lt_get hm; clear hm; have hm := hm_; clear hm_
    refine s_new (EvO.eqL (eo_lst (el_nilR (RH (RC RI (R1 RI))))) h_found5) sc__law_lot.nd (ix_at 3 rfl) (by first | exact Or.inl rfl | exact Or.inr rfl) (fun l_found6 => ?_)
    refine tr_set (.s (.s (.s .z))) ?_
    obtain ⟨t7, h_t7, hm_⟩ := Option.bind_eq_some_iff.mp hm; clear hm; have hm := hm_; clear hm_
    obtain ⟨g8, h_g8, hm_⟩ := Option.bind_eq_some_iff.mp hm; clear hm; have hm := hm_; clear hm_
    refine s_for (t7.2, found5) (fun (s9 : (((List Int) × Int) × (List (Int × Int)))) => [some (own l_box (QS l_box (RC (RL K RI) (R1 RI)) s9.1)), some (imm RI t2.1), some (imm RI left4), some (own l_found6 (QL l_found6 (RH (RC RI (R1 RI))) s9.2)), none, none]) (src_rng1 m_range (gd_of h_g8) (ev_R RI t7.1 (ev_set (ev_callM (r := t7) C__law_pick.fn (hr.mono (by decide)) C__law_pick.g C__law_pick.kp C__law_pick.b (ea_lend (ix_at 0 rfl) (by first | exact Or.inl rfl | exact Or.inr (Or.inl rfl) | exact Or.inr (Or.inr rfl)) rfl (ea_cons (EvO.fix (eo_lst (el_cons ev_int (el_cons ev_int (el_cons ev_int (el_cons ev_int (el_cons ev_int (el_cons ev_int (el_cons ev_int el_nil))))))))) ea_nil)) (ix_at 0 rfl) (ix_at 0 rfl) (fun vs H Qk W F e S q => ⟨Int, RI, l_box, _, _, _, W, F, h_t7, S, q⟩) (fun P h => h) (outs_at (QS l_box (RC (RL K RI) (R1 RI)) t7.2) rfl)) .z))) (.eq (.eq (.eq (.eq (.no (.no .nil)))))) hm ?_ ?_
    · intro W hW a10 s9 t12 ha_a10 hm
      refine ⟨_, _, (tg_name sc__law_lot.nd (ix_at 4 rfl) (by first | exact Or.inl rfl | exact Or.inr rfl)), ?_⟩
      refine tr_set (.s (.s (.s (.s .z)))) ?_
      obtain ⟨t13, h_t13, hm_⟩ := Option.bind_eq_some_iff.mp hm; clear hm; have hm := hm_; clear hm_
      obtain ⟨t14, h_t14, hm_⟩ := Option.bind_eq_some_iff.mp hm; clear hm; have hm := hm_; clear hm_
      obtain ⟨spot15, h_spot15, hm_⟩ := lt_get hm; clear hm; have hm := hm_; clear hm_
      refine s_set (Ev.eq (ev_tupH (er_cons (ev_add (ev_var (ix_at 2 rfl) (by first | exact Or.inl rfl | exact Or.inr (Or.inl rfl) | exact Or.inr (Or.inr rfl)) rfl) (ev_R RI t13.1 (ev_set (ev_callM (r := t13) C__law_draw.fn (hr.mono (by decide)) C__law_draw.g C__law_draw.kp C__law_draw.b (ea_lend (ix_at 0 rfl) (by first | exact Or.inl rfl | exact Or.inr (Or.inl rfl) | exact Or.inr (Or.inr rfl)) rfl (ea_cons (ev_var (ix_at 1 rfl) (by first | exact Or.inl rfl | exact Or.inr (Or.inl rfl) | exact Or.inr (Or.inr rfl)) rfl) ea_nil)) (ix_at 0 rfl) (ix_at 0 rfl) (fun vs H Qk W F e S q => ⟨l_box, _, _, _, W, F, h_t13, S, q⟩) (fun P h => h) (outs_at (QS l_box (RC (RL K RI) (R1 RI)) t13.2) rfl)) .z))) (er_one (ev_sub (ev_R RI t14.1 (ev_set (ev_callM (r := t14) C__law_draw.fn (hr.mono (by decide)) C__law_draw.g C__law_draw.kp C__law_draw.b (ea_lend (ix_at 0 rfl) (by first | exact Or.inl rfl | exact Or.inr (Or.inl rfl) | exact Or.inr (Or.inr rfl)) rfl (ea_cons (ev_var (ix_at 1 rfl) (by first | exact Or.inl rfl | exact Or.inr (Or.inl rfl) | exact Or.inr (Or.inr rfl)) rfl) ea_nil)) (ix_at 0 rfl) (ix_at 0 rfl) (fun vs H Qk W F e S q => ⟨l_box, _, _, _, W, F, h_t14, S, q⟩) (fun P h => h) (outs_at (QS l_box (RC (RL K RI) (R1 RI)) t14.2) rfl)) .z)) (ev_var (ix_at 2 rfl) (by first | exact Or.inl rfl | exact Or.inr (Or.inl rfl) | exact Or.inr (Or.inr rfl)) rfl))))) h_spot15) sc__law_lot.nd (ix_at 5 rfl) (by first | exact Or.inl rfl | exact Or.inr rfl) ?_
      refine tr_set (.s (.s (.s (.s (.s .z))))) ?_
      refine s_if (et_lend (.fz (fz_listS (K := K)) (.im rfl (.im rfl (.fz (fz_list (K := K)) (.im rfl (.im rfl .nil)))))) (et_cmp (cmp_ninL (d_H (d_cons d_I (d_one d_I))) hr (Nat.le_of_ble_eq_true rfl)) (ev_var (ix_at 5 rfl) (by first | exact Or.inl rfl | exact Or.inr (Or.inl rfl) | exact Or.inr (Or.inr rfl)) rfl) (ev_var (ix_at 3 rfl) (by first | exact Or.inl rfl | exact Or.inr (Or.inl rfl) | exact Or.inr (Or.inr rfl)) rfl) (by with_unfolding_all rfl))) hm ?_ ?_
      · intro hc16 hm
        obtain ⟨found17, h_found17, hm_⟩ := Option.bind_eq_some_iff.mp hm; clear hm; have hm := hm_; clear hm_
        refine s_app h_found17 (ix_at 3 rfl) (by first | exact Or.inl rfl | exact Or.inr (Or.inl rfl) | exact Or.inr (Or.inr rfl)) rfl (ev_var (ix_at 5 rfl) (by first | exact Or.inl rfl | exact Or.inr (Or.inl rfl) | exact Or.inr (Or.inr rfl)) rfl) rfl ?_
        refine tr_set (.s (.s (.s .z))) ?_
        refine s_nil ?_
        refine s_nil ?_
        obtain rfl := Option.some.inj hm
        exact tr_at (.eq (.eq (.eq (.eq (.no (.no .nil))))))
      · intro hc16 hm
        refine s_nil ?_
        refine s_nil ?_
        obtain rfl := Option.some.inj hm
        exact tr_at (.eq (.eq (.eq (.eq (.no (.no .nil))))))
    · intro s18 hm
      refine s_fix 3 K rfl ?_
      refine tr_set (.s (.s (.s .z))) ?_
      exact s_ret (hret _ hm) (ev_var (ix_at 3 rfl) (by first | exact Or.inl rfl | exact Or.inr (Or.inl rfl) | exact Or.inr (Or.inr rfl)) rfl) (pick_1 (i := 0) rfl) rfl
abbrev s_moved : Stmt := topS 5
abbrev N_moved : List Str := ["place", "way", "many"]
theorem sc_moved : FnScope N_moved ["place", "way", "many"] (defScope s_moved) := ⟨rfl, rfl, rfl, by decide +kernel, rfl, by decide +kernel, by decide +kernel⟩
def sp_moved (K : PySem.W.Frag) : Sp := fun vs H Qk _ => ∃ (place1 : (Int × Int)) (way2 : Int) (many3 : Int) (r : (Int × Int)) (W : Fx) (F : Hp), m_moved place1 way2 many3 = some r ∧ Sat W (([imm (RH (RC RI (R1 RI))) place1, imm RI way2, imm RI many3] : List Sd).map some) (vs.map some) F H ∧ ∀ v H', Rt W (Imm (RH (RC RI (R1 RI)))) (fun _ => []) r v H' → Qk v H'
theorem ok_moved {P : Program} {w : World} {K : PySem.W.Frag} {mg : Str → Option Value} {base : Heap} (G_STEPS : Gc K mg "STEPS" (RV K (RT K (RC RI (R1 RI)))) c_STEPS) {fa : Addr} {fd : FuncData} (FF : FnP K "moved" s_moved fa fd) : FnOk P w K mg base CX0 1 fa fd ["place", "way", "many"] (sp_moved K) := by
  refine fn_okD FF sc_moved (fun vs H Q E h => ?_) (fun cdv A outer s H vs Qk E hr h => ?_)
  · obtain ⟨place1, way2, many3, r, W, F0, hm, S, _⟩ := h
    exact sat_len S
  · obtain ⟨place1, way2, many3, r, W, F0, hm, S, hret0⟩ := h
    have hret : ∀ q, some q = some r → ∀ v H', Rt W (Imm (RH (RC RI (R1 RI)))) (fun _ => []) q v H' → Qk v H' := fun q e v H' h => hret0 v H' (by cases e; exact h)
    have h0 : Sat W [some (imm (RH (RC RI (R1 RI))) place1), some (imm RI way2), some (imm RI many3)] (L2.start N_moved vs) F0 H := start_tr S rfl
    have h1 := fun (PP : L2.St → Hp → Prop) (h : Tr W [some (imm (RH (RC RI (R1 RI))) place1), some (imm RI way2), some (imm RI many3)] PP) => tr_run h _ F0 _ h0
    refine h1 _ ?_
    clear h0 h1
    unfold m_moved at hm
    clear hret0 S
    obtain ⟨t4, h_t4, hm_⟩ := Option.bind_eq_some_iff.mp hm; clear hm; have hm := hm_; clear hm_
    obtain ⟨t5, h_t5, hm_⟩ := Option.bind_eq_some_iff.mp hm; clear hm; have hm := hm_; clear hm_
    obtain ⟨t6, h_t6, hm_⟩ := Option.bind_eq_some_iff.mp hm; clear hm; have hm := hm_; clear hm_
    obtain ⟨t7, h_t7, hm_⟩ := Option.bind_eq_some_iff.mp hm; clear hm; have hm := hm_; clear hm_
    exact s_ret (hret _ hm) (ev_tupH (er_cons (ev_add (ev_ixH pj_hd (ixn_at 0 rfl) (ev_var (ix_at 0 rfl) (by first | exact Or.inl rfl | exact Or.inr (Or.inl rfl) | exact Or.inr (Or.inr rfl)) rfl) ev_int) (ev_mulO h_t5 (ev_ixT pj_hd (ixn_at 0 rfl) (ev_ixV h_t4 (ev_glob G_STEPS) (ev_var (ix_at 1 rfl) (by first | exact Or.inl rfl | exact Or.inr (Or.inl rfl) | exact Or.inr (Or.inr rfl)) rfl)) ev_int) (ev_var (ix_at 2 rfl) (by first | exact Or.inl rfl | exact Or.inr (Or.inl rfl) | exact Or.inr (Or.inr rfl)) rfl))) (er_one (ev_add (ev_ixH (pj_tl pj_one) (ixn_at 1 rfl) (ev_var (ix_at 0 rfl) (by first | exact Or.inl rfl | exact Or.inr (Or.inl rfl) | exact Or.inr (Or.inr rfl)) rfl) ev_int) (ev_mulO h_t7 (ev_ixT (pj_tl pj_one) (ixn_at 1 rfl) (ev_ixV h_t6 (ev_glob G_STEPS) (ev_var (ix_at 1 rfl) (by first | exact Or.inl rfl | exact Or.inr (Or.inl rfl) | exact Or.inr (Or.inr rfl)) rfl)) ev_int) (ev_var (ix_at 2 rfl) (by first | exact Or.inl rfl | exact Or.inr (Or.inl rfl) | exact Or.inr (Or.inr rfl)) rfl)))))) pick_nil rfl
abbrev s_beside : Stmt := topS 6
abbrev N_beside : List Str := ["place", "way"]
theorem sc_beside : FnScope N_beside ["place"] (defScope s_beside) := ⟨rfl, rfl, rfl, by decide +kernel, rfl, by decide +kernel, by decide +kernel⟩
def sp_beside (K : PySem.W.Frag) : Sp := fun vs H Qk _ => ∃ (place1 : (Int × Int)) (r : (List (Int × Int))) (W : Fx) (F : Hp), m_beside place1 = some r ∧ Sat W (([imm (RH (RC RI (R1 RI))) place1] : List Sd).map some) (vs.map some) F H ∧ ∀ v H', Rt W (Imm (RL K (RH (RC RI (R1 RI))))) (fun _ => []) r v H' → Qk v H'
theorem ok_beside {P : Program} {w : World} {K : PySem.W.Frag} {mg : Str → Option Value} {base : Heap} (m_range : mg "range" = none) {f_moved : Addr} {fd_moved : FuncData} (C_moved : Cal P w K mg base "moved" 1 f_moved fd_moved ["place", "way", "many"] (sp_moved K)) {fa : Addr} {fd : FuncData} (FF : FnP K "beside" s_beside fa fd) : FnOk P w K mg base CX0 2 fa fd ["place"] (sp_beside K) := by
  refine fn_okD FF sc_beside (fun vs H Q E h => ?_) (fun cdv A outer s H vs Qk E hr h => ?_)
  · obtain ⟨place1, r, W, F0, hm, S, _⟩ := h
    exact sat_len S
  · obtain ⟨place1, r, W, F0, hm, S, hret0⟩ := h
    have hret : ∀ q, some q = some r → ∀ v H', Rt W (Imm (RL K (RH (RC RI (R1 RI))))) (fun _ => []) q v H' → Qk v H' := fun q e v H' h => hret0 v H' (by cases e; exact h)
    have h0 : Sat W [some (imm (RH (RC RI (R1 RI))) place1), none] (L2.start N_beside vs) F0 H := start_tr S rfl
    have h1 := fun (PP : L2.St → Hp → Prop) (h : Tr W [some (imm (RH (RC RI (R1 RI))) place1), none] PP) => tr_run h _ F0 _ h0
    refine h1 _ ?_
    clear h0 h1
    unfold m_beside at hm
    clear hret0 S
    obtain ⟨t5, h_t5, hm_⟩ := Option.bind_eq_some_iff.mp hm; clear hm; have hm := hm_; clear hm_
    exact s_ret (hret _ hm) (EvO.fix (eo_lc (lk_O (own := [("way", 1)]) (T := (RH (RC RI (R1 RI)))) [some (imm (RH (RC RI (R1 RI))) place1), none] (src_rng1 m_range (by decide) ev_int) h_t5 sc_beside.nd (blkOk_by (N := N_beside) (sc := (defScope s_beside)) (by decide +kernel)) (.eq (.no .nil)) ⟨rfl, trivial⟩ (.keep (.keep .nil)) (fun a2 b6 ha hb => by obtain ⟨t4, h_t4, hb⟩ := Option.bind_eq_some_iff.mp hb; exact turn0 [1] _ _ (by decide) (fun W _ _ _ _ _ _ => (tg_name sc_beside.nd (ix_at 1 rfl) (by first | exact Or.inl rfl | exact Or.inr rfl))) (fun W _ _ _ _ _ _ => Ev.eq (ev_call C_moved.fn (hr.mono (by decide)) C_moved.g C_moved.kp C_moved.b (ea_cons (ev_var (ix_at 0 rfl) (by first | exact Or.inl rfl | exact Or.inr (Or.inl rfl) | exact Or.inr (Or.inr rfl)) rfl) (ea_cons (ev_var (ix_at 1 rfl) (by first | exact Or.inl rfl | exact Or.inr (Or.inl rfl) | exact Or.inr (Or.inr rfl)) rfl) (ea_cons ev_int ea_nil))) (fun vs H Qk W F e S q => ⟨_, _, _, _, W, F, h_t4, S, q⟩)) (Option.some.inj hb)) (.eq (.no .nil)))))) pick_nil rfl
abbrev s_pieces : Stmt := topS 7
abbrev N_pieces : List Str := ["places", "left", "found", "piece", "at", "far"]
theorem sc_pieces : FnScope N_pieces ["places"] (defScope s_pieces) := ⟨rfl, rfl, rfl, by decide +kernel, rfl, by decide +kernel, by decide +kernel⟩
def sp_pieces (K : PySem.W.Frag) : Sp := fun vs H Qk _ => ∃ (places1 : (List (Int × Int))) (r : (List (List (Int × Int)))) (W : Fx) (F : Hp), m_pieces places1 = some r ∧ Sat W (([imm (RL K (RH (RC RI (R1 RI)))) places1] : List Sd).map some) (vs.map some) F H ∧ ∀ v H', Rt W (OwnX fun fp q => (tree fp (RLp (fun p_ => p_ ∈ fp) (RLp (fun p_ => p_ ∈ fp) (RH (RC RI (R1 RI))))) q)) (fun _ => []) r v H' → Qk v H'
theorem ok_pieces {P : Program} {w : World} {K : PySem.W.Frag} {mg : Str → Option Value} {base : Heap} (m_len : mg "len" = none) (m_sorted : mg "sorted" = none) {f_beside : Addr} {fd_beside : FuncData} (C_beside : Cal P w K mg base "beside" 2 f_beside fd_beside ["place"] (sp_beside K)) {fa : Addr} {fd : FuncData} (FF : FnP K "pieces" s_pieces fa fd) : FnOk P w K mg base CX0 3 fa fd ["places"] (sp_pieces K) := by
  refine fn_okD FF sc_pieces (fun vs H Q E h => ?_) (fun cdv A outer s H vs Qk E hr h => ?_)
  · obtain ⟨places1, r, W, F0, hm, S, _⟩ := h
    exact sat_len S
  · obtain ⟨places1, r, W, F0, hm, S, hret0⟩ := h
    have hret : ∀ q, some q = some r → ∀ v H', Rt W (OwnX fun fp q => (tree fp (RLp (fun p_ => p_ ∈ fp) (RLp (fun p_ => p_ ∈ fp) (RH (RC RI (R1 RI))))) q)) (fun _ => []) q v H' → Qk v H' := fun q e v H' h => hret0 v H' (by cases e; exact h)
    have h0 : Sat W [some (imm (RL K (RH (RC RI (R1 RI)))) places1), none, none, none, none, none] (L2.start N_pieces vs) F0 H := start_tr S rfl
    have h1 := fun (PP : L2.St → Hp → Prop) (h : Tr W [some (imm (RL K (RH (RC RI (R1 RI)))) places1), none, none, none, none, none] PP) => tr_run h _ F0 _ h0
    refine h1 _ ?_
    clear h0 h1
    unfold m_pieces at hm
    clear hret0 S
    obtain ⟨We, hWe, hretE⟩ : ∃ We : Fx, We.le W ∧ ∀ q, some q = some r → ∀ v H', Rt We (OwnX fun fp q => (tree fp (RLp (fun p_ => p_ ∈ fp) (RLp (fun p_ => p_ ∈ fp) (RH (RC RI (R1 RI))))) q)) (fun _ => []) q v H' → Qk v H' := ⟨W, Fx.le_refl W, hret⟩
    clear hret
    have hWl := Fx.le.lw hWe
    obtain ⟨left2, h_left2, hm_⟩ := lt_get hm; clear hm; have hm := hm_; clear hm_
    refine s_new (EvO.eqL (eo_sortedE (enT (enC enI (en1 enI))) (od_H (od_cons od_I (od_one od_I))) rfl hr (Nat.le_of_ble_eq_true rfl) m_sorted (ev_var (ix_at 0 rfl) (by first | exact Or.inl rfl | exact Or.inr (Or.inl rfl) | exact Or.inr (Or.inr rfl)) rfl)) h_left2) sc_pieces.nd (ix_at 1 rfl) (by first | exact Or.inl rfl | exact Or.inr rfl) (fun l_left3 => ?_)
    refine tr_set (.s .z) ?_
    refine s_fix 1 K rfl ?_
    refine tr_set (.s .z) ?_
    obtain ⟨found4, h_found4, hm_⟩ := lt_get hm; clear hm; have hm := hm_; clear hm_
    refine s_new (EvO.eqL (eo_lst (el_nilR (RLp (Fsh We) (RH (RC RI (R1 RI)))))) h_found4) sc_pieces.nd (ix_at 2 rfl) (by first | exact Or.inl rfl | exact Or.inr rfl) (fun l_found5 => ?_)
    refine tr_set (.s (.s .z)) ?_
    refine s_while (left2, found4) (fun (s6 : ((List (Int × Int)) × (List (List (Int × Int))))) => [some (imm (RL K (RH (RC RI (R1 RI)))) places1), some (imm (RL K (RH (RC RI (R1 RI)))) s6.1), some (own l_found5 (QL l_found5 (RLp (Fsh We) (RH (RC RI (R1 RI)))) s6.2)), none, none, none]) (fun _ _ _ => False) (.eq (.eq (.eq (.no (.no (.no .nil)))))) hm ?_ ?_ ?_ (fun _ e => nomatch e)
    · intro s6 t hm
      exact et_eq (et_cmp cmp_gt (ev_lenL m_len (ev_var (ix_at 1 rfl) (by first | exact Or.inl rfl | exact Or.inr (Or.inl rfl) | exact Or.inr (Or.inr rfl)) rfl)) ev_int (nomark _)) (Option.some.inj hm)
    · intro s6 t8 hm
      obtain ⟨t9, h_t9, hm_⟩ := Option.bind_eq_some_iff.mp hm; clear hm; have hm := hm_; clear hm_
      obtain ⟨piece10, h_piece10, hm_⟩ := lt_get hm; clear hm; have hm := hm_; clear hm_
      refine s_new (EvO.eqL (eo_lst (el_cons (ev_ixL h_t9 (ev_var (ix_at 1 rfl) (by first | exact Or.inl rfl | exact Or.inr (Or.inl rfl) | exact Or.inr (Or.inr rfl)) rfl) ev_int) el_nil)) h_piece10) sc_pieces.nd (ix_at 3 rfl) (by first | exact Or.inl rfl | exact Or.inr rfl) (fun l_piece11 => ?_)
      refine tr_set (.s (.s (.s .z))) ?_
      refine s_set ev_int sc_pieces.nd (ix_at 4 rfl) (by first | exact Or.inl rfl | exact Or.inr rfl) ?_
      refine tr_set (.s (.s (.s (.s .z)))) ?_
      refine s_while (piece10, (0 : Int)) (fun (s12 : ((List (Int × Int)) × Int)) => [some (imm (RL K (RH (RC RI (R1 RI)))) places1), some (imm (RL K (RH (RC RI (R1 RI)))) s6.1), some (own l_found5 (QL l_found5 (RLp (Fsh We) (RH (RC RI (R1 RI)))) s6.2)), some (own l_piece11 (QL l_piece11 (RH (RC RI (R1 RI))) s12.1)), some (imm RI s12.2), none]) (fun _ _ _ => False) (.eq (.eq (.eq (.eq (.eq (.no .nil)))))) hm ?_ ?_ ?_ (fun _ e => nomatch e)
      · intro s12 t hm
        exact et_eq (et_lend (.im rfl (.im rfl (.fz (fz_list (K := K)) (.fz (fz_list (K := K)) (.im rfl (.no .nil)))))) (et_cmp cmp_lt (ev_var (ix_at 4 rfl) (by first | exact Or.inl rfl | exact Or.inr (Or.inl rfl) | exact Or.inr (Or.inr rfl)) rfl) (ev_lenL m_len (ev_var (ix_at 3 rfl) (by first | exact Or.inl rfl | exact Or.inr (Or.inl rfl) | exact Or.inr (Or.inr rfl)) rfl)) (nomark _))) (Option.some.inj hm)
      · intro s12 t14 hm
        obtain ⟨t15, h_t15, hm_⟩ := Option.bind_eq_some_iff.mp hm; clear hm; have hm := hm_; clear hm_
        obtain ⟨t16, h_t16, hm_⟩ := Option.bind_eq_some_iff.mp hm; clear hm; have hm := hm_; clear hm_
        obtain ⟨piece19, h_piece19, hm_⟩ := Option.bind_eq_some_iff.mp hm; clear hm; have hm := hm_; clear hm_
        refine s_ext h_piece19 (ix_at 3 rfl) (by first | exact Or.inl rfl | exact Or.inr (Or.inl rfl) | exact Or.inr (Or.inr rfl)) rfl (EvO.fix (eo_lend2 (.im rfl (.im rfl (.fz (fz2_list (K := K)) (.fz (fz2_list (K := K)) (.im rfl (.no .nil)))))) (dn_H (dnr_C (dn_flat flat_I) (dnr_1 (dn_flat flat_I)))) (eo_lc (lk_P (own := [("far", 5)]) (T := (RH (RC RI (R1 RI)))) (fun (a17 : (Int × Int)) => ((decide (a17 ∈ s6.1)) && (!(decide (a17 ∈ s12.1))))) (fun (a17 : (Int × Int)) => a17) [some (imm (RL K (RH (RC RI (R1 RI)))) places1), some (imm (RL K (RH (RC RI (R1 RI)))) s6.1), some (imm (RL K (RLp (Fsh We) (RH (RC RI (R1 RI))))) s6.2), some (imm (RL K (RH (RC RI (R1 RI)))) s12.1), some (imm RI s12.2), none] (src_list (ev_call C_beside.fn (hr.mono (by decide)) C_beside.g C_beside.kp C_beside.b (ea_cons (ev_ixL h_t15 (ev_var (ix_at 3 rfl) (by first | exact Or.inl rfl | exact Or.inr (Or.inl rfl) | exact Or.inr (Or.inr rfl)) rfl) (ev_var (ix_at 4 rfl) (by first | exact Or.inl rfl | exact Or.inr (Or.inl rfl) | exact Or.inr (Or.inr rfl)) rfl)) ea_nil) (fun vs H Qk W F e S q => ⟨_, _, W, F, h_t16, S, q⟩))) sc_pieces.nd (blkOk_by (N := N_pieces) (sc := (defScope s_pieces)) (by decide +kernel)) (.eq (.eq (.eq (.eq (.eq (.no .nil)))))) ⟨rfl, trivial⟩ (.keep (.keep (.keep (.keep (.keep (.keep .nil)))))) (fun a17 ha => turn1 (k := ((decide (a17 ∈ s6.1)) && (!(decide (a17 ∈ s12.1))))) [5] _ _ (by decide) (fun W hl _ _ _ _ _ => have hWl := Fx.lw.trans hWl hl; (tg_name sc_pieces.nd (ix_at 5 rfl) (by first | exact Or.inl rfl | exact Or.inr rfl))) (fun W hl _ _ _ _ _ => have hWl := Fx.lw.trans hWl hl; (et_w (ew_andP (et_cmp (cmp_inL (d_H (d_cons d_I (d_one d_I))) hr (Nat.le_of_ble_eq_true rfl)) (ev_var (ix_at 5 rfl) (by first | exact Or.inl rfl | exact Or.inr (Or.inl rfl) | exact Or.inr (Or.inr rfl)) rfl) (ev_var (ix_at 1 rfl) (by first | exact Or.inl rfl | exact Or.inr (Or.inl rfl) | exact Or.inr (Or.inr rfl)) rfl) (by with_unfolding_all rfl)) (ew_and1 (et_cmp (cmp_ninL (d_H (d_cons d_I (d_one d_I))) hr (Nat.le_of_ble_eq_true rfl)) (ev_var (ix_at 5 rfl) (by first | exact Or.inl rfl | exact Or.inr (Or.inl rfl) | exact Or.inr (Or.inr rfl)) rfl) (ev_var (ix_at 3 rfl) (by first | exact Or.inl rfl | exact Or.inr (Or.inl rfl) | exact Or.inr (Or.inr rfl)) rfl) (by with_unfolding_all rfl)))))) (isS_if _ _) (fun b hb => (fun W hl _ _ _ _ _ => have hWl := Fx.lw.trans hWl hl; Ev.eq (ev_var (ix_at 5 rfl) (by first | exact Or.inl rfl | exact Or.inr (Or.inl rfl) | exact Or.inr (Or.inr rfl)) rfl) (isS_eq hb))) (.eq (.eq (.eq (.eq (.eq (.no .nil)))))) (.eq (.eq (.eq (.eq (.eq (.no .nil))))))))))) rfl ?_
        refine tr_set (.s (.s (.s .z))) ?_
        obtain ⟨at20, h_at20, hm_⟩ := lt_get hm; clear hm; have hm := hm_; clear hm_
        refine s_aug (Op2.eq iop2_add h_at20) sc_pieces.nd (ix_at 4 rfl) (by first | exact Or.inl rfl | exact Or.inr rfl) rfl ev_int ?_
        refine tr_set (.s (.s (.s (.s .z)))) ?_
        refine s_nil ?_
        obtain rfl := Option.some.inj hm
        exact tr_nx (tr_at (.eq (.eq (.eq (.eq (.eq (.no .nil)))))))
      · intro s21 hm
        refine s_fix 3 K rfl ?_
        refine tr_set (.s (.s (.s .z))) ?_
        obtain ⟨found23, h_found23, hm_⟩ := Option.bind_eq_some_iff.mp hm; clear hm; have hm := hm_; clear hm_
        refine s_app h_found23 (ix_at 2 rfl) (by first | exact Or.inl rfl | exact Or.inr (Or.inl rfl) | exact Or.inr (Or.inr rfl)) rfl (EvO.fixF (eo_sortedE (enT (enC enI (en1 enI))) (od_H (od_cons od_I (od_one od_I))) rfl hr (Nat.le_of_ble_eq_true rfl) m_sorted (ev_var (ix_at 3 rfl) (by first | exact Or.inl rfl | exact Or.inr (Or.inl rfl) | exact Or.inr (Or.inr rfl)) rfl)) hWl) rfl ?_
        refine tr_set (.s (.s .z)) ?_
        obtain ⟨left26, h_left26, hm_⟩ := lt_get hm; clear hm; have hm := hm_; clear hm_
        refine s_new (EvO.eqL (eo_lc (lk_P (own := [("far", 5)]) (T := (RH (RC RI (R1 RI)))) (fun (a24 : (Int × Int)) => (!(decide (a24 ∈ s21.1)))) (fun (a24 : (Int × Int)) => a24) [some (imm (RL K (RH (RC RI (R1 RI)))) places1), some (imm (RL K (RH (RC RI (R1 RI)))) s6.1), some (own l_found5 (QL l_found5 (RLp (Fsh We) (RH (RC RI (R1 RI)))) found23)), some (imm (RL K (RH (RC RI (R1 RI)))) s21.1), some (imm RI s21.2), none] (src_list (ev_var (ix_at 1 rfl) (by first | exact Or.inl rfl | exact Or.inr (Or.inl rfl) | exact Or.inr (Or.inr rfl)) rfl)) sc_pieces.nd (blkOk_by (N := N_pieces) (sc := (defScope s_pieces)) (by decide +kernel)) (.eq (.eq (.eq (.eq (.eq (.no .nil)))))) ⟨rfl, trivial⟩ (.keep (.keep (.keep (.keep (.keep (.keep .nil)))))) (fun a24 ha => turn1 (k := (!(decide (a24 ∈ s21.1)))) [5] _ _ (by decide) (fun W hl _ _ _ _ _ => have hWl := Fx.lw.trans hWl hl; (tg_name sc_pieces.nd (ix_at 5 rfl) (by first | exact Or.inl rfl | exact Or.inr rfl))) (fun W hl _ _ _ _ _ => have hWl := Fx.lw.trans hWl hl; (et_cmp (cmp_ninL (d_H (d_cons d_I (d_one d_I))) hr (Nat.le_of_ble_eq_true rfl)) (ev_var (ix_at 5 rfl) (by first | exact Or.inl rfl | exact Or.inr (Or.inl rfl) | exact Or.inr (Or.inr rfl)) rfl) (ev_var (ix_at 3 rfl) (by first | exact Or.inl rfl | exact Or.inr (Or.inl rfl) | exact Or.inr (Or.inr rfl)) rfl) (by with_unfolding_all rfl))) (isS_if _ _) (fun b hb => (fun W hl _ _ _ _ _ => have hWl := Fx.lw.trans hWl hl; Ev.eq (ev_var (ix_at 5 rfl) (by first | exact Or.inl rfl | exact Or.inr (Or.inl rfl) | exact Or.inr (Or.inr rfl)) rfl) (isS_eq hb))) (.eq (.eq (.eq (.eq (.eq (.no .nil)))))) (.eq (.eq (.eq (.eq (.eq (.no .nil))))))))) h_left26) sc_pieces.nd (ix_at 1 rfl) (by first | exact Or.inl rfl | exact Or.inr rfl) (fun l_left27 => ?_)
        refine tr_set (.s .z) ?_
        refine s_nil ?_
        refine s_fix 1 K rfl ?_
        refine tr_set (.s .z) ?_
        obtain rfl := Option.some.inj hm
        exact tr_nx (tr_at (.eq (.eq (.eq (.no (.no (.no .nil)))))))
    · intro s29 hm
      refine s_fixF 2 rfl hWe ?_
      refine tr_set (.s (.s .z)) ?_
      exact s_retX (fun φ => (RLp φ (RLp φ (RH (RC RI (R1 RI)))))) (mo_p (mo_p mo_k)) (hretE _ hm) (ev_var (ix_at 2 rfl) (by first | exact Or.inl rfl | exact Or.inr (Or.inl rfl) | exact Or.inr (Or.inr rfl)) rfl) rfl (fun fp => ⟨fp, rfl⟩) hWe
abbrev s__law_cell : Stmt := topS 12
abbrev N__law_cell : List Str := ["script", "k"]
theorem sc__law_cell : FnScope N__law_cell ["script", "k"] (defScope s__law_cell) := ⟨rfl, rfl, rfl, by decide +kernel, rfl, by decide +kernel, by decide +kernel⟩
def sp__law_cell (K : PySem.W.Frag) : Sp := fun vs H Qk _ => ∃ (script1 : (List Int)) (k2 : Int) (r : Int) (W : Fx) (F : Hp), m__law_cell script1 k2 = some r ∧ Sat W (([imm (RQ K RI) script1, imm RI k2] : List Sd).map some) (vs.map some) F H ∧ ∀ v H', Rt W (Imm RI) (fun _ => []) r v H' → Qk v H'
theorem ok__law_cell {P : Program} {w : World} {K : PySem.W.Frag} {mg : Str → Option Value} {base : Heap} (m_len : mg "len" = none) {fa : Addr} {fd : FuncData} (FF : FnP K "_law_cell" s__law_cell fa fd) : FnOk P w K mg base CX0 1 fa fd ["script", "k"] (sp__law_cell K) := by
  refine fn_okD FF sc__law_cell (fun vs H Q E h => ?_) (fun cdv A outer s H vs Qk E hr h => ?_)
  · obtain ⟨script1, k2, r, W, F0, hm, S, _⟩ := h
    exact sat_len S
  · obtain ⟨script1, k2, r, W, F0, hm, S, hret0⟩ := h
    have hret : ∀ q, some q = some r → ∀ v H', Rt W (Imm RI) (fun _ => []) q v H' → Qk v H' := fun q e v H' h => hret0 v H' (by cases e; exact h)
    have h0 : Sat W [some (imm (RQ K RI) script1), some (imm RI k2)] (L2.start N__law_cell vs) F0 H := start_tr S rfl
    have h1 := fun (PP : L2.St → Hp → Prop) (h : Tr W [some (imm (RQ K RI) script1), some (imm RI k2)] PP) => tr_run h _ F0 _ h0
    refine h1 _ ?_
    clear h0 h1
    unfold m__law_cell at hm
    clear hret0 S
    refine s_if (et_cmp cmp_lt (ev_var (ix_at 1 rfl) (by first | exact Or.inl rfl | exact Or.inr (Or.inl rfl) | exact Or.inr (Or.inr rfl)) rfl) (ev_lenQ m_len (ev_var (ix_at 0 rfl) (by first | exact Or.inl rfl | exact Or.inr (Or.inl rfl) | exact Or.inr (Or.inr rfl)) rfl)) (nomark _)) hm ?_ ?_
    · intro hc3 hm
      obtain ⟨t4, h_t4, hm_⟩ := Option.bind_eq_some_iff.mp hm; clear hm; have hm := hm_; clear hm_
      exact s_ret (hret _ hm) (ev_ixQ h_t4 (ev_var (ix_at 0 rfl) (by first | exact Or.inl rfl | exact Or.inr (Or.inl rfl) | exact Or.inr (Or.inr rfl)) rfl) (ev_var (ix_at 1 rfl) (by first | exact Or.inl rfl | exact Or.inr (Or.inl rfl) | exact Or.inr (Or.inr rfl)) rfl)) pick_nil rfl
    · intro hc3 hm
      refine s_nil ?_
      exact s_ret (hret _ hm) ev_int pick_nil rfl
abbrev s__law_digits : Stmt := topS 13
abbrev N__law_digits : List Str := ["script", "first", "last", "digits", "k", "cell", "turn", "seed"]
theorem sc__law_digits : FnScope N__law_digits ["script", "first", "last"] (defScope s__law_digits) := ⟨rfl, rfl, rfl, by decide +kernel, rfl, by decide +kernel, by decide +kernel⟩
def sp__law_digits (K : PySem.W.Frag) : Sp := fun vs H Qk _ => ∃ (script1 : (List Int)) (first2 : Int) (last3 : Int) (r : (List Int)) (W : Fx) (F : Hp), m__law_digits script1 first2 last3 = some r ∧ Sat W (([imm (RQ K RI) script1, imm RI first2, imm RI last3] : List Sd).map some) (vs.map some) F H ∧ ∀ v H', Rt W (Imm (RL K RI)) (fun _ => []) r v H' → Qk v H'
theorem ok__law_digits {P : Program} {w : World} {K : PySem.W.Frag} {mg : Str → Option Value} {base : Heap} (m_int : mg "int" = none) (m_range : mg "range" = none) {f__law_cell : Addr} {fd__law_cell : FuncData} (C__law_cell : Cal P w K mg base "_law_cell" 1 f__law_cell fd__law_cell ["script", "k"] (sp__law_cell K)) {fa : Addr} {fd : FuncData} (FF : FnP K "_law_digits" s__law_digits fa fd) : FnOk P w K mg base CX0 2 fa fd ["script", "first", "last"] (sp__law_digits K) := by
  refine fn_okD FF sc__law_digits (fun vs H Q E h => ?_) (fun cdv A outer s H vs Qk E hr h => ?_)
  · obtain ⟨script1, first2, last3, r, W, F0, hm, S, _⟩ := h
    exact sat_len S
  · obtain ⟨script1, first2, last3, r, W, F0, hm, S, hret0⟩ := h
    have hret : ∀ q, some q = some r → ∀ v H', Rt W (Imm (RL K RI)) (fun _ => []) q v H' → Qk v H' := fun q e v H' h => hret0 v H' (by cases e; exact h)
    have h0 : Sat W [some (imm (RQ K RI) script1), some (imm RI first2), some (imm RI last3), none, none, none, none, none] (L2.start N__law_digits vs) F0 H := start_tr S rfl
    have h1 := fun (PP : L2.St → Hp → Prop) (h : Tr W [some (imm (RQ K RI) script1), some (imm RI first2), some (imm RI last3), none, none, none, none, none] PP) => tr_run h _ F0 _ h0
    refine h1 _ ?_
    clear h0 h1
    unfold m__law_digits at hm
    clear hret0 S
    obtain ⟨digits4, h_digits4, hm_⟩ := lt_get hm; clear hm; have hm := hm_; clear hm_
    refine s_new (EvO.eqL (eo_lst (el_nilR RI)) h_digits4) sc__law_digits.nd (ix_at 3 rfl) (by first | exact Or.inl rfl | exact Or.inr rfl) (fun l_digits5 => ?_)
    refine tr_set (.s (.s (.s .z))) ?_
    obtain ⟨g6, h_g6, hm_⟩ := Option.bind_eq_some_iff.mp hm; clear hm; have hm := hm_; clear hm_
    refine s_for digits4 (fun (s7 : ((List Int))) => [some (imm (RQ K RI) script1), some (imm RI first2), some (imm RI last3), some (own l_digits5 (QL l_digits5 RI s7)), none, none, none, none]) (src_rng2 m_range (gd_of h_g6) (ev_var (ix_at 1 rfl) (by first | exact Or.inl rfl | exact Or.inr (Or.inl rfl) | exact Or.inr (Or.inr rfl)) rfl) (ev_var (ix_at 2 rfl) (by first | exact Or.inl rfl | exact Or.inr (Or.inl rfl) | exact Or.inr (Or.inr rfl)) rfl)) (.eq (.eq (.eq (.eq (.no (.no (.no (.no .nil)))))))) hm ?_ ?_
    · intro W hW a8 s7 t10 ha_a8 hm
      refine ⟨_, _, (tg_name sc__law_digits.nd (ix_at 4 rfl) (by first | exact Or.inl rfl | exact Or.inr rfl)), ?_⟩
      refine tr_set (.s (.s (.s (.s .z)))) ?_
      obtain ⟨t11, h_t11, hm_⟩ := Option.bind_eq_some_iff.mp hm; clear hm; have hm := hm_; clear hm_
      refine s_set (ev_call C__law_cell.fn (hr.mono (by decide)) C__law_cell.g C__law_cell.kp C__law_cell.b (ea_cons (ev_var (ix_at 0 rfl) (by first | exact Or.inl rfl | exact Or.inr (Or.inl rfl) | exact Or.inr (Or.inr rfl)) rfl) (ea_cons (ev_var (ix_at 4 rfl) (by first | exact Or.inl rfl | exact Or.inr (Or.inl rfl) | exact Or.inr (Or.inr rfl)) rfl) ea_nil)) (fun vs H Qk W F e S q => ⟨_, _, _, W, F, h_t11, S, q⟩)) sc__law_digits.nd (ix_at 5 rfl) (by first | exact Or.inl rfl | exact Or.inr rfl) ?_
      refine tr_set (.s (.s (.s (.s (.s .z))))) ?_
      refine s_join (fun (s15 : (Int)) => [some (imm (RQ K RI) script1), some (imm RI first2), some (imm RI last3), some (own l_digits5 (QL l_digits5 RI s7)), some (imm RI a8), some (imm RI s15), none, none]) (et_cmp cmp_lt (ev_var (ix_at 5 rfl) (by first | exact Or.inl rfl | exact Or.inr (Or.inl rfl) | exact Or.inr (Or.inr rfl)) rfl) ev_int (nomark _)) hm ?_ ?_ ?_
      · intro s15 hc12 hm
        obtain ⟨cell14, h_cell14, hm_⟩ := lt_get hm; clear hm; have hm := hm_; clear hm_
        refine s_set (Ev.eq (ev_sub ev_int (ev_mulL (by decide) ev_int (ev_var (ix_at 5 rfl) (by first | exact Or.inl rfl | exact Or.inr (Or.inl rfl) | exact Or.inr (Or.inr rfl)) rfl))) h_cell14) sc__law_digits.nd (ix_at 5 rfl) (by first | exact Or.inl rfl | exact Or.inr rfl) ?_
        refine tr_set (.s (.s (.s (.s (.s .z))))) ?_
        refine s_nil ?_
        obtain rfl := Option.some.inj hm
        exact tr_at (.eq (.eq (.eq (.eq (.eq (.eq (.no (.no .nil))))))))
      · intro s15 hc12 hm
        refine s_nil ?_
        obtain rfl := Option.some.inj hm
        exact tr_at (.eq (.eq (.eq (.eq (.eq (.eq (.no (.no .nil))))))))
      · intro s15 hm
        refine s_if (et_cmp cmp_ge (ev_var (ix_at 5 rfl) (by first | exact Or.inl rfl | exact Or.inr (Or.inl rfl) | exact Or.inr (Or.inr rfl)) rfl) (Ev.eq (ev_powC (by decide) ev_int ev_int) (by decide)) (nomark _)) hm ?_ ?_
        · intro hc16 hm
          refine s_for (s7, s15) (fun (s17 : ((List Int) × Int)) => [some (imm (RQ K RI) script1), some (imm RI first2), some (imm RI last3), some (own l_digits5 (QL l_digits5 RI s17.1)), some (imm RI a8), some (imm RI s17.2), none, none]) (src_rng1 m_range (by decide) ev_int) (.eq (.eq (.eq (.eq (.eq (.eq (.no (.no .nil)))))))) hm ?_ ?_
          · intro W hW a18 s17 t20 ha_a18 hm
            refine ⟨_, _, (tg_name sc__law_digits.nd (ix_at 6 rfl) (by first | exact Or.inl rfl | exact Or.inr rfl)), ?_⟩
            refine tr_set (.s (.s (.s (.s (.s (.s .z)))))) ?_
            refine s_if (et_cmp cmp_gt (ev_var (ix_at 5 rfl) (by first | exact Or.inl rfl | exact Or.inr (Or.inl rfl) | exact Or.inr (Or.inr rfl)) rfl) ev_int (nomark _)) hm ?_ ?_
            · intro hc21 hm
              obtain ⟨digits22, h_digits22, hm_⟩ := Option.bind_eq_some_iff.mp hm; clear hm; have hm := hm_; clear hm_
              refine s_app h_digits22 (ix_at 3 rfl) (by first | exact Or.inl rfl | exact Or.inr (Or.inl rfl) | exact Or.inr (Or.inr rfl)) rfl (ev_modC (by decide) (ev_toint m_int (ev_var (ix_at 5 rfl) (by first | exact Or.inl rfl | exact Or.inr (Or.inl rfl) | exact Or.inr (Or.inr rfl)) rfl)) ev_int) rfl ?_
              refine tr_set (.s (.s (.s .z))) ?_
              obtain ⟨cell23, h_cell23, hm_⟩ := lt_get hm; clear hm; have hm := hm_; clear hm_
              refine s_set (Ev.eq (ev_divC (by decide) (ev_var (ix_at 5 rfl) (by first | exact Or.inl rfl | exact Or.inr (Or.inl rfl) | exact Or.inr (Or.inr rfl)) rfl) ev_int) h_cell23) sc__law_digits.nd (ix_at 5 rfl) (by first | exact Or.inl rfl | exact Or.inr rfl) ?_
              refine tr_set (.s (.s (.s (.s (.s .z))))) ?_
              refine s_nil ?_
              refine s_nil ?_
              obtain rfl := Option.some.inj hm
              exact tr_at (.eq (.eq (.eq (.eq (.eq (.eq (.no (.no .nil))))))))
            · intro hc21 hm
              refine s_nil ?_
              refine s_nil ?_
              obtain rfl := Option.some.inj hm
              exact tr_at (.eq (.eq (.eq (.eq (.eq (.eq (.no (.no .nil))))))))
          · intro s24 hm
            refine s_nil ?_
            refine s_nil ?_
            obtain rfl := Option.some.inj hm
            exact tr_at (.eq (.eq (.eq (.eq (.no (.no (.no (.no .nil))))))))
        · intro hc16 hm
          obtain ⟨seed26, h_seed26, hm_⟩ := lt_get hm; clear hm; have hm := hm_; clear hm_
          refine s_set (Ev.eq (ev_modC (by decide) (ev_toint m_int (ev_add (ev_add (ev_mulR (by decide) (ev_var (ix_at 5 rfl) (by first | exact Or.inl rfl | exact Or.inr (Or.inl rfl) | exact Or.inr (Or.inr rfl)) rfl) ev_int) (ev_mulR (by decide) (ev_var (ix_at 4 rfl) (by first | exact Or.inl rfl | exact Or.inr (Or.inl rfl) | exact Or.inr (Or.inr rfl)) rfl) ev_int)) ev_int)) ev_int) h_seed26) sc__law_digits.nd (ix_at 7 rfl) (by first | exact Or.inl rfl | exact Or.inr rfl) ?_
          refine tr_set (.s (.s (.s (.s (.s (.s (.s .z))))))) ?_
          refine s_for (s7, seed26) (fun (s27 : ((List Int) × Int)) => [some (imm (RQ K RI) script1), some (imm RI first2), some (imm RI last3), some (own l_digits5 (QL l_digits5 RI s27.1)), some (imm RI a8), some (imm RI s15), none, some (imm RI s27.2)]) (src_rng1 m_range (by decide) ev_int) (.eq (.eq (.eq (.eq (.eq (.eq (.no (.eq .nil)))))))) hm ?_ ?_
          · intro W hW a28 s27 t30 ha_a28 hm
            refine ⟨_, _, (tg_name sc__law_digits.nd (ix_at 6 rfl) (by first | exact Or.inl rfl | exact Or.inr rfl)), ?_⟩
            refine tr_set (.s (.s (.s (.s (.s (.s .z)))))) ?_
            obtain ⟨seed31, h_seed31, hm_⟩ := lt_get hm; clear hm; have hm := hm_; clear hm_
            refine s_set (Ev.eq (ev_modC (by decide) (ev_toint m_int (ev_add (ev_add (ev_mulR (by decide) (ev_var (ix_at 7 rfl) (by first | exact Or.inl rfl | exact Or.inr (Or.inl rfl) | exact Or.inr (Or.inr rfl)) rfl) ev_int) (ev_mulL (by decide) ev_int (ev_var (ix_at 6 rfl) (by first | exact Or.inl rfl | exact Or.inr (Or.inl rfl) | exact Or.inr (Or.inr rfl)) rfl))) ev_int)) ev_int) h_seed31) sc__law_digits.nd (ix_at 7 rfl) (by first | exact Or.inl rfl | exact Or.inr rfl) ?_
            refine tr_set (.s (.s (.s (.s (.s (.s (.s .z))))))) ?_
            obtain ⟨digits32, h_digits32, hm_⟩ := Option.bind_eq_some_iff.mp hm; clear hm; have hm := hm_; clear hm_
            refine s_app h_digits32 (ix_at 3 rfl) (by first | exact Or.inl rfl | exact Or.inr (Or.inl rfl) | exact Or.inr (Or.inr rfl)) rfl (ev_modC (by decide) (ev_toint m_int (ev_divC (by decide) (ev_var (ix_at 7 rfl) (by first | exact Or.inl rfl | exact Or.inr (Or.inl rfl) | exact Or.inr (Or.inr rfl)) rfl) ev_int)) ev_int) rfl ?_
            refine tr_set (.s (.s (.s .z))) ?_
            refine s_nil ?_
            obtain rfl := Option.some.inj hm
            exact tr_at (.eq (.eq (.eq (.eq (.eq (.eq (.no (.eq .nil))))))))
          · intro s33 hm
            refine s_nil ?_
            refine s_nil ?_
            obtain rfl := Option.some.inj hm
            exact tr_at (.eq (.eq (.eq (.eq (.no (.no (.no (.no .nil))))))))
    · intro s35 hm
      refine s_fix 3 K rfl ?_
      refine tr_set (.s (.s (.s .z))) ?_
      exact s_ret (hret _ hm) (ev_var (ix_at 3 rfl) (by first | exact Or.inl rfl | exact Or.inr (Or.inl rfl) | exact Or.inr (Or.inr rfl)) rfl) pick_nil rfl
abbrev s__law_same : Stmt := topS 17
abbrev N__law_same : List Str := ["told", "due", "k"]
theorem sc__law_same : FnScope N__law_same ["told", "due"] (defScope s__law_same) := ⟨rfl, rfl, rfl, by decide +kernel, rfl, by decide +kernel, by decide +kernel⟩
theorem same_step {P : Program} {w : World} {K : PySem.W.Frag} {mg : Str → Option Value} {base : Heap} (m_i : mg "isinstance" = none) (m_s : mg "str" = none) (m_r : mg "repr" = none) (m_n : mg "int" = none) (m_b : mg "bool" = none) (m_t : mg "tuple" = none) (m_l : mg "list" = none) (m_len : mg "len" = none) (m_range : mg "range" = none)
    {fa : Addr} {fd : FuncData} (FF : FnP K "_law_same" s__law_same fa fd) (g : mg "_law_same" = some (.ref fa)) (kp : PySem.W.keepIn K (.ref fa) = true) (b : Binds K fd ["told", "due"] []) (n : Nat)
    (IH : ∀ m, n = m + 1 → FnOk P w K mg base CX0 (m + 1) fa fd ["told", "due"] (sp_same m K)) : FnOk P w K mg base CX0 (n + 1) fa fd ["told", "due"] (sp_same n K) := by
  refine fn_okD FF sc__law_same (fun vs H Q E h => ?_) (fun cdv A outer s H vs Qk E hr h => ?_)
  · obtain ⟨d, W, F0, _, S, _⟩ := h
    exact sat_len S
  · obtain ⟨d, W, F0, hf, S, hret⟩ := h
    have S0 := start_tr (N := N__law_same) S rfl
    have weak : ∀ {α : Type} {R : Rp α} {x : α}, (∀ F v, rD K n F v d → R.r F v x) → Sat W [some (imm R x), some (imm R x), none] (L2.start N__law_same vs) F0 H := fun {α R x} hh => S0.weak rfl fun i Q e => by
      rcases i with _ | _ | _ | i
      · cases Option.some.inj (Option.some.inj e)
        exact ⟨_, rfl, fun v q => hh F0 v q, fun a m => nomatch m⟩
      · cases Option.some.inj (Option.some.inj e)
        exact ⟨_, rfl, fun v q => hh F0 v q, fun a m => nomatch m⟩
      · cases e
      · cases e
    cases d with
    | non =>
      refine tr_run (?_ : Tr W _ _) _ F0 _ (weak (R := RU) (x := ()) fun F v q => by cases n <;> exact q)
      refine s_if (m1 := some ()) (m2 := none) (r := ()) (b := true) (et_isU (ev_var (i := 1) rfl (Or.inl rfl) rfl)) rfl (fun _ _ => ?_) (fun h _ => nomatch h)
      exact s_ret hret (ev_isU (ev_var (i := 0) rfl (Or.inl rfl) rfl)) pick_nil rfl
    | bl k =>
      refine tr_run (?_ : Tr W _ _) _ F0 _ (weak (R := RB) (x := k) fun F v q => by cases n <;> exact q)
      refine s_if (m1 := none) (m2 := some ()) (r := ()) (b := false) (et_isNno nn_B (ev_var (i := 1) rfl (Or.inl rfl) rfl)) rfl (fun h _ => nomatch h) (fun _ _ => s_nil ?_)
      cases k with
      | true =>
        refine s_if (m1 := some ()) (m2 := none) (r := ()) (b := true) (et_is is_b (ev_var (i := 1) rfl (Or.inl rfl) rfl) ev_bl) rfl (fun _ _ => ?_) (fun h _ => nomatch h)
        exact s_ret hret (ev_is is_b (ev_var (i := 0) rfl (Or.inl rfl) rfl) ev_bl) pick_nil rfl
      | false =>
        refine s_if (m1 := none) (m2 := some ()) (r := ()) (b := false) (et_is is_b (ev_var (i := 1) rfl (Or.inl rfl) rfl) ev_bl) rfl (fun h _ => nomatch h) (fun _ _ => s_nil ?_)
        refine s_if (m1 := some ()) (m2 := none) (r := ()) (b := true) (et_is is_b (ev_var (i := 1) rfl (Or.inl rfl) rfl) ev_bl) rfl (fun _ _ => ?_) (fun h _ => nomatch h)
        exact s_ret hret (ev_is is_b (ev_var (i := 0) rfl (Or.inl rfl) rfl) ev_bl) pick_nil rfl
    | str z =>
      have hz : (reprText z).length ≤ sizeLine := by cases n <;> exact hf
      refine tr_run (?_ : Tr W _ _) _ F0 _ (weak (R := RS) (x := z) fun F v q => by cases n <;> exact q)
      refine s_if (m1 := none) (m2 := some ()) (r := ()) (b := false) (et_isNno nn_S (ev_var (i := 1) rfl (Or.inl rfl) rfl)) rfl (fun h _ => nomatch h) (fun _ _ => s_nil ?_)
      refine s_if (m1 := none) (m2 := some ()) (r := ()) (b := false) (et_is (is_nb nb_S) (ev_var (i := 1) rfl (Or.inl rfl) rfl) ev_bl) rfl (fun h _ => nomatch h) (fun _ _ => s_nil ?_)
      refine s_if (m1 := none) (m2 := some ()) (r := ()) (b := false) (et_is (is_nb nb_S) (ev_var (i := 1) rfl (Or.inl rfl) rfl) ev_bl) rfl (fun h _ => nomatch h) (fun _ _ => s_nil ?_)
      refine s_if (m1 := some ()) (m2 := none) (r := ()) (b := true) (et_val (ev_isi (T := "str") (k := true) m_i m_s (by decide +kernel) ty_S (by decide +kernel) (ev_var (i := 1) rfl (Or.inl rfl) rfl))) rfl (fun _ _ => ?_) (fun h _ => nomatch h)
      refine s_ret hret (Ev.eq (ev_andP (ev_isi (T := "str") (k := true) m_i m_s (by decide +kernel) ty_S (by decide +kernel) (ev_var (i := 0) rfl (Or.inl rfl) rfl)) (ev_and1 (ev_cmp cmp_eqS (ev_reprS hz m_r (ev_var (i := 0) rfl (Or.inl rfl) rfl)) (ev_reprS hz m_r (ev_var (i := 1) rfl (Or.inl rfl) rfl)) (nomark _)))) (by simp)) pick_nil rfl
    | int z =>
      have hz : z.natAbs.log2 < 1920 := by cases n <;> exact hf
      refine tr_run (?_ : Tr W _ _) _ F0 _ (weak (R := RI) (x := z) fun F v q => by cases n <;> exact q)
      refine s_if (m1 := none) (m2 := some ()) (r := ()) (b := false) (et_isNno nn_I (ev_var (i := 1) rfl (Or.inl rfl) rfl)) rfl (fun h _ => nomatch h) (fun _ _ => s_nil ?_)
      refine s_if (m1 := none) (m2 := some ()) (r := ()) (b := false) (et_is (is_nb nb_I) (ev_var (i := 1) rfl (Or.inl rfl) rfl) ev_bl) rfl (fun h _ => nomatch h) (fun _ _ => s_nil ?_)
      refine s_if (m1 := none) (m2 := some ()) (r := ()) (b := false) (et_is (is_nb nb_I) (ev_var (i := 1) rfl (Or.inl rfl) rfl) ev_bl) rfl (fun h _ => nomatch h) (fun _ _ => s_nil ?_)
      refine s_if (m1 := none) (m2 := some ()) (r := ()) (b := false) (et_val (ev_isi (T := "str") (k := false) m_i m_s (by decide +kernel) ty_I (by decide +kernel) (ev_var (i := 1) rfl (Or.inl rfl) rfl))) rfl (fun h _ => nomatch h) (fun _ _ => s_nil ?_)
      refine s_if (m1 := some ()) (m2 := none) (r := ()) (b := true) (et_val (ev_isi (T := "int") (k := true) m_i m_n (by decide +kernel) ty_I (by decide +kernel) (ev_var (i := 1) rfl (Or.inl rfl) rfl))) rfl (fun _ _ => ?_) (fun h _ => nomatch h)
      refine s_ret hret (Ev.eq (ev_andP (ev_isi (T := "int") (k := true) m_i m_n (by decide +kernel) ty_I (by decide +kernel) (ev_var (i := 0) rfl (Or.inl rfl) rfl)) (ev_andP (ev_not (ev_isi (T := "bool") (k := false) m_i m_b (by decide +kernel) ty_I (by decide +kernel) (ev_var (i := 0) rfl (Or.inl rfl) rfl))) (ev_and1 (ev_cmp cmp_eqS (ev_reprI hz m_r (ev_var (i := 0) rfl (Or.inl rfl) rfl)) (ev_reprI hz m_r (ev_var (i := 1) rfl (Or.inl rfl) rfl)) (nomark _))))) (by simp)) pick_nil rfl
    | tup ds =>
      cases n with
      | zero =>
        obtain ⟨v, _, hv⟩ := S0.slI (i := 0) rfl
        exact False.elim hv
      | succ n =>
        refine tr_run (?_ : Tr W _ _) _ F0 _ (weak (R := RV K (RD K n)) (x := ds) fun F v q => q)
        refine s_if (m1 := none) (m2 := some ()) (r := ()) (b := false) (et_isNno nn_V (ev_var (i := 1) rfl (Or.inl rfl) rfl)) rfl (fun h _ => nomatch h) (fun _ _ => s_nil ?_)
        refine s_if (m1 := none) (m2 := some ()) (r := ()) (b := false) (et_is (is_nb nb_V) (ev_var (i := 1) rfl (Or.inl rfl) rfl) ev_bl) rfl (fun h _ => nomatch h) (fun _ _ => s_nil ?_)
        refine s_if (m1 := none) (m2 := some ()) (r := ()) (b := false) (et_is (is_nb nb_V) (ev_var (i := 1) rfl (Or.inl rfl) rfl) ev_bl) rfl (fun h _ => nomatch h) (fun _ _ => s_nil ?_)
        refine s_if (m1 := none) (m2 := some ()) (r := ()) (b := false) (et_val (ev_isi (T := "str") (k := false) m_i m_s (by decide +kernel) ty_V (by decide +kernel) (ev_var (i := 1) rfl (Or.inl rfl) rfl))) rfl (fun h _ => nomatch h) (fun _ _ => s_nil ?_)
        refine s_if (m1 := none) (m2 := some ()) (r := ()) (b := false) (et_val (ev_isi (T := "int") (k := false) m_i m_n (by decide +kernel) ty_V (by decide +kernel) (ev_var (i := 1) rfl (Or.inl rfl) rfl))) rfl (fun h _ => nomatch h) (fun _ _ => s_nil ?_)
        refine s_if (m1 := none) (m2 := some ()) (r := ()) (b := false) (et_eq (et_w (ew_orP (et_w (ew_andP (et_val (ev_isi (T := "tuple") (k := true) m_i m_t (by decide +kernel) ty_V (by decide +kernel) (ev_var (i := 1) rfl (Or.inl rfl) rfl))) (ew_and1 (et_not (et_val (ev_isi (T := "tuple") (k := true) m_i m_t (by decide +kernel) ty_V (by decide +kernel) (ev_var (i := 0) rfl (Or.inl rfl) rfl))))))) (ew_or1 (et_w (ew_andP (et_val (ev_isi (T := "list") (k := false) m_i m_l (by decide +kernel) ty_V (by decide +kernel) (ev_var (i := 1) rfl (Or.inl rfl) rfl))) (ew_and1 (et_not (et_val (ev_isi (T := "list") (k := false) m_i m_l (by decide +kernel) ty_V (by decide +kernel) (ev_var (i := 0) rfl (Or.inl rfl) rfl)))))))))) (by rfl)) rfl (fun h _ => nomatch h) (fun _ _ => s_nil ?_)
        refine s_if (m1 := none) (m2 := some ()) (r := ()) (b := false) (et_eq (et_cmp cmp_ne (ev_lenV m_len (ev_var (i := 0) rfl (Or.inl rfl) rfl)) (ev_lenV m_len (ev_var (i := 1) rfl (Or.inl rfl) rfl)) (nomark _)) (by simp)) rfl (fun h _ => nomatch h) (fun _ _ => s_nil ?_)
        have hall : ∀ (as : List Int), lp (fun (_ : Int) (_ : Unit) => some ()) as () = some () := fun as => by
          induction as with
          | nil => rfl
          | cons a as ih => exact ih
        refine s_lenV 1 rfl fun hlen => ?_
        refine s_for (r := ()) (k := fun _ : Unit => some ()) (f := fun (_ : Int) (_ : Unit) => some ()) (s0 := ()) (fun _ : Unit => [some (imm (RV K (RD K n)) ds), some (imm (RV K (RD K n)) ds), none]) (src_rng1 m_range (rngOk_mk (by omega) (by omega) (by omega) (by omega) (by omega)) (ev_lenV m_len (ev_var (i := 1) rfl (Or.inl rfl) rfl))) (.eq (.eq (.no .nil))) (by rw [hall]; rfl) (bd := ?_) (nx := ?_)
        · intro W hW a s t ha hm
          refine ⟨_, _, (tg_name (i := 2) sc__law_same.nd rfl (by first | exact Or.inl rfl | exact Or.inr rfl)), ?_⟩
          obtain ⟨j, hj⟩ := List.getElem?_of_mem ha
          obtain ⟨j1, j2⟩ := rng_get hj
          have hlt : j < ds.length := by omega
          have hd : ix ds a = some ds[j] := by rw [j2]; exact (by rw [Int.zero_add]; exact atI_nat (List.getElem?_eq_getElem hlt))
          have hfd : fit n ds[j] := hf _ (List.getElem_mem hlt)
          refine s_if (m1 := none) (m2 := some ()) (r := ()) (b := false) (et_eq (et_not (et_val (ev_call (r := true) (R := RB) (Ps := [imm (RD K n) ds[j], imm (RD K n) ds[j]]) (IH n rfl) (hr.mono (by omega)) g kp b (ea_cons (ev_ixV hd (ev_var (i := 0) rfl (Or.inl rfl) rfl) (ev_var (i := 2) rfl (Or.inl rfl) rfl)) (ea_cons (ev_ixV hd (ev_var (i := 1) rfl (Or.inl rfl) rfl) (ev_var (i := 2) rfl (Or.inl rfl) rfl)) ea_nil)) (fun vs H Qk W F _ S q => ⟨ds[j], W, F, hfd, S, q⟩)))) rfl) rfl (fun h _ => nomatch h) (fun _ _ => s_nil ?_)
          exact s_nil (tr_at (.eq (.eq (.no .nil))))
        · intro s hm
          exact s_ret hret ev_bl pick_nil rfl
    | lst ds =>
      cases n with
      | zero =>
        obtain ⟨v, _, hv⟩ := S0.slI (i := 0) rfl
        exact False.elim hv
      | succ n =>
        refine tr_run (?_ : Tr W _ _) _ F0 _ (weak (R := RL K (RD K n)) (x := ds) fun F v q => q)
        refine s_if (m1 := none) (m2 := some ()) (r := ()) (b := false) (et_isNno nn_L (ev_var (i := 1) rfl (Or.inl rfl) rfl)) rfl (fun h _ => nomatch h) (fun _ _ => s_nil ?_)
        refine s_if (m1 := none) (m2 := some ()) (r := ()) (b := false) (et_is (is_nb nb_L) (ev_var (i := 1) rfl (Or.inl rfl) rfl) ev_bl) rfl (fun h _ => nomatch h) (fun _ _ => s_nil ?_)
        refine s_if (m1 := none) (m2 := some ()) (r := ()) (b := false) (et_is (is_nb nb_L) (ev_var (i := 1) rfl (Or.inl rfl) rfl) ev_bl) rfl (fun h _ => nomatch h) (fun _ _ => s_nil ?_)
        refine s_if (m1 := none) (m2 := some ()) (r := ()) (b := false) (et_val (ev_isi (T := "str") (k := false) m_i m_s (by decide +kernel) ty_L (by decide +kernel) (ev_var (i := 1) rfl (Or.inl rfl) rfl))) rfl (fun h _ => nomatch h) (fun _ _ => s_nil ?_)
        refine s_if (m1 := none) (m2 := some ()) (r := ()) (b := false) (et_val (ev_isi (T := "int") (k := false) m_i m_n (by decide +kernel) ty_L (by decide +kernel) (ev_var (i := 1) rfl (Or.inl rfl) rfl))) rfl (fun h _ => nomatch h) (fun _ _ => s_nil ?_)
        refine s_if (m1 := none) (m2 := some ()) (r := ()) (b := false) (et_eq (et_w (ew_orP (et_w (ew_andP (et_val (ev_isi (T := "tuple") (k := false) m_i m_t (by decide +kernel) ty_L (by decide +kernel) (ev_var (i := 1) rfl (Or.inl rfl) rfl))) (ew_and1 (et_not (et_val (ev_isi (T := "tuple") (k := false) m_i m_t (by decide +kernel) ty_L (by decide +kernel) (ev_var (i := 0) rfl (Or.inl rfl) rfl))))))) (ew_or1 (et_w (ew_andP (et_val (ev_isi (T := "list") (k := true) m_i m_l (by decide +kernel) ty_L (by decide +kernel) (ev_var (i := 1) rfl (Or.inl rfl) rfl))) (ew_and1 (et_not (et_val (ev_isi (T := "list") (k := true) m_i m_l (by decide +kernel) ty_L (by decide +kernel) (ev_var (i := 0) rfl (Or.inl rfl) rfl)))))))))) (by rfl)) rfl (fun h _ => nomatch h) (fun _ _ => s_nil ?_)
        refine s_if (m1 := none) (m2 := some ()) (r := ()) (b := false) (et_eq (et_cmp cmp_ne (ev_lenL m_len (ev_var (i := 0) rfl (Or.inl rfl) rfl)) (ev_lenL m_len (ev_var (i := 1) rfl (Or.inl rfl) rfl)) (nomark _)) (by simp)) rfl (fun h _ => nomatch h) (fun _ _ => s_nil ?_)
        have hall : ∀ (as : List Int), lp (fun (_ : Int) (_ : Unit) => some ()) as () = some () := fun as => by
          induction as with
          | nil => rfl
          | cons a as ih => exact ih
        refine s_lenL 1 rfl fun hlen => ?_
        refine s_for (r := ()) (k := fun _ : Unit => some ()) (f := fun (_ : Int) (_ : Unit) => some ()) (s0 := ()) (fun _ : Unit => [some (imm (RL K (RD K n)) ds), some (imm (RL K (RD K n)) ds), none]) (src_rng1 m_range (rngOk_mk (by omega) (by omega) (by omega) (by omega) (by omega)) (ev_lenL m_len (ev_var (i := 1) rfl (Or.inl rfl) rfl))) (.eq (.eq (.no .nil))) (by rw [hall]; rfl) (bd := ?_) (nx := ?_)
        · intro W hW a s t ha hm
          refine ⟨_, _, (tg_name (i := 2) sc__law_same.nd rfl (by first | exact Or.inl rfl | exact Or.inr rfl)), ?_⟩
          obtain ⟨j, hj⟩ := List.getElem?_of_mem ha
          obtain ⟨j1, j2⟩ := rng_get hj
          have hlt : j < ds.length := by omega
          have hd : ix ds a = some ds[j] := by rw [j2]; exact (by rw [Int.zero_add]; exact atI_nat (List.getElem?_eq_getElem hlt))
          have hfd : fit n ds[j] := hf _ (List.getElem_mem hlt)
          refine s_if (m1 := none) (m2 := some ()) (r := ()) (b := false) (et_eq (et_not (et_val (ev_call (r := true) (R := RB) (Ps := [imm (RD K n) ds[j], imm (RD K n) ds[j]]) (IH n rfl) (hr.mono (by omega)) g kp b (ea_cons (ev_ixL hd (ev_var (i := 0) rfl (Or.inl rfl) rfl) (ev_var (i := 2) rfl (Or.inl rfl) rfl)) (ea_cons (ev_ixL hd (ev_var (i := 1) rfl (Or.inl rfl) rfl) (ev_var (i := 2) rfl (Or.inl rfl) rfl)) ea_nil)) (fun vs H Qk W F _ S q => ⟨ds[j], W, F, hfd, S, q⟩)))) rfl) rfl (fun h _ => nomatch h) (fun _ _ => s_nil ?_)
          exact s_nil (tr_at (.eq (.eq (.no .nil))))
        · intro s hm
          exact s_ret hret ev_bl pick_nil rfl
theorem ok__law_same {P : Program} {w : World} {K : PySem.W.Frag} {mg : Str → Option Value} {base : Heap} (m_i : mg "isinstance" = none) (m_s : mg "str" = none) (m_r : mg "repr" = none) (m_n : mg "int" = none) (m_b : mg "bool" = none) (m_t : mg "tuple" = none) (m_l : mg "list" = none) (m_len : mg "len" = none) (m_range : mg "range" = none)
    {fa : Addr} {fd : FuncData} (FF : FnP K "_law_same" s__law_same fa fd) (g : mg "_law_same" = some (.ref fa)) (kp : PySem.W.keepIn K (.ref fa) = true) (b : Binds K fd ["told", "due"] []) : ∀ n, FnOk P w K mg base CX0 (n + 1) fa fd ["told", "due"] (sp_same n K)
  | 0 => same_step m_i m_s m_r m_n m_b m_t m_l m_len m_range FF g kp b 0 fun m h => nomatch h
  | n + 1 => same_step m_i m_s m_r m_n m_b m_t m_l m_len m_range FF g kp b (n + 1) fun m h => by cases h; exact ok__law_same m_i m_s m_r m_n m_b m_t m_l m_len m_range FF g kp b n
abbrev s__law_low : Stmt := topS 19
abbrev N__law_low : List Str := ["top", "bottom", "one", "other", "turn"]
theorem sc__law_low : FnScope N__law_low ["top", "bottom"] (defScope s__law_low) := ⟨rfl, rfl, rfl, by decide +kernel, rfl, by decide +kernel, by decide +kernel⟩
def sp__law_low (K : PySem.W.Frag) : Sp := fun vs H Qk _ => ∃ (top1 : Int) (bottom2 : Int) (r : (Int × Int)) (W : Fx) (F : Hp), m__law_low top1 bottom2 = some r ∧ Sat W (([imm RI top1, imm RI bottom2] : List Sd).map some) (vs.map some) F H ∧ ∀ v H', Rt W (Imm (RH (RC RI (R1 RI)))) (fun _ => []) r v H' → Qk v H'
theorem ok__law_low {P : Program} {w : World} {K : PySem.W.Frag} {mg : Str → Option Value} {base : Heap} (m_abs : mg "abs" = none) (m_int : mg "int" = none) (m_range : mg "range" = none) {fa : Addr} {fd : FuncData} (FF : FnP K "_law_low" s__law_low fa fd) : FnOk P w K mg base CX0 1 fa fd ["top", "bottom"] (sp__law_low K) := by
  refine fn_okD FF sc__law_low (fun vs H Q E h => ?_) (fun cdv A outer s H vs Qk E hr h => ?_)
  · obtain ⟨top1, bottom2, r, W, F0, hm, S, _⟩ := h
    exact sat_len S
  · obtain ⟨top1, bottom2, r, W, F0, hm, S, hret0⟩ := h
    have hret : ∀ q, some q = some r → ∀ v H', Rt W (Imm (RH (RC RI (R1 RI)))) (fun _ => []) q v H' → Qk v H' := fun q e v H' h => hret0 v H' (by cases e; exact h)
    have h0 : Sat W [some (imm RI top1), some (imm RI bottom2), none, none, none] (L2.start N__law_low vs) F0 H := start_tr S rfl
    have h1 := fun (PP : L2.St → Hp → Prop) (h : Tr W [some (imm RI top1), some (imm RI bottom2), none, none, none] PP) => tr_run h _ F0 _ h0
    refine h1 _ ?_
    clear h0 h1
    unfold m__law_low at hm
    clear hret0 S
    obtain ⟨one3, h_one3, hm_⟩ := lt_get hm; clear hm; have hm := hm_; clear hm_
    obtain ⟨other4, h_other4, hm_⟩ := lt_get hm; clear hm; have hm := hm_; clear hm_
    refine s_par (er_cons (Ev.eq (ev_abs m_abs (ev_var (ix_at 0 rfl) (by first | exact Or.inl rfl | exact Or.inr (Or.inl rfl) | exact Or.inr (Or.inr rfl)) rfl)) h_one3) (er_one (Ev.eq (ev_abs m_abs (ev_var (ix_at 1 rfl) (by first | exact Or.inl rfl | exact Or.inr (Or.inl rfl) | exact Or.inr (Or.inr rfl)) rfl)) h_other4))) rfl sc__law_low.nd (ix_at 2 rfl) (ix_at 3 rfl) (by decide) rfl rfl ?_
    refine tr_set2 (.s (.s .z)) (.s (.s (.s .z))) ?_
    refine s_forC (one3, other4) (fun (s5 : (Int × Int)) => [some (imm RI top1), some (imm RI bottom2), some (imm RI s5.1), some (imm RI s5.2), none]) (Rt W (Imm (RH (RC RI (R1 RI)))) (fun _ => [])) (src_rng1 m_range (by decide) ev_int) (.eq (.eq (.eq (.eq (.no .nil))))) hm ?_ ?_ hret
    · intro W hW a6 s5 t8 ha_a6 hm
      have hret := fun (q : (Int × Int)) (e : some (Ctl.ret q) = some t8) (v : V) (H : Hp) (h : Rt W (Imm (RH (RC RI (R1 RI)))) (fun _ => []) q v H) => ld_ret (Gs := (fun (s5 : (Int × Int)) => [some (imm RI top1), some (imm RI bottom2), some (imm RI s5.1), some (imm RI s5.2), none])) (W := W) hW e h
      refine ⟨_, _, (tg_name sc__law_low.nd (ix_at 4 rfl) (by first | exact Or.inl rfl | exact Or.inr rfl)), ?_⟩
      refine tr_set (.s (.s (.s (.s .z)))) ?_
      refine s_if (et_cmp cmp_eq (ev_var (ix_at 3 rfl) (by first | exact Or.inl rfl | exact Or.inr (Or.inl rfl) | exact Or.inr (Or.inr rfl)) rfl) ev_int (nomark _)) hm ?_ ?_
      · intro hc9 hm
        obtain rfl := Option.some.inj hm
        refine s_break ?_
        exact tr_bk (RQ := fun _ _ _ => False) (tr_at (.eq (.eq (.eq (.eq (.no .nil))))))
      · intro hc9 hm
        refine s_nil ?_
        obtain ⟨t10, h_t10, hm_⟩ := Option.bind_eq_some_iff.mp hm; clear hm; have hm := hm_; clear hm_
        refine s_par (er_cons (ev_var (ix_at 3 rfl) (by first | exact Or.inl rfl | exact Or.inr (Or.inl rfl) | exact Or.inr (Or.inr rfl)) rfl) (er_one (ev_modO h_t10 (ev_toint m_int (ev_var (ix_at 2 rfl) (by first | exact Or.inl rfl | exact Or.inr (Or.inl rfl) | exact Or.inr (Or.inr rfl)) rfl)) (ev_var (ix_at 3 rfl) (by first | exact Or.inl rfl | exact Or.inr (Or.inl rfl) | exact Or.inr (Or.inr rfl)) rfl)))) rfl sc__law_low.nd (ix_at 2 rfl) (ix_at 3 rfl) (by decide) rfl rfl ?_
        refine tr_set2 (.s (.s .z)) (.s (.s (.s .z))) ?_
        refine s_nil ?_
        obtain rfl := Option.some.inj hm
        exact tr_nx (tr_at (.eq (.eq (.eq (.eq (.no .nil))))))
    · intro s11 hm
      refine s_join (fun (s16 : (Int)) => [some (imm RI top1), some (imm RI bottom2), some (imm RI s16), some (imm RI s11.2), none]) (et_cmp cmp_lt (ev_var (ix_at 1 rfl) (by first | exact Or.inl rfl | exact Or.inr (Or.inl rfl) | exact Or.inr (Or.inr rfl)) rfl) ev_int (nomark _)) hm ?_ ?_ ?_
      · intro s16 hc13 hm
        obtain ⟨one15, h_one15, hm_⟩ := lt_get hm; clear hm; have hm := hm_; clear hm_
        refine s_set (Ev.eq (ev_neg (ev_var (ix_at 2 rfl) (by first | exact Or.inl rfl | exact Or.inr (Or.inl rfl) | exact Or.inr (Or.inr rfl)) rfl)) h_one15) sc__law_low.nd (ix_at 2 rfl) (by first | exact Or.inl rfl | exact Or.inr rfl) ?_
        refine tr_set (.s (.s .z)) ?_
        refine s_nil ?_
        obtain rfl := Option.some.inj hm
        exact tr_at (.eq (.eq (.eq (.eq (.no .nil)))))
      · intro s16 hc13 hm
        refine s_nil ?_
        obtain rfl := Option.some.inj hm
        exact tr_at (.eq (.eq (.eq (.eq (.no .nil)))))
      · intro s16 hm
        obtain ⟨t17, h_t17, hm_⟩ := Option.bind_eq_some_iff.mp hm; clear hm; have hm := hm_; clear hm_
        obtain ⟨t18, h_t18, hm_⟩ := Option.bind_eq_some_iff.mp hm; clear hm; have hm := hm_; clear hm_
        exact s_ret (hret _ hm) (ev_tupH (er_cons (ev_divO h_t17 (ev_var (ix_at 0 rfl) (by first | exact Or.inl rfl | exact Or.inr (Or.inl rfl) | exact Or.inr (Or.inr rfl)) rfl) (ev_var (ix_at 2 rfl) (by first | exact Or.inl rfl | exact Or.inr (Or.inl rfl) | exact Or.inr (Or.inr rfl)) rfl)) (er_one (ev_divO h_t18 (ev_var (ix_at 1 rfl) (by first | exact Or.inl rfl | exact Or.inr (Or.inl rfl) | exact Or.inr (Or.inr rfl)) rfl) (ev_var (ix_at 2 rfl) (by first | exact Or.inl rfl | exact Or.inr (Or.inl rfl) | exact Or.inr (Or.inr rfl)) rfl))))) pick_nil rfl
abbrev s__law_near : Stmt := topS 18
abbrev N__law_near : List Str := ["spot", "q", "r"]
theorem sc__law_near : FnScope N__law_near ["spot"] (defScope s__law_near) := ⟨rfl, rfl, rfl, by decide +kernel, rfl, by decide +kernel, by decide +kernel⟩
def sp__law_near (K : PySem.W.Frag) : Sp := fun vs H Qk _ => ∃ (spot1 : (Int × Int)) (r : (List (Int × Int))) (W : Fx) (F : Hp), m__law_near spot1 = some r ∧ Sat W (([imm (RH (RC RI (R1 RI))) spot1] : List Sd).map some) (vs.map some) F H ∧ ∀ v H', Rt W (Imm (RL K (RH (RC RI (R1 RI))))) (fun _ => []) r v H' → Qk v H'
theorem ok__law_near {P : Program} {w : World} {K : PySem.W.Frag} {mg : Str → Option Value} {base : Heap} {fa : Addr} {fd : FuncData} (FF : FnP K "_law_near" s__law_near fa fd) : FnOk P w K mg base CX0 1 fa fd ["spot"] (sp__law_near K) := by
  refine fn_okD FF sc__law_near (fun vs H Q E h => ?_) (fun cdv A outer s H vs Qk E hr h => ?_)
  · obtain ⟨spot1, r, W, F0, hm, S, _⟩ := h
    exact sat_len S
  · obtain ⟨spot1, r, W, F0, hm, S, hret0⟩ := h
    have hret : ∀ q, some q = some r → ∀ v H', Rt W (Imm (RL K (RH (RC RI (R1 RI))))) (fun _ => []) q v H' → Qk v H' := fun q e v H' h => hret0 v H' (by cases e; exact h)
    have h0 : Sat W [some (imm (RH (RC RI (R1 RI))) spot1), none, none] (L2.start N__law_near vs) F0 H := start_tr S rfl
    have h1 := fun (PP : L2.St → Hp → Prop) (h : Tr W [some (imm (RH (RC RI (R1 RI))) spot1), none, none] PP) => tr_run h _ F0 _ h0
    refine h1 _ ?_
    clear h0 h1
    unfold m__law_near at hm
    clear hret0 S
    refine s_asgT (ev_var (ix_at 0 rfl) (by first | exact Or.inl rfl | exact Or.inr (Or.inl rfl) | exact Or.inr (Or.inr rfl)) rfl) (tg_tupH (tgr_cons (tg_name sc__law_near.nd (ix_at 1 rfl) (by first | exact Or.inl rfl | exact Or.inr rfl)) (tgr_one (tg_name sc__law_near.nd (ix_at 2 rfl) (by first | exact Or.inl rfl | exact Or.inr rfl))))) ?_
    refine tr_set2 (.s .z) (.s (.s .z)) ?_
    exact s_ret (hret _ hm) (EvO.fix (eo_lst (el_cons (ev_tupH (er_cons (ev_add (ev_var (ix_at 1 rfl) (by first | exact Or.inl rfl | exact Or.inr (Or.inl rfl) | exact Or.inr (Or.inr rfl)) rfl) ev_int) (er_one (ev_var (ix_at 2 rfl) (by first | exact Or.inl rfl | exact Or.inr (Or.inl rfl) | exact Or.inr (Or.inr rfl)) rfl)))) (el_cons (ev_tupH (er_cons (ev_add (ev_var (ix_at 1 rfl) (by first | exact Or.inl rfl | exact Or.inr (Or.inl rfl) | exact Or.inr (Or.inr rfl)) rfl) ev_int) (er_one (ev_sub (ev_var (ix_at 2 rfl) (by first | exact Or.inl rfl | exact Or.inr (Or.inl rfl) | exact Or.inr (Or.inr rfl)) rfl) ev_int)))) (el_cons (ev_tupH (er_cons (ev_var (ix_at 1 rfl) (by first | exact Or.inl rfl | exact Or.inr (Or.inl rfl) | exact Or.inr (Or.inr rfl)) rfl) (er_one (ev_sub (ev_var (ix_at 2 rfl) (by first | exact Or.inl rfl | exact Or.inr (Or.inl rfl) | exact Or.inr (Or.inr rfl)) rfl) ev_int)))) (el_cons (ev_tupH (er_cons (ev_sub (ev_var (ix_at 1 rfl) (by first | exact Or.inl rfl | exact Or.inr (Or.inl rfl) | exact Or.inr (Or.inr rfl)) rfl) ev_int) (er_one (ev_var (ix_at 2 rfl) (by first | exact Or.inl rfl | exact Or.inr (Or.inl rfl) | exact Or.inr (Or.inr rfl)) rfl)))) (el_cons (ev_tupH (er_cons (ev_sub (ev_var (ix_at 1 rfl) (by first | exact Or.inl rfl | exact Or.inr (Or.inl rfl) | exact Or.inr (Or.inr rfl)) rfl) ev_int) (er_one (ev_add (ev_var (ix_at 2 rfl) (by first | exact Or.inl rfl | exact Or.inr (Or.inl rfl) | exact Or.inr (Or.inr rfl)) rfl) ev_int)))) (el_cons (ev_tupH (er_cons (ev_var (ix_at 1 rfl) (by first | exact Or.inl rfl | exact Or.inr (Or.inl rfl) | exact Or.inr (Or.inr rfl)) rfl) (er_one (ev_add (ev_var (ix_at 2 rfl) (by first | exact Or.inl rfl | exact Or.inr (Or.inl rfl) | exact Or.inr (Or.inr rfl)) rfl) ev_int)))) el_nil)))))))) pick_nil rfl
abbrev s__law_steps : Stmt := topS 21
abbrev N__law_steps : List Str := ["lot", "start", "found", "last", "far", "fresh", "here", "there"]
theorem sc__law_steps : FnScope N__law_steps ["lot", "start"] (defScope s__law_steps) := ⟨rfl, rfl, rfl, by decide +kernel, rfl, by decide +kernel, by decide +kernel⟩
def sp__law_steps (K : PySem.W.Frag) : Sp := fun vs H Qk _ => ∃ (lot1 : (List (Int × Int))) (start2 : (Int × Int)) (r : (List ((Int × Int) × Int))) (W : Fx) (F : Hp), m__law_steps lot1 start2 = some r ∧ Sat W (([imm (RL K (RH (RC RI (R1 RI)))) lot1, imm (RH (RC RI (R1 RI))) start2] : List Sd).map some) (vs.map some) F H ∧ ∀ v H', Rt W (OwnQ (fun l q => (QD l (kd_T (ks_CI ks_1I)) RI q))) (fun _ => []) r v H' → Qk v H'
theorem ok__law_steps {P : Program} {w : World} {K : PySem.W.Frag} {mg : Str → Option Value} {base : Heap} (m_len : mg "len" = none) (m_range : mg "range" = none) {f__law_near : Addr} {fd__law_near : FuncData} (C__law_near : Cal P w K mg base "_law_near" 1 f__law_near fd__law_near ["spot"] (sp__law_near K)) {fa : Addr} {fd : FuncData} (FF : FnP K "_law_steps" s__law_steps fa fd) : FnOk P w K mg base CX0 2 fa fd ["lot", "start"] (sp__law_steps K) := by
  refine fn_okD FF sc__law_steps (fun vs H Q E h => ?_) (fun cdv A outer s H vs Qk E hr h => ?_)
  · obtain ⟨lot1, start2, r, W, F0, hm, S, _⟩ := h
    exact sat_len S
  · obtain ⟨lot1, start2, r, W, F0, hm, S, hret0⟩ := h
    have hret : ∀ q, some q = some r → ∀ v H', Rt W (OwnQ (fun l q => (QD l (kd_T (ks_CI ks_1I)) RI q))) (fun _ => []) q v H' → Qk v H' := fun q e v H' h => hret0 v H' (by cases e; exact h)
    have h0 : Sat W [some (imm (RL K (RH (RC RI (R1 RI)))) lot1), some (imm (RH (RC RI (R1 RI))) start2), none, none, none, none, none, none] (L2.start N__law_steps vs) F0 H := start_tr S rfl
    have h1 := fun (PP : L2.St → Hp → Prop) (h : Tr W [some (imm (RL K (RH (RC RI (R1 RI)))) lot1), some (imm (RH (RC RI (R1 RI))) start2), none, none, none, none, none, none] PP) => tr_run h _ F0 _ h0
    refine h1 _ ?_
    clear h0 h1
    unfold m__law_steps at hm
    clear hret0 S
    obtain ⟨found3, h_found3, hm_⟩ := lt_get hm; clear hm; have hm := hm_; clear hm_
    refine s_new (EvO.eqD (eo_done (KD := (kd_T (ks_CI ks_1I))) hr (fun W => (ev_var (ix_at 1 rfl) (by first | exact Or.inl rfl | exact Or.inr (Or.inl rfl) | exact Or.inr (Or.inr rfl)) rfl)) (fun W => ev_int)) h_found3) sc__law_steps.nd (ix_at 2 rfl) (by first | exact Or.inl rfl | exact Or.inr rfl) (fun l_found4 => ?_)
    refine tr_set (.s (.s .z)) ?_
    obtain ⟨last5, h_last5, hm_⟩ := lt_get hm; clear hm; have hm := hm_; clear hm_
    refine s_new (EvO.eqL (eo_lst (el_cons (ev_var (ix_at 1 rfl) (by first | exact Or.inl rfl | exact Or.inr (Or.inl rfl) | exact Or.inr (Or.inr rfl)) rfl) el_nil)) h_last5) sc__law_steps.nd (ix_at 3 rfl) (by first | exact Or.inl rfl | exact Or.inr rfl) (fun l_last6 => ?_)
    refine tr_set (.s (.s (.s .z))) ?_
    refine s_fix 3 K rfl ?_
    refine tr_set (.s (.s (.s .z))) ?_
    obtain ⟨g7, h_g7, hm_⟩ := Option.bind_eq_some_iff.mp hm; clear hm; have hm := hm_; clear hm_
    refine s_for (found3, last5) (fun (s8 : ((List ((Int × Int) × Int)) × (List (Int × Int)))) => [some (imm (RL K (RH (RC RI (R1 RI)))) lot1), some (imm (RH (RC RI (R1 RI))) start2), some (own l_found4 (QD l_found4 (kd_T (ks_CI ks_1I)) RI s8.1)), some (imm (RL K (RH (RC RI (R1 RI)))) s8.2), none, none, none, none]) (src_rng2 m_range (gd_of h_g7) ev_int (ev_lenL m_len (ev_var (ix_at 0 rfl) (by first | exact Or.inl rfl | exact Or.inr (Or.inl rfl) | exact Or.inr (Or.inr rfl)) rfl))) (.eq (.eq (.eq (.eq (.no (.no (.no (.no .nil)))))))) hm ?_ ?_
    · intro W hW a9 s8 t11 ha_a9 hm
      refine ⟨_, _, (tg_name sc__law_steps.nd (ix_at 4 rfl) (by first | exact Or.inl rfl | exact Or.inr rfl)), ?_⟩
      refine tr_set (.s (.s (.s (.s .z)))) ?_
      obtain ⟨fresh12, h_fresh12, hm_⟩ := lt_get hm; clear hm; have hm := hm_; clear hm_
      refine s_new (EvO.eqL (eo_lst (el_nilR (RH (RC RI (R1 RI))))) h_fresh12) sc__law_steps.nd (ix_at 5 rfl) (by first | exact Or.inl rfl | exact Or.inr rfl) (fun l_fresh13 => ?_)
      refine tr_set (.s (.s (.s (.s (.s .z))))) ?_
      refine s_for (s8.1, fresh12) (fun (s14 : ((List ((Int × Int) × Int)) × (List (Int × Int)))) => [some (imm (RL K (RH (RC RI (R1 RI)))) lot1), some (imm (RH (RC RI (R1 RI))) start2), some (own l_found4 (QD l_found4 (kd_T (ks_CI ks_1I)) RI s14.1)), some (imm (RL K (RH (RC RI (R1 RI)))) s8.2), some (imm RI a9), some (own l_fresh13 (QL l_fresh13 (RH (RC RI (R1 RI))) s14.2)), none, none]) (src_list (ev_var (ix_at 3 rfl) (by first | exact Or.inl rfl | exact Or.inr (Or.inl rfl) | exact Or.inr (Or.inr rfl)) rfl)) (.eq (.eq (.eq (.eq (.eq (.eq (.no (.no .nil)))))))) hm ?_ ?_
      · intro W hW a15 s14 t17 ha_a15 hm
        refine ⟨_, _, (tg_name sc__law_steps.nd (ix_at 6 rfl) (by first | exact Or.inl rfl | exact Or.inr rfl)), ?_⟩
        refine tr_set (.s (.s (.s (.s (.s (.s .z)))))) ?_
        obtain ⟨t18, h_t18, hm_⟩ := Option.bind_eq_some_iff.mp hm; clear hm; have hm := hm_; clear hm_
        refine s_for (s14.1, s14.2) (fun (s19 : ((List ((Int × Int) × Int)) × (List (Int × Int)))) => [some (imm (RL K (RH (RC RI (R1 RI)))) lot1), some (imm (RH (RC RI (R1 RI))) start2), some (own l_found4 (QD l_found4 (kd_T (ks_CI ks_1I)) RI s19.1)), some (imm (RL K (RH (RC RI (R1 RI)))) s8.2), some (imm RI a9), some (own l_fresh13 (QL l_fresh13 (RH (RC RI (R1 RI))) s19.2)), some (imm (RH (RC RI (R1 RI))) a15), none]) (src_list (ev_call C__law_near.fn (hr.mono (by decide)) C__law_near.g C__law_near.kp C__law_near.b (ea_cons (ev_var (ix_at 6 rfl) (by first | exact Or.inl rfl | exact Or.inr (Or.inl rfl) | exact Or.inr (Or.inr rfl)) rfl) ea_nil) (fun vs H Qk W F e S q => ⟨_, _, W, F, h_t18, S, q⟩))) (.eq (.eq (.eq (.eq (.eq (.eq (.eq (.no .nil)))))))) hm ?_ ?_
        · intro W hW a20 s19 t22 ha_a20 hm
          refine ⟨_, _, (tg_name sc__law_steps.nd (ix_at 7 rfl) (by first | exact Or.inl rfl | exact Or.inr rfl)), ?_⟩
          refine tr_set (.s (.s (.s (.s (.s (.s (.s .z))))))) ?_
          refine s_if (et_lock (ix_at 2 rfl) (fun _ => (.s (.s .z))) (fun _ => (et_lend (.im rfl (.im rfl (.fz fz_dict (.im rfl (.im rfl (.fz (fz_list (K := K)) (.im rfl (.im rfl .nil)))))))) (et_w (ew_andP (et_cmp (cmp_inL (d_H (d_cons d_I (d_one d_I))) hr (Nat.le_of_ble_eq_true rfl)) (ev_var (ix_at 7 rfl) (by first | exact Or.inl rfl | exact Or.inr (Or.inl rfl) | exact Or.inr (Or.inr rfl)) rfl) (ev_var (ix_at 0 rfl) (by first | exact Or.inl rfl | exact Or.inr (Or.inl rfl) | exact Or.inr (Or.inr rfl)) rfl) (by with_unfolding_all rfl)) (ew_and1 (et_cmp (cmp_ninD hr) (ev_var (ix_at 7 rfl) (by first | exact Or.inl rfl | exact Or.inr (Or.inl rfl) | exact Or.inr (Or.inr rfl)) rfl) (ev_var (ix_at 2 rfl) (by first | exact Or.inl rfl | exact Or.inr (Or.inl rfl) | exact Or.inr (Or.inr rfl)) rfl) (by with_unfolding_all rfl))))))) (fun _ => ix_at 2 rfl) (fun _ => (.s (.s .z)))) hm ?_ ?_
          · intro hc23 hm
            obtain ⟨found24, h_found24, hm_⟩ := Option.bind_eq_some_iff.mp hm; clear hm; have hm := hm_; clear hm_
            refine s_dput h_found24 hr (ix_at 2 rfl) (by first | exact Or.inl rfl | exact Or.inr (Or.inl rfl) | exact Or.inr (Or.inr rfl)) (ev_var (ix_at 4 rfl) (by first | exact Or.inl rfl | exact Or.inr (Or.inl rfl) | exact Or.inr (Or.inr rfl)) rfl) rfl (ev_var (ix_at 7 rfl) (by first | exact Or.inl rfl | exact Or.inr (Or.inl rfl) | exact Or.inr (Or.inr rfl)) rfl) rfl ?_
            refine tr_set (.s (.s .z)) ?_
            obtain ⟨fresh25, h_fresh25, hm_⟩ := Option.bind_eq_some_iff.mp hm; clear hm; have hm := hm_; clear hm_
            refine s_app h_fresh25 (ix_at 5 rfl) (by first | exact Or.inl rfl | exact Or.inr (Or.inl rfl) | exact Or.inr (Or.inr rfl)) rfl (ev_var (ix_at 7 rfl) (by first | exact Or.inl rfl | exact Or.inr (Or.inl rfl) | exact Or.inr (Or.inr rfl)) rfl) rfl ?_
            refine tr_set (.s (.s (.s (.s (.s .z))))) ?_
            refine s_nil ?_
            refine s_nil ?_
            obtain rfl := Option.some.inj hm
            exact tr_at (.eq (.eq (.eq (.eq (.eq (.eq (.eq (.no .nil))))))))
          · intro hc23 hm
            refine s_nil ?_
            refine s_nil ?_
            obtain rfl := Option.some.inj hm
            exact tr_at (.eq (.eq (.eq (.eq (.eq (.eq (.eq (.no .nil))))))))
        · intro s26 hm
          refine s_nil ?_
          obtain rfl := Option.some.inj hm
          exact tr_at (.eq (.eq (.eq (.eq (.eq (.eq (.no (.no .nil))))))))
      · intro s28 hm
        refine s_fix 5 K rfl ?_
        refine tr_set (.s (.s (.s (.s (.s .z))))) ?_
        refine s_set (ev_var (ix_at 5 rfl) (by first | exact Or.inl rfl | exact Or.inr (Or.inl rfl) | exact Or.inr (Or.inr rfl)) rfl) sc__law_steps.nd (ix_at 3 rfl) (by first | exact Or.inl rfl | exact Or.inr rfl) ?_
        refine tr_set (.s (.s (.s .z))) ?_
        refine s_nil ?_
        obtain rfl := Option.some.inj hm
        exact tr_at (.eq (.eq (.eq (.eq (.no (.no (.no (.no .nil))))))))
    · intro s30 hm
      exact s_retO (hret _ hm) (ix_at 2 rfl) (by first | exact Or.inl rfl | exact Or.inr (Or.inl rfl) | exact Or.inr (Or.inr rfl)) rfl (pick_1 (i := 2) rfl) ⟨_, rfl⟩
abbrev s_outline : Stmt := topS 8
abbrev N_outline : List Str := ["places", "place", "far"]
theorem sc_outline : FnScope N_outline ["places"] (defScope s_outline) := ⟨rfl, rfl, rfl, by decide +kernel, rfl, by decide +kernel, by decide +kernel⟩
def sp_outline (K : PySem.W.Frag) : Sp := fun vs H Qk _ => ∃ (places1 : (List (Int × Int))) (r : Int) (W : Fx) (F : Hp), m_outline places1 = some r ∧ Sat W (([imm (RL K (RH (RC RI (R1 RI)))) places1] : List Sd).map some) (vs.map some) F H ∧ ∀ v H', Rt W (Imm RI) (fun _ => []) r v H' → Qk v H'
theorem ok_outline {P : Program} {w : World} {K : PySem.W.Frag} {mg : Str → Option Value} {base : Heap} (m_len : mg "len" = none) (m_sum : mg "sum" = none) {f_beside : Addr} {fd_beside : FuncData} (C_beside : Cal P w K mg base "beside" 2 f_beside fd_beside ["place"] (sp_beside K)) {fa : Addr} {fd : FuncData} (FF : FnP K "outline" s_outline fa fd) : FnOk P w K mg base CX0 3 fa fd ["places"] (sp_outline K) := by
  refine fn_okD FF sc_outline (fun vs H Q E h => ?_) (fun cdv A outer s H vs Qk E hr h => ?_)
  · obtain ⟨places1, r, W, F0, hm, S, _⟩ := h
    exact sat_len S
  · obtain ⟨places1, r, W, F0, hm, S, hret0⟩ := h
    have hret : ∀ q, some q = some r → ∀ v H', Rt W (Imm RI) (fun _ => []) q v H' → Qk v H' := fun q e v H' h => hret0 v H' (by cases e; exact h)
    have h0 : Sat W [some (imm (RL K (RH (RC RI (R1 RI)))) places1), none, none] (L2.start N_outline vs) F0 H := start_tr S rfl
    have h1 := fun (PP : L2.St → Hp → Prop) (h : Tr W [some (imm (RL K (RH (RC RI (R1 RI)))) places1), none, none] PP) => tr_run h _ F0 _ h0
    refine h1 _ ?_
    clear h0 h1
    unfold m_outline at hm
    clear hret0 S
    obtain ⟨t7, h_t7, hm_⟩ := Option.bind_eq_some_iff.mp hm; clear hm; have hm := hm_; clear hm_
    exact s_ret (hret _ hm) (ev_sum m_sum (EvO.fix (eo_lc (lk_O (own := [("place", 1)]) (T := RI) [some (imm (RL K (RH (RC RI (R1 RI)))) places1), none, none] (src_list (ev_var (ix_at 0 rfl) (by first | exact Or.inl rfl | exact Or.inr (Or.inl rfl) | exact Or.inr (Or.inr rfl)) rfl)) h_t7 sc_outline.nd (blkOk_by (N := N_outline) (sc := (defScope s_outline)) (by decide +kernel)) (.eq (.no (.no .nil))) ⟨rfl, trivial⟩ (.keep (.keep (.keep .nil))) (fun a2 b8 ha hb => by obtain ⟨t4, h_t4, hb⟩ := Option.bind_eq_some_iff.mp hb; exact turn0 [1] _ _ (by decide) (fun W _ _ _ _ _ _ => (tg_name sc_outline.nd (ix_at 1 rfl) (by first | exact Or.inl rfl | exact Or.inr rfl))) (fun W _ _ _ _ _ _ => Ev.eq (ev_lenL m_len (EvO.fix (eo_lc (lk_P (own := [("far", 2)]) (T := RI) (fun (a5 : (Int × Int)) => (!(decide (a5 ∈ places1)))) (fun (a5 : (Int × Int)) => (1 : Int)) [some (imm (RL K (RH (RC RI (R1 RI)))) places1), some (imm (RH (RC RI (R1 RI))) a2), none] (src_list (ev_call C_beside.fn (hr.mono (by decide)) C_beside.g C_beside.kp C_beside.b (ea_cons (ev_var (ix_at 1 rfl) (by first | exact Or.inl rfl | exact Or.inr (Or.inl rfl) | exact Or.inr (Or.inr rfl)) rfl) ea_nil) (fun vs H Qk W F e S q => ⟨_, _, W, F, h_t4, S, q⟩))) sc_outline.nd (blkOk_by (N := N_outline) (sc := (({ kind := .function, names := [(".0", .local), ("place", .local), ("len", .globalImplicit), ("beside", .globalImplicit), ("places", .cell)], isGenerator := false, isCoroutine := false } : Scope))) (by decide +kernel)) (.eq (.eq (.no .nil))) ⟨rfl, trivial⟩ (.keep (.keep (.keep .nil))) (fun a5 ha => turn1 (k := (!(decide (a5 ∈ places1)))) [2] _ _ (by decide) (fun W _ _ _ _ _ _ => (tg_name sc_outline.nd (ix_at 2 rfl) (by first | exact Or.inl rfl | exact Or.inr rfl))) (fun W _ _ _ _ _ _ => (et_cmp (cmp_ninL (d_H (d_cons d_I (d_one d_I))) hr (Nat.le_of_ble_eq_true rfl)) (ev_var (ix_at 2 rfl) (by first | exact Or.inl rfl | exact Or.inr (Or.inl rfl) | exact Or.inr (Or.inr rfl)) rfl) (ev_var (ix_at 0 rfl) (by first | exact Or.inl rfl | exact Or.inr (Or.inl rfl) | exact Or.inr (Or.inr rfl)) rfl) (by with_unfolding_all rfl))) (isS_if _ _) (fun b hb => (fun W _ _ _ _ _ _ => Ev.eq ev_int (isS_eq hb))) (.eq (.eq (.no .nil))) (.eq (.eq (.no .nil)))))))) (Option.some.inj hb)) (.eq (.no (.no .nil)))))))) pick_nil rfl
abbrev s_fraction : Stmt := topS 2
abbrev N_fraction : List Str := ["top", "bottom", "share"]
theorem sc_fraction : FnScope N_fraction ["top", "bottom"] (defScope s_fraction) := ⟨rfl, rfl, rfl, by decide +kernel, rfl, by decide +kernel, by decide +kernel⟩
def sp_fraction (K : PySem.W.Frag) : Sp := fun vs H Qk _ => ∃ (top1 : Int) (bottom2 : Int) (r : (Int × Int)) (W : Fx) (F : Hp), m_fraction top1 bottom2 = some r ∧ Sat W (([imm RI top1, imm RI bottom2] : List Sd).map some) (vs.map some) F H ∧ ∀ v H', Rt W (Imm (RH (RC RI (R1 RI)))) (fun _ => []) r v H' → Qk v H'
theorem ok_fraction {P : Program} {w : World} {K : PySem.W.Frag} {mg : Str → Option Value} {base : Heap} (i_gcd : mg "gcd" = some (.builtin "math.gcd")) {fa : Addr} {fd : FuncData} (FF : FnP K "fraction" s_fraction fa fd) : FnOk P w K mg base CX0 1 fa fd ["top", "bottom"] (sp_fraction K) := by
  refine fn_okD FF sc_fraction (fun vs H Q E h => ?_) (fun cdv A outer s H vs Qk E hr h => ?_)
  · obtain ⟨top1, bottom2, r, W, F0, hm, S, _⟩ := h
    exact sat_len S
  · obtain ⟨top1, bottom2, r, W, F0, hm, S, hret0⟩ := h
    have hret : ∀ q, some q = some r → ∀ v H', Rt W (Imm (RH (RC RI (R1 RI)))) (fun _ => []) q v H' → Qk v H' := fun q e v H' h => hret0 v H' (by cases e; exact h)
    have h0 : Sat W [some (imm RI top1), some (imm RI bottom2), none] (L2.start N_fraction vs) F0 H := start_tr S rfl
    have h1 := fun (PP : L2.St → Hp → Prop) (h : Tr W [some (imm RI top1), some (imm RI bottom2), none] PP) => tr_run h _ F0 _ h0
    refine h1 _ ?_
    clear h0 h1
    unfold m_fraction at hm
    clear hret0 S
    obtain ⟨share3, h_share3, hm_⟩ := lt_get hm; clear hm; have hm := hm_; clear hm_
    refine s_set (Ev.eq (ev_gcd i_gcd (ev_var (ix_at 0 rfl) (by first | exact Or.inl rfl | exact Or.inr (Or.inl rfl) | exact Or.inr (Or.inr rfl)) rfl) (ev_var (ix_at 1 rfl) (by first | exact Or.inl rfl | exact Or.inr (Or.inl rfl) | exact Or.inr (Or.inr rfl)) rfl)) h_share3) sc_fraction.nd (ix_at 2 rfl) (by first | exact Or.inl rfl | exact Or.inr rfl) ?_
    refine tr_set (.s (.s .z)) ?_
    refine s_join (fun (s7 : (Int)) => [some (imm RI top1), some (imm RI bottom2), some (imm RI s7)]) (et_cmp cmp_lt (ev_var (ix_at 1 rfl) (by first | exact Or.inl rfl | exact Or.inr (Or.inl rfl) | exact Or.inr (Or.inr rfl)) rfl) ev_int (nomark _)) hm ?_ ?_ ?_
    · intro s7 hc4 hm
      obtain ⟨share6, h_share6, hm_⟩ := lt_get hm; clear hm; have hm := hm_; clear hm_
      refine s_set (Ev.eq (ev_neg (ev_var (ix_at 2 rfl) (by first | exact Or.inl rfl | exact Or.inr (Or.inl rfl) | exact Or.inr (Or.inr rfl)) rfl)) h_share6) sc_fraction.nd (ix_at 2 rfl) (by first | exact Or.inl rfl | exact Or.inr rfl) ?_
      refine tr_set (.s (.s .z)) ?_
      refine s_nil ?_
      obtain rfl := Option.some.inj hm
      exact tr_at (.eq (.eq (.eq .nil)))
    · intro s7 hc4 hm
      refine s_nil ?_
      obtain rfl := Option.some.inj hm
      exact tr_at (.eq (.eq (.eq .nil)))
    · intro s7 hm
      obtain ⟨t8, h_t8, hm_⟩ := Option.bind_eq_some_iff.mp hm; clear hm; have hm := hm_; clear hm_
      obtain ⟨t9, h_t9, hm_⟩ := Option.bind_eq_some_iff.mp hm; clear hm; have hm := hm_; clear hm_
      exact s_ret (hret _ hm) (ev_tupH (er_cons (ev_divO h_t8 (ev_var (ix_at 0 rfl) (by first | exact Or.inl rfl | exact Or.inr (Or.inl rfl) | exact Or.inr (Or.inr rfl)) rfl) (ev_var (ix_at 2 rfl) (by first | exact Or.inl rfl | exact Or.inr (Or.inl rfl) | exact Or.inr (Or.inr rfl)) rfl)) (er_one (ev_divO h_t9 (ev_var (ix_at 1 rfl) (by first | exact Or.inl rfl | exact Or.inr (Or.inl rfl) | exact Or.inr (Or.inr rfl)) rfl) (ev_var (ix_at 2 rfl) (by first | exact Or.inl rfl | exact Or.inr (Or.inl rfl) | exact Or.inr (Or.inr rfl)) rfl))))) pick_nil rfl
abbrev s_middle : Stmt := topS 10
abbrev N_middle : List Str := ["places", "many", "q", "r"]
theorem sc_middle : FnScope N_middle ["places"] (defScope s_middle) := ⟨rfl, rfl, rfl, by decide +kernel, rfl, by decide +kernel, by decide +kernel⟩
def sp_middle (K : PySem.W.Frag) : Sp := fun vs H Qk _ => ∃ (places1 : (List (Int × Int))) (r : ((Int × Int) × (Int × Int))) (W : Fx) (F : Hp), m_middle places1 = some r ∧ Sat W (([imm (RL K (RH (RC RI (R1 RI)))) places1] : List Sd).map some) (vs.map some) F H ∧ ∀ v H', Rt W (Imm (RH (RC (RH (RC RI (R1 RI))) (R1 (RH (RC RI (R1 RI))))))) (fun _ => []) r v H' → Qk v H'
theorem ok_middle {P : Program} {w : World} {K : PySem.W.Frag} {mg : Str → Option Value} {base : Heap} (m_len : mg "len" = none) (m_sum : mg "sum" = none) {f_fraction : Addr} {fd_fraction : FuncData} (C_fraction : Cal P w K mg base "fraction" 1 f_fraction fd_fraction ["top", "bottom"] (sp_fraction K)) {fa : Addr} {fd : FuncData} (FF : FnP K "middle" s_middle fa fd) : FnOk P w K mg base CX0 2 fa fd ["places"] (sp_middle K) := by
  refine fn_okD FF sc_middle (fun vs H Q E h => ?_) (fun cdv A outer s H vs Qk E hr h => ?_)
  · obtain ⟨places1, r, W, F0, hm, S, _⟩ := h
    exact sat_len S
  · obtain ⟨places1, r, W, F0, hm, S, hret0⟩ := h
    have hret : ∀ q, some q = some r → ∀ v H', Rt W (Imm (RH (RC (RH (RC RI (R1 RI))) (R1 (RH (RC RI (R1 RI))))))) (fun _ => []) q v H' → Qk v H' := fun q e v H' h => hret0 v H' (by cases e; exact h)
    have h0 : Sat W [some (imm (RL K (RH (RC RI (R1 RI)))) places1), none, none, none] (L2.start N_middle vs) F0 H := start_tr S rfl
    have h1 := fun (PP : L2.St → Hp → Prop) (h : Tr W [some (imm (RL K (RH (RC RI (R1 RI)))) places1), none, none, none] PP) => tr_run h _ F0 _ h0
    refine h1 _ ?_
    clear h0 h1
    unfold m_middle at hm
    clear hret0 S
    obtain ⟨many2, h_many2, hm_⟩ := lt_get hm; clear hm; have hm := hm_; clear hm_
    refine s_set (Ev.eq (ev_lenL m_len (ev_var (ix_at 0 rfl) (by first | exact Or.inl rfl | exact Or.inr (Or.inl rfl) | exact Or.inr (Or.inr rfl)) rfl)) h_many2) sc_middle.nd (ix_at 1 rfl) (by first | exact Or.inl rfl | exact Or.inr rfl) ?_
    refine tr_set (.s .z) ?_
    obtain ⟨t5, h_t5, hm_⟩ := Option.bind_eq_some_iff.mp hm; clear hm; have hm := hm_; clear hm_
    obtain ⟨t8, h_t8, hm_⟩ := Option.bind_eq_some_iff.mp hm; clear hm; have hm := hm_; clear hm_
    exact s_ret (hret _ hm) (ev_tupH (er_cons (ev_call C_fraction.fn (hr.mono (by decide)) C_fraction.g C_fraction.kp C_fraction.b (ea_cons (ev_sum m_sum (EvO.fix (eo_lc (lk_M (own := [("q", 2), ("r", 3)]) (T := RI) (fun (a3 : (Int × Int)) => a3.1) [some (imm (RL K (RH (RC RI (R1 RI)))) places1), some (imm RI many2), none, none] (src_list (ev_var (ix_at 0 rfl) (by first | exact Or.inl rfl | exact Or.inr (Or.inl rfl) | exact Or.inr (Or.inr rfl)) rfl)) sc_middle.nd (blkOk_by (N := N_middle) (sc := (defScope s_middle)) (by decide +kernel)) (.eq (.eq (.no (.no .nil)))) ⟨rfl, rfl, trivial⟩ (.keep (.keep (.keep (.keep .nil)))) (fun a3 ha => turn0 [2, 3] _ _ (by decide) (fun W _ _ _ _ _ _ => (tg_tupH (tgr_cons (tg_name sc_middle.nd (ix_at 2 rfl) (by first | exact Or.inl rfl | exact Or.inr rfl)) (tgr_one (tg_name sc_middle.nd (ix_at 3 rfl) (by first | exact Or.inl rfl | exact Or.inr rfl)))))) (fun W _ _ _ _ _ _ => (ev_var (ix_at 2 rfl) (by first | exact Or.inl rfl | exact Or.inr (Or.inl rfl) | exact Or.inr (Or.inr rfl)) rfl)) (.eq (.eq (.no (.no .nil))))))))) (ea_cons (ev_var (ix_at 1 rfl) (by first | exact Or.inl rfl | exact Or.inr (Or.inl rfl) | exact Or.inr (Or.inr rfl)) rfl) ea_nil)) (fun vs H Qk W F e S q => ⟨_, _, _, W, F, h_t5, S, q⟩)) (er_one (ev_call C_fraction.fn (hr.mono (by decide)) C_fraction.g C_fraction.kp C_fraction.b (ea_cons (ev_sum m_sum (EvO.fix (eo_lc (lk_M (own := [("q", 2), ("r", 3)]) (T := RI) (fun (a6 : (Int × Int)) => a6.2) [some (imm (RL K (RH (RC RI (R1 RI)))) places1), some (imm RI many2), none, none] (src_list (ev_var (ix_at 0 rfl) (by first | exact Or.inl rfl | exact Or.inr (Or.inl rfl) | exact Or.inr (Or.inr rfl)) rfl)) sc_middle.nd (blkOk_by (N := N_middle) (sc := (defScope s_middle)) (by decide +kernel)) (.eq (.eq (.no (.no .nil)))) ⟨rfl, rfl, trivial⟩ (.keep (.keep (.keep (.keep .nil)))) (fun a6 ha => turn0 [2, 3] _ _ (by decide) (fun W _ _ _ _ _ _ => (tg_tupH (tgr_cons (tg_name sc_middle.nd (ix_at 2 rfl) (by first | exact Or.inl rfl | exact Or.inr rfl)) (tgr_one (tg_name sc_middle.nd (ix_at 3 rfl) (by first | exact Or.inl rfl | exact Or.inr rfl)))))) (fun W _ _ _ _ _ _ => (ev_var (ix_at 3 rfl) (by first | exact Or.inl rfl | exact Or.inr (Or.inl rfl) | exact Or.inr (Or.inr rfl)) rfl)) (.eq (.eq (.no (.no .nil))))))))) (ea_cons (ev_var (ix_at 1 rfl) (by first | exact Or.inl rfl | exact Or.inr (Or.inl rfl) | exact Or.inr (Or.inr rfl)) rfl) ea_nil)) (fun vs H Qk W F e S q => ⟨_, _, _, W, F, h_t8, S, q⟩))))) pick_nil rfl
abbrev s__law_mixed : Stmt := topS 16
abbrev N__law_mixed : List Str := ["box", "row", "left", "found", "k"]
theorem sc__law_mixed : FnScope N__law_mixed ["box", "row"] (defScope s__law_mixed) := ⟨rfl, rfl, rfl, by decide +kernel, rfl, by decide +kernel, by decide +kernel⟩
def sp__law_mixed (K : PySem.W.Frag) : Sp := fun vs H Qk _ => ∃ (a : Type) (Ra : Rp a) (l_box : Addr) (box1 : ((List Int) × Int)) (row2 : (List a)) (r : ((List a) × ((List Int) × Int))) (W : Fx) (F : Hp), m__law_mixed box1 row2 = some r ∧ Sat W (([own l_box (QS l_box (RC (RL K RI) (R1 RI)) box1), imm (RL K Ra) row2] : List Sd).map some) (vs.map some) F H ∧ ∀ v H', Rt W (fun q P => P = imm (RL K Ra) q.1) (fun q => [own l_box (QS l_box (RC (RL K RI) (R1 RI)) q.2)]) r v H' → Qk v H'
theorem ok__law_mixed {P : Program} {w : World} {K : PySem.W.Frag} {mg : Str → Option Value} {base : Heap} (m_int : mg "int" = none) (m_len : mg "len" = none) (m_list : mg "list" = none) (m_range : mg "range" = none) {f__law_draw : Addr} {fd__law_draw : FuncData} (C__law_draw : Cal P w K mg base "_law_draw" 1 f__law_draw fd__law_draw ["box", "many"] (sp__law_draw K)) {fa : Addr} {fd : FuncData} (FF : FnP K "_law_mixed" s__law_mixed fa fd) : FnOk P w K mg base CX0 2 fa fd ["box", "row"] (sp__law_mixed K) := by
  refine fn_okD FF sc__law_mixed (fun vs H Q E h => ?_) (fun cdv A outer s H vs Qk E hr h => ?_)
  · obtain ⟨a, Ra, l_box, box1, row2, r, W, F0, hm, S, _⟩ := h
    exact sat_len S
  · obtain ⟨a, Ra, l_box, box1, row2, r, W, F0, hm, S, hret0⟩ := h
    have hret : ∀ q, some q = some r → ∀ v H', Rt W (fun q P => P = imm (RL K Ra) q.1) (fun q => [own l_box (QS l_box (RC (RL K RI) (R1 RI)) q.2)]) q v H' → Qk v H' := fun q e v H' h => hret0 v H' (by cases e; exact h)
    have h0 : Sat W [some (own l_box (QS l_box (RC (RL K RI) (R1 RI)) box1)), some (imm (RL K Ra) row2), none, none, none] (L2.start N__law_mixed vs) F0 H := start_tr S rfl
    have h1 := fun (PP : L2.St → Hp → Prop) (h : Tr W [some (own l_box (QS l_box (RC (RL K RI) (R1 RI)) box1)), some (imm (RL K Ra) row2), none, none, none] PP) => tr_run h _ F0 _ h0
    refine h1 _ ?_
    clear h0 h1
    unfold m__law_mixed at hm
    clear hret0 S
    refine s_new (eo_listL m_list (ev_var (ix_at 1 rfl) (by first | exact Or.inl rfl | exact Or.inr (Or.inl rfl) | exact Or.inr (Or.inr rfl)) rfl)) sc__law_mixed.nd (ix_at 2 rfl) (by first | exact Or.inl rfl | exact Or.inr rfl) (fun l_left3 => ?_)
    refine tr_set (.s (.s .z)) ?_
    obtain ⟨found4, h_found4, hm_⟩ := lt_get hm; clear hm; have hm := hm_; clear hm_
    refine s_new (EvO.eqL (eo_lst (el_nilR Ra)) h_found4) sc__law_mixed.nd (ix_at 3 rfl) (by first | exact Or.inl rfl | exact Or.inr rfl) (fun l_found5 => ?_)
    refine tr_set (.s (.s (.s .z))) ?_
    obtain ⟨g6, h_g6, hm_⟩ := Option.bind_eq_some_iff.mp hm; clear hm; have hm := hm_; clear hm_
    refine s_for (box1, row2, found4) (fun (s7 : (((List Int) × Int) × (List a) × (List a))) => [some (own l_box (QS l_box (RC (RL K RI) (R1 RI)) s7.1)), some (imm (RL K Ra) row2), some (own l_left3 (QL l_left3 Ra s7.2.1)), some (own l_found5 (QL l_found5 Ra s7.2.2)), none]) (src_rng1 m_range (gd_of h_g6) (ev_lenL m_len (ev_var (ix_at 1 rfl) (by first | exact Or.inl rfl | exact Or.inr (Or.inl rfl) | exact Or.inr (Or.inr rfl)) rfl))) (.eq (.eq (.eq (.eq (.no .nil))))) hm ?_ ?_
    · intro W hW a8 s7 t10 ha_a8 hm
      refine ⟨_, _, (tg_name sc__law_mixed.nd (ix_at 4 rfl) (by first | exact Or.inl rfl | exact Or.inr rfl)), ?_⟩
      refine tr_set (.s (.s (.s (.s .z)))) ?_
      obtain ⟨t11, h_t11, hm_⟩ := Option.bind_eq_some_iff.mp hm; clear hm; have hm := hm_; clear hm_
      obtain ⟨t12, h_t12, hm_⟩ := Option.bind_eq_some_iff.mp hm; clear hm; have hm := hm_; clear hm_
      obtain ⟨t13, h_t13, hm_⟩ := Option.bind_eq_some_iff.mp hm; clear hm; have hm := hm_; clear hm_
      obtain ⟨found14, h_found14, hm_⟩ := Option.bind_eq_some_iff.mp hm; clear hm; have hm := hm_; clear hm_
      refine s_app h_found14 (ix_at 3 rfl) (by first | exact Or.inl rfl | exact Or.inr (Or.inl rfl) | exact Or.inr (Or.inr rfl)) rfl (ev_set (ev_popAt h_t13 (ix_at 2 rfl) (by first | exact Or.inl rfl | exact Or.inr (Or.inl rfl) | exact Or.inr (Or.inr rfl)) rfl (ev_modO h_t12 (ev_toint m_int (ev_R RI t11.1 (ev_set (ev_callM (r := t11) C__law_draw.fn (hr.mono (by decide)) C__law_draw.g C__law_draw.kp C__law_draw.b (ea_lend (ix_at 0 rfl) (by first | exact Or.inl rfl | exact Or.inr (Or.inl rfl) | exact Or.inr (Or.inr rfl)) rfl (ea_cons ev_int ea_nil)) (ix_at 0 rfl) (ix_at 0 rfl) (fun vs H Qk W F e S q => ⟨l_box, _, _, _, W, F, h_t11, S, q⟩) (fun P h => h) (outs_at (QS l_box (RC (RL K RI) (R1 RI)) t11.2) rfl)) .z))) (ev_lend (.fz (fz_listS (K := K)) (.im rfl (.fz (fz_list (K := K)) (.fz (fz_list (K := K)) (.im rfl .nil))))) flat_I (ev_lenL m_len (ev_var (ix_at 2 rfl) (by first | exact Or.inl rfl | exact Or.inr (Or.inl rfl) | exact Or.inr (Or.inr rfl)) rfl)))) rfl) (.s (.s .z))) rfl ?_
      refine tr_set (.s (.s (.s .z))) ?_
      refine s_nil ?_
      obtain rfl := Option.some.inj hm
      exact tr_at (.eq (.eq (.eq (.eq (.no .nil)))))
    · intro s15 hm
      refine s_fix 2 K rfl ?_
      refine tr_set (.s (.s .z)) ?_
      refine s_fix 3 K rfl ?_
      refine tr_set (.s (.s (.s .z))) ?_
      exact s_ret (hret _ hm) (ev_var (ix_at 3 rfl) (by first | exact Or.inl rfl | exact Or.inr (Or.inl rfl) | exact Or.inr (Or.inr rfl)) rfl) (pick_1 (i := 0) rfl) rfl
abbrev s_fewest_steps : Stmt := topS 9
abbrev N_fewest_steps : List Str := ["places", "start", "goal", "found", "waiting", "at", "here", "far"]
theorem sc_fewest_steps : FnScope N_fewest_steps ["places", "start", "goal"] (defScope s_fewest_steps) := ⟨rfl, rfl, rfl, by decide +kernel, rfl, by decide +kernel, by decide +kernel⟩
def sp_fewest_steps (K : PySem.W.Frag) : Sp := fun vs H Qk _ => ∃ (places1 : (List (Int × Int))) (start2 : (Int × Int)) (goal3 : (Int × Int)) (r : (Option Int)) (W : Fx) (F : Hp), m_fewest_steps places1 start2 goal3 = some r ∧ Sat W (([imm (RL K (RH (RC RI (R1 RI)))) places1, imm (RH (RC RI (R1 RI))) start2, imm (RH (RC RI (R1 RI))) goal3] : List Sd).map some) (vs.map some) F H ∧ ∀ v H', Rt W (Imm (RO RI)) (fun _ => []) r v H' → Qk v H'
theorem ok_fewest_steps {P : Program} {w : World} {K : PySem.W.Frag} {mg : Str → Option Value} {base : Heap} (m_len : mg "len" = none) {f_beside : Addr} {fd_beside : FuncData} (C_beside : Cal P w K mg base "beside" 2 f_beside fd_beside ["place"] (sp_beside K)) {fa : Addr} {fd : FuncData} (FF : FnP K "fewest_steps" s_fewest_steps fa fd) : FnOk P w K mg base CX0 3 fa fd ["places", "start", "goal"] (sp_fewest_steps K) := by
  refine fn_okD FF sc_fewest_steps (fun vs H Q E h => ?_) (fun cdv A outer s H vs Qk E hr h => ?_)
  · obtain ⟨places1, start2, goal3, r, W, F0, hm, S, _⟩ := h
    exact sat_len S
  · obtain ⟨places1, start2, goal3, r, W, F0, hm, S, hret0⟩ := h
    have hret : ∀ q, some q = some r → ∀ v H', Rt W (Imm (RO RI)) (fun _ => []) q v H' → Qk v H' := fun q e v H' h => hret0 v H' (by cases e; exact h)
    have h0 : Sat W [some (imm (RL K (RH (RC RI (R1 RI)))) places1), some (imm (RH (RC RI (R1 RI))) start2), some (imm (RH (RC RI (R1 RI))) goal3), none, none, none, none, none] (L2.start N_fewest_steps vs) F0 H := start_tr S rfl
    have h1 := fun (PP : L2.St → Hp → Prop) (h : Tr W [some (imm (RL K (RH (RC RI (R1 RI)))) places1), some (imm (RH (RC RI (R1 RI))) start2), some (imm (RH (RC RI (R1 RI))) goal3), none, none, none, none, none] PP) => tr_run h _ F0 _ h0
    refine h1 _ ?_
    clear h0 h1
    unfold m_fewest_steps at hm
    clear hret0 S
    obtain ⟨found4, h_found4, hm_⟩ := lt_get hm; clear hm; have hm := hm_; clear hm_
    refine s_new (EvO.eqD (eo_done (KD := (kd_T (ks_CI ks_1I))) hr (fun W => (ev_var (ix_at 1 rfl) (by first | exact Or.inl rfl | exact Or.inr (Or.inl rfl) | exact Or.inr (Or.inr rfl)) rfl)) (fun W => ev_int)) h_found4) sc_fewest_steps.nd (ix_at 3 rfl) (by first | exact Or.inl rfl | exact Or.inr rfl) (fun l_found5 => ?_)
    refine tr_set (.s (.s (.s .z))) ?_
    obtain ⟨waiting6, h_waiting6, hm_⟩ := lt_get hm; clear hm; have hm := hm_; clear hm_
    refine s_new (EvO.eqL (eo_lst (el_cons (ev_var (ix_at 1 rfl) (by first | exact Or.inl rfl | exact Or.inr (Or.inl rfl) | exact Or.inr (Or.inr rfl)) rfl) el_nil)) h_waiting6) sc_fewest_steps.nd (ix_at 4 rfl) (by first | exact Or.inl rfl | exact Or.inr rfl) (fun l_waiting7 => ?_)
    refine tr_set (.s (.s (.s (.s .z)))) ?_
    refine s_set ev_int sc_fewest_steps.nd (ix_at 5 rfl) (by first | exact Or.inl rfl | exact Or.inr rfl) ?_
    refine tr_set (.s (.s (.s (.s (.s .z))))) ?_
    refine s_while (found4, waiting6, (0 : Int)) (fun (s8 : ((List ((Int × Int) × Int)) × (List (Int × Int)) × Int)) => [some (imm (RL K (RH (RC RI (R1 RI)))) places1), some (imm (RH (RC RI (R1 RI))) start2), some (imm (RH (RC RI (R1 RI))) goal3), some (own l_found5 (QD l_found5 (kd_T (ks_CI ks_1I)) RI s8.1)), some (own l_waiting7 (QL l_waiting7 (RH (RC RI (R1 RI))) s8.2.1)), some (imm RI s8.2.2), none, none]) (fun _ _ _ => False) (.eq (.eq (.eq (.eq (.eq (.eq (.no (.no .nil)))))))) hm ?_ ?_ ?_ (fun _ e => nomatch e)
    · intro s8 t hm
      exact et_eq (et_lock (ix_at 3 rfl) (fun _ => (.s (.s (.s .z)))) (fun _ => (et_lend (.im rfl (.im rfl (.im rfl (.fz fz_dict (.fz (fz_list (K := K)) (.im rfl (.no (.no .nil)))))))) (et_cmp cmp_lt (ev_var (ix_at 5 rfl) (by first | exact Or.inl rfl | exact Or.inr (Or.inl rfl) | exact Or.inr (Or.inr rfl)) rfl) (ev_lenL m_len (ev_var (ix_at 4 rfl) (by first | exact Or.inl rfl | exact Or.inr (Or.inl rfl) | exact Or.inr (Or.inr rfl)) rfl)) (nomark _)))) (fun _ => ix_at 3 rfl) (fun _ => (.s (.s (.s .z))))) (Option.some.inj hm)
    · intro s8 t10 hm
      obtain ⟨t11, h_t11, hm_⟩ := Option.bind_eq_some_iff.mp hm; clear hm; have hm := hm_; clear hm_
      refine s_set (ev_lock (ix_at 3 rfl) (fun _ => (.s (.s (.s .z)))) (fun _ => (ev_lend2 (.im rfl (.im rfl (.im rfl (.fz fz2_dict (.fz (fz2_list (K := K)) (.im rfl (.no (.no .nil)))))))) (dn_H (dnr_C (dn_flat flat_I) (dnr_1 (dn_flat flat_I)))) (ev_ixL h_t11 (ev_var (ix_at 4 rfl) (by first | exact Or.inl rfl | exact Or.inr (Or.inl rfl) | exact Or.inr (Or.inr rfl)) rfl) (ev_var (ix_at 5 rfl) (by first | exact Or.inl rfl | exact Or.inr (Or.inl rfl) | exact Or.inr (Or.inr rfl)) rfl)))) (fun _ => ix_at 3 rfl) (fun _ => (.s (.s (.s .z))))) sc_fewest_steps.nd (ix_at 6 rfl) (by first | exact Or.inl rfl | exact Or.inr rfl) ?_
      refine tr_set (.s (.s (.s (.s (.s (.s .z)))))) ?_
      obtain ⟨at12, h_at12, hm_⟩ := lt_get hm; clear hm; have hm := hm_; clear hm_
      refine s_aug (Op2.eq iop2_add h_at12) sc_fewest_steps.nd (ix_at 5 rfl) (by first | exact Or.inl rfl | exact Or.inr rfl) rfl ev_int ?_
      refine tr_set (.s (.s (.s (.s (.s .z))))) ?_
      obtain ⟨t13, h_t13, hm_⟩ := Option.bind_eq_some_iff.mp hm; clear hm; have hm := hm_; clear hm_
      refine s_for (s8.1, s8.2.1) (fun (s14 : ((List ((Int × Int) × Int)) × (List (Int × Int)))) => [some (imm (RL K (RH (RC RI (R1 RI)))) places1), some (imm (RH (RC RI (R1 RI))) start2), some (imm (RH (RC RI (R1 RI))) goal3), some (own l_found5 (QD l_found5 (kd_T (ks_CI ks_1I)) RI s14.1)), some (own l_waiting7 (QL l_waiting7 (RH (RC RI (R1 RI))) s14.2)), some (imm RI at12), some (imm (RH (RC RI (R1 RI))) t11), none]) (src_list (ev_call C_beside.fn (hr.mono (by decide)) C_beside.g C_beside.kp C_beside.b (ea_cons (ev_var (ix_at 6 rfl) (by first | exact Or.inl rfl | exact Or.inr (Or.inl rfl) | exact Or.inr (Or.inr rfl)) rfl) ea_nil) (fun vs H Qk W F e S q => ⟨_, _, W, F, h_t13, S, q⟩))) (.eq (.eq (.eq (.eq (.eq (.eq (.eq (.no .nil)))))))) hm ?_ ?_
      · intro W hW a15 s14 t17 ha_a15 hm
        refine ⟨_, _, (tg_name sc_fewest_steps.nd (ix_at 7 rfl) (by first | exact Or.inl rfl | exact Or.inr rfl)), ?_⟩
        refine tr_set (.s (.s (.s (.s (.s (.s (.s .z))))))) ?_
        refine s_if (et_lock (ix_at 3 rfl) (fun _ => (.s (.s (.s .z)))) (fun _ => (et_lend (.im rfl (.im rfl (.im rfl (.fz fz_dict (.fz (fz_list (K := K)) (.im rfl (.im rfl (.im rfl .nil)))))))) (et_w (ew_andP (et_cmp (cmp_inL (d_H (d_cons d_I (d_one d_I))) hr (Nat.le_of_ble_eq_true rfl)) (ev_var (ix_at 7 rfl) (by first | exact Or.inl rfl | exact Or.inr (Or.inl rfl) | exact Or.inr (Or.inr rfl)) rfl) (ev_var (ix_at 0 rfl) (by first | exact Or.inl rfl | exact Or.inr (Or.inl rfl) | exact Or.inr (Or.inr rfl)) rfl) (by with_unfolding_all rfl)) (ew_and1 (et_cmp (cmp_ninD hr) (ev_var (ix_at 7 rfl) (by first | exact Or.inl rfl | exact Or.inr (Or.inl rfl) | exact Or.inr (Or.inr rfl)) rfl) (ev_var (ix_at 3 rfl) (by first | exact Or.inl rfl | exact Or.inr (Or.inl rfl) | exact Or.inr (Or.inr rfl)) rfl) (by with_unfolding_all rfl))))))) (fun _ => ix_at 3 rfl) (fun _ => (.s (.s (.s .z))))) hm ?_ ?_
        · intro hc18 hm
          obtain ⟨t19, h_t19, hm_⟩ := Option.bind_eq_some_iff.mp hm; clear hm; have hm := hm_; clear hm_
          obtain ⟨found20, h_found20, hm_⟩ := Option.bind_eq_some_iff.mp hm; clear hm; have hm := hm_; clear hm_
          refine s_dput h_found20 hr (ix_at 3 rfl) (by first | exact Or.inl rfl | exact Or.inr (Or.inl rfl) | exact Or.inr (Or.inr rfl)) (ev_lock (ix_at 3 rfl) (fun _ => (.s (.s (.s .z)))) (fun _ => (ev_lend (.im rfl (.im rfl (.im rfl (.fz fz_dict (.fz (fz_list (K := K)) (.im rfl (.im rfl (.im rfl .nil)))))))) flat_I (ev_add (ev_dget h_t19 hr (ev_var (ix_at 3 rfl) (by first | exact Or.inl rfl | exact Or.inr (Or.inl rfl) | exact Or.inr (Or.inr rfl)) rfl) (ev_var (ix_at 6 rfl) (by first | exact Or.inl rfl | exact Or.inr (Or.inl rfl) | exact Or.inr (Or.inr rfl)) rfl)) ev_int))) (fun _ => ix_at 3 rfl) (fun _ => (.s (.s (.s .z))))) rfl (ev_var (ix_at 7 rfl) (by first | exact Or.inl rfl | exact Or.inr (Or.inl rfl) | exact Or.inr (Or.inr rfl)) rfl) rfl ?_
          refine tr_set (.s (.s (.s .z))) ?_
          obtain ⟨waiting21, h_waiting21, hm_⟩ := Option.bind_eq_some_iff.mp hm; clear hm; have hm := hm_; clear hm_
          refine s_app h_waiting21 (ix_at 4 rfl) (by first | exact Or.inl rfl | exact Or.inr (Or.inl rfl) | exact Or.inr (Or.inr rfl)) rfl (ev_var (ix_at 7 rfl) (by first | exact Or.inl rfl | exact Or.inr (Or.inl rfl) | exact Or.inr (Or.inr rfl)) rfl) rfl ?_
          refine tr_set (.s (.s (.s (.s .z)))) ?_
          refine s_nil ?_
          refine s_nil ?_
          obtain rfl := Option.some.inj hm
          exact tr_at (.eq (.eq (.eq (.eq (.eq (.eq (.eq (.no .nil))))))))
        · intro hc18 hm
          refine s_nil ?_
          refine s_nil ?_
          obtain rfl := Option.some.inj hm
          exact tr_at (.eq (.eq (.eq (.eq (.eq (.eq (.eq (.no .nil))))))))
      · intro s22 hm
        refine s_nil ?_
        obtain rfl := Option.some.inj hm
        exact tr_nx (tr_at (.eq (.eq (.eq (.eq (.eq (.eq (.no (.no .nil)))))))))
    · intro s24 hm
      refine s_fix 4 K rfl ?_
      refine tr_set (.s (.s (.s (.s .z)))) ?_
      exact s_ret (hret _ hm) (ev_lock (ix_at 3 rfl) (fun _ => (.s (.s (.s .z)))) (fun _ => (ev_lend (.im rfl (.im rfl (.im rfl (.fz fz_dict (.im rfl (.im rfl (.no (.no .nil)))))))) (flat_O flat_I) (ev_dget1 nn_I hr (ev_var (ix_at 3 rfl) (by first | exact Or.inl rfl | exact Or.inr (Or.inl rfl) | exact Or.inr (Or.inr rfl)) rfl) (ev_var (ix_at 2 rfl) (by first | exact Or.inl rfl | exact Or.inr (Or.inl rfl) | exact Or.inr (Or.inr rfl)) rfl) ⟨rfl, rfl, rfl, rfl⟩))) (fun _ => ix_at 3 rfl) (fun _ => (.s (.s (.s .z))))) pick_nil rfl
abbrev s_law : Stmt := topS 22
abbrev N_law : List Str := ["script", "box", "lot", "due", "spot", "handed", "told", "sides", "mean", "turn", "start", "goal", "steps", "row", "far"]
theorem sc_law : FnScope N_law ["script"] (defScope s_law) := ⟨rfl, rfl, rfl, by decide +kernel, rfl, by decide +kernel, by decide +kernel⟩
def sp_law (K : PySem.W.Frag) : Sp := fun vs H Qk _ => ∃ (script1 : (List Int)) (r : Bool) (W : Fx) (F : Hp), m_law script1 = some r ∧ Sat W (([imm (RQ K RI) script1] : List Sd).map some) (vs.map some) F H ∧ ∀ v H', Rt W (Imm RB) (fun _ => []) r v H' → Qk v H'
theorem ok_law {P : Program} {w : World} {K : PySem.W.Frag} {mg : Str → Option Value} {base : Heap} (m_len : mg "len" = none) (m_list : mg "list" = none) (m_range : mg "range" = none) (m_sorted : mg "sorted" = none) (m_sum : mg "sum" = none) {f__law_digits : Addr} {fd__law_digits : FuncData} (C__law_digits : Cal P w K mg base "_law_digits" 2 f__law_digits fd__law_digits ["script", "first", "last"] (sp__law_digits K)) {f__law_lot : Addr} {fd__law_lot : FuncData} (C__law_lot : Cal P w K mg base "_law_lot" 3 f__law_lot fd__law_lot ["box"] (sp__law_lot K)) {f__law_steps : Addr} {fd__law_steps : FuncData} (C__law_steps : Cal P w K mg base "_law_steps" 2 f__law_steps fd__law_steps ["lot", "start"] (sp__law_steps K)) {f_pieces : Addr} {fd_pieces : FuncData} (C_pieces : Cal P w K mg base "pieces" 3 f_pieces fd_pieces ["places"] (sp_pieces K)) {f__law_same : Addr} {fd__law_same : FuncData} (C__law_same : Cal P w K mg base "_law_same" 6 f__law_same fd__law_same ["told", "due"] (sp_same 5 K)) {f__law_mixed : Addr} {fd__law_mixed : FuncData} (C__law_mixed : Cal P w K mg base "_law_mixed" 2 f__law_mixed fd__law_mixed ["box", "row"] (sp__law_mixed K)) {f__law_near : Addr} {fd__law_near : FuncData} (C__law_near : Cal P w K mg base "_law_near" 1 f__law_near fd__law_near ["spot"] (sp__law_near K)) {f_outline : Addr} {fd_outline : FuncData} (C_outline : Cal P w K mg base "outline" 3 f_outline fd_outline ["places"] (sp_outline K)) {f__law_low : Addr} {fd__law_low : FuncData} (C__law_low : Cal P w K mg base "_law_low" 1 f__law_low fd__law_low ["top", "bottom"] (sp__law_low K)) {f_middle : Addr} {fd_middle : FuncData} (C_middle : Cal P w K mg base "middle" 2 f_middle fd_middle ["places"] (sp_middle K)) {f__law_pick : Addr} {fd__law_pick : FuncData} (C__law_pick : Cal P w K mg base "_law_pick" 2 f__law_pick fd__law_pick ["box", "row"] (sp__law_pick K)) {f_fewest_steps : Addr} {fd_fewest_steps : FuncData} (C_fewest_steps : Cal P w K mg base "fewest_steps" 3 f_fewest_steps fd_fewest_steps ["places", "start", "goal"] (sp_fewest_steps K)) {fa : Addr} {fd : FuncData} (FF : FnP K "law" s_law fa fd) : FnOk P w K mg base CX0 7 fa fd ["script"] (sp_law K) := by
  refine fn_okD FF sc_law (fun vs H Q E h => ?_) (fun cdv A outer s H vs Qk E hr h => ?_)
  · obtain ⟨script1, r, W, F0, hm, S, _⟩ := h
    exact sat_len S
  · obtain ⟨script1, r, W, F0, hm, S, hret0⟩ := h
    have hret : ∀ q, some q = some r → ∀ v H', Rt W (Imm RB) (fun _ => []) q v H' → Qk v H' := fun q e v H' h => hret0 v H' (by cases e; exact h)
    have h0 : Sat W [some (imm (RQ K RI) script1), none, none, none, none, none, none, none, none, none, none, none, none, none, none] (L2.start N_law vs) F0 H := start_tr S rfl
    have h1 := fun (PP : L2.St → Hp → Prop) (h : Tr W [some (imm (RQ K RI) script1), none, none, none, none, none, none, none, none, none, none, none, none, none, none] PP) => tr_run h _ F0 _ h0
    refine h1 _ ?_
    clear h0 h1
    unfold m_law at hm
    clear hret0 S
    obtain ⟨t2, h_t2, hm_⟩ := Option.bind_eq_some_iff.mp hm; clear hm; have hm := hm_; clear hm_
    obtain ⟨box3, h_box3, hm_⟩ := lt_get hm; clear hm; have hm := hm_; clear hm_
    refine s_new (EvO.eqS (eo_lstS (er_cons (ev_call C__law_digits.fn (hr.mono (by decide)) C__law_digits.g C__law_digits.kp C__law_digits.b (ea_cons (ev_var (ix_at 0 rfl) (by first | exact Or.inl rfl | exact Or.inr (Or.inl rfl) | exact Or.inr (Or.inr rfl)) rfl) (ea_cons ev_int (ea_cons ev_int ea_nil))) (fun vs H Qk W F e S q => ⟨_, _, _, _, W, F, h_t2, S, q⟩)) (er_one ev_int))) h_box3) sc_law.nd (ix_at 1 rfl) (by first | exact Or.inl rfl | exact Or.inr rfl) (fun l_box4 => ?_)
    refine tr_set (.s .z) ?_
    obtain ⟨t5, h_t5, hm_⟩ := Option.bind_eq_some_iff.mp hm; clear hm; have hm := hm_; clear hm_
    refine s_set (ev_R (RL K (RH (RC RI (R1 RI)))) t5.1 (ev_set (ev_callM (r := t5) C__law_lot.fn (hr.mono (by decide)) C__law_lot.g C__law_lot.kp C__law_lot.b (ea_lend (ix_at 1 rfl) (by first | exact Or.inl rfl | exact Or.inr (Or.inl rfl) | exact Or.inr (Or.inr rfl)) rfl ea_nil) (ix_at 1 rfl) (ix_at 0 rfl) (fun vs H Qk W F e S q => ⟨l_box4, _, _, W, F, h_t5, S, q⟩) (fun P h => h) (outs_at (QS l_box4 (RC (RL K RI) (R1 RI)) t5.2) rfl)) (.s .z))) sc_law.nd (ix_at 2 rfl) (by first | exact Or.inl rfl | exact Or.inr rfl) ?_
    refine tr_set (.s (.s .z)) ?_
    obtain ⟨due6, h_due6, hm_⟩ := lt_get hm; clear hm; have hm := hm_; clear hm_
    refine s_new (EvO.eqL (eo_lst (el_nilR (RL K (RH (RC RI (R1 RI)))))) h_due6) sc_law.nd (ix_at 3 rfl) (by first | exact Or.inl rfl | exact Or.inr rfl) (fun l_due7 => ?_)
    refine tr_set (.s (.s (.s .z))) ?_
    refine s_for due6 (fun (s8 : ((List (List (Int × Int))))) => [some (imm (RQ K RI) script1), some (own l_box4 (QS l_box4 (RC (RL K RI) (R1 RI)) t5.2)), some (imm (RL K (RH (RC RI (R1 RI)))) t5.1), some (own l_due7 (QL l_due7 (RL K (RH (RC RI (R1 RI)))) s8)), none, none, none, none, none, none, none, none, none, none, none]) (src_list (EvO.fix (eo_sortedE (enT (enC enI (en1 enI))) (od_H (od_cons od_I (od_one od_I))) rfl hr (Nat.le_of_ble_eq_true rfl) m_sorted (ev_var (ix_at 2 rfl) (by first | exact Or.inl rfl | exact Or.inr (Or.inl rfl) | exact Or.inr (Or.inr rfl)) rfl)))) (.eq (.eq (.eq (.eq (.no (.no (.no (.no (.no (.no (.no (.no (.no (.no (.no .nil))))))))))))))) hm ?_ ?_
    · intro W hW a9 s8 t11 ha_a9 hm
      refine ⟨_, _, (tg_name sc_law.nd (ix_at 4 rfl) (by first | exact Or.inl rfl | exact Or.inr rfl)), ?_⟩
      refine tr_set (.s (.s (.s (.s .z)))) ?_
      refine s_if (et_lend (.im rfl (.fz (fz_listS (K := K)) (.im rfl (.fz (fz_list (K := K)) (.im rfl (.no (.no (.no (.no (.no (.no (.no (.no (.no (.no .nil))))))))))))))) (et_cmp (cmp_eqD (d_L (d_L (d_H (d_cons d_I (d_one d_I))))) hr (Nat.le_of_ble_eq_true rfl)) (EvO.fix (eo_lc (lk_P (own := [("row", 13)]) (T := (RL K (RH (RC RI (R1 RI))))) (fun (a12 : (List (Int × Int))) => (decide (a9 ∈ a12))) (fun (a12 : (List (Int × Int))) => a12) [some (imm (RQ K RI) script1), some (imm (RLs K (RC (RL K RI) (R1 RI))) t5.2), some (imm (RL K (RH (RC RI (R1 RI)))) t5.1), some (imm (RL K (RL K (RH (RC RI (R1 RI))))) s8), some (imm (RH (RC RI (R1 RI))) a9), none, none, none, none, none, none, none, none, none, none] (src_list (ev_var (ix_at 3 rfl) (by first | exact Or.inl rfl | exact Or.inr (Or.inl rfl) | exact Or.inr (Or.inr rfl)) rfl)) sc_law.nd (blkOk_by (N := N_law) (sc := (defScope s_law)) (by decide +kernel)) (.eq (.eq (.eq (.eq (.eq (.no (.no (.no (.no (.no (.no (.no (.no (.no (.no .nil))))))))))))))) ⟨rfl, trivial⟩ (.keep (.keep (.keep (.keep (.keep (.keep (.keep (.keep (.keep (.keep (.keep (.keep (.keep (.keep (.keep .nil))))))))))))))) (fun a12 ha => turn1 (k := (decide (a9 ∈ a12))) [13] _ _ (by decide) (fun W _ _ _ _ _ _ => (tg_name sc_law.nd (ix_at 13 rfl) (by first | exact Or.inl rfl | exact Or.inr rfl))) (fun W _ _ _ _ _ _ => (et_cmp (cmp_inL (d_H (d_cons d_I (d_one d_I))) hr (Nat.le_of_ble_eq_true rfl)) (ev_var (ix_at 4 rfl) (by first | exact Or.inl rfl | exact Or.inr (Or.inl rfl) | exact Or.inr (Or.inr rfl)) rfl) (ev_var (ix_at 13 rfl) (by first | exact Or.inl rfl | exact Or.inr (Or.inl rfl) | exact Or.inr (Or.inr rfl)) rfl) (by with_unfolding_all rfl))) (isS_if _ _) (fun b hb => (fun W _ _ _ _ _ _ => Ev.eq (ev_var (ix_at 13 rfl) (by first | exact Or.inl rfl | exact Or.inr (Or.inl rfl) | exact Or.inr (Or.inr rfl)) rfl) (isS_eq hb))) (.eq (.eq (.eq (.eq (.eq (.no (.no (.no (.no (.no (.no (.no (.no (.no (.no .nil))))))))))))))) (.eq (.eq (.eq (.eq (.eq (.no (.no (.no (.no (.no (.no (.no (.no (.no (.no .nil))))))))))))))))))) (EvO.fix (eo_lst (el_nilR (RL K (RH (RC RI (R1 RI))))))) (nomark _))) hm ?_ ?_
      · intro hc14 hm
        obtain ⟨t15, h_t15, hm_⟩ := Option.bind_eq_some_iff.mp hm; clear hm; have hm := hm_; clear hm_
        obtain ⟨due16, h_due16, hm_⟩ := Option.bind_eq_some_iff.mp hm; clear hm; have hm := hm_; clear hm_
        refine s_app h_due16 (ix_at 3 rfl) (by first | exact Or.inl rfl | exact Or.inr (Or.inl rfl) | exact Or.inr (Or.inr rfl)) rfl (EvO.fix (eo_sortedDO (enT (enC enI (en1 enI))) (od_H (od_cons od_I (od_one od_I))) rfl hr (Nat.le_of_ble_eq_true rfl) m_sorted (eo_callQ C__law_steps.fn (hr.mono (by decide)) C__law_steps.g C__law_steps.kp C__law_steps.b (ea_cons (ev_var (ix_at 2 rfl) (by first | exact Or.inl rfl | exact Or.inr (Or.inl rfl) | exact Or.inr (Or.inr rfl)) rfl) (ea_cons (ev_var (ix_at 4 rfl) (by first | exact Or.inl rfl | exact Or.inr (Or.inl rfl) | exact Or.inr (Or.inr rfl)) rfl) ea_nil)) (fun vs H Qk W F e S q => ⟨_, _, _, W, F, h_t15, S, q⟩)))) rfl ?_
        refine tr_set (.s (.s (.s .z))) ?_
        refine s_nil ?_
        refine s_nil ?_
        obtain rfl := Option.some.inj hm
        exact tr_at (.eq (.eq (.eq (.eq (.no (.no (.no (.no (.no (.no (.no (.no (.no (.no (.no .nil)))))))))))))))
      · intro hc14 hm
        refine s_nil ?_
        refine s_nil ?_
        obtain rfl := Option.some.inj hm
        exact tr_at (.eq (.eq (.eq (.eq (.no (.no (.no (.no (.no (.no (.no (.no (.no (.no (.no .nil)))))))))))))))
    · intro s17 hm
      refine s_fix 3 K rfl ?_
      refine tr_set (.s (.s (.s .z))) ?_
      refine s_new (eo_listL m_list (ev_var (ix_at 2 rfl) (by first | exact Or.inl rfl | exact Or.inr (Or.inl rfl) | exact Or.inr (Or.inr rfl)) rfl)) sc_law.nd (ix_at 5 rfl) (by first | exact Or.inl rfl | exact Or.inr rfl) (fun l_handed19 => ?_)
      refine tr_set (.s (.s (.s (.s (.s .z))))) ?_
      refine s_fix 5 K rfl ?_
      refine tr_set (.s (.s (.s (.s (.s .z))))) ?_
      obtain ⟨t20, h_t20, hm_⟩ := Option.bind_eq_some_iff.mp hm; clear hm; have hm := hm_; clear hm_
      refine s_newX (ex_call (P := fun fp q => (tree fp (RLp (fun p_ => p_ ∈ fp) (RLp (fun p_ => p_ ∈ fp) (RH (RC RI (R1 RI))))) q)) C_pieces.fn (hr.mono (by decide)) C_pieces.g C_pieces.kp C_pieces.b (ea_cons (ev_var (ix_at 5 rfl) (by first | exact Or.inl rfl | exact Or.inr (Or.inl rfl) | exact Or.inr (Or.inr rfl)) rfl) ea_nil) (fun vs H Qk W F e S q => ⟨_, _, W, F, h_t20, S, q⟩)) sc_law.nd (ix_at 6 rfl) (by first | exact Or.inl rfl | exact Or.inr rfl) (fun fp_told21 => ?_)
      refine tr_set (.s (.s (.s (.s (.s (.s .z)))))) ?_
      obtain ⟨t22, h_t22, hm_⟩ := Option.bind_eq_some_iff.mp hm; clear hm; have hm := hm_; clear hm_
      refine s_if (et_lend (.im rfl (.fz (fz_listS (K := K)) (.im rfl (.im rfl (.no (.im rfl (.fz (fz_tree (sb_p (sb_p sb_refl))) (.no (.no (.no (.no (.no (.no (.no (.no .nil))))))))))))))) (et_w (ew_orP (et_not (et_val (ev_same (em_L (em_L (em_H (em_cons em_I (em_one em_I))))) (by decide) h_t22 C__law_same.fn (hr.mono (by decide)) C__law_same.g C__law_same.kp C__law_same.b (ev_var (ix_at 6 rfl) (by first | exact Or.inl rfl | exact Or.inr (Or.inl rfl) | exact Or.inr (Or.inr rfl)) rfl) (ev_var (ix_at 3 rfl) (by first | exact Or.inl rfl | exact Or.inr (Or.inl rfl) | exact Or.inr (Or.inr rfl)) rfl)))) (ew_or1 (et_cmp (cmp_neD (d_L (d_H (d_cons d_I (d_one d_I)))) hr (Nat.le_of_ble_eq_true rfl)) (ev_var (ix_at 5 rfl) (by first | exact Or.inl rfl | exact Or.inr (Or.inl rfl) | exact Or.inr (Or.inr rfl)) rfl) (ev_var (ix_at 2 rfl) (by first | exact Or.inl rfl | exact Or.inr (Or.inl rfl) | exact Or.inr (Or.inr rfl)) rfl) (nomark _)))))) hm ?_ ?_
      · intro hc23 hm
        exact s_ret (hret _ hm) ev_bl pick_nil rfl
      · intro hc23 hm
        refine s_nil ?_
        obtain ⟨t24, h_t24, hm_⟩ := Option.bind_eq_some_iff.mp hm; clear hm; have hm := hm_; clear hm_
        obtain ⟨g25, h_g25, hm_⟩ := Option.bind_eq_some_iff.mp hm; clear hm; have hm := hm_; clear hm_
        refine s_appX (i := 6) rfl (.im rfl (.fz (fz_listS (K := K)) (.im rfl (.im rfl (.no (.im rfl (.fz (fz_tree sb_refl) (.no (.no (.no (.no (.no (.no (.no (.no .nil))))))))))))))) (ev_ixL h_t24 (Ev.sb (sb_p sb_refl) (ev_var (ix_at 6 rfl) (by first | exact Or.inl rfl | exact Or.inr (Or.inl rfl) | exact Or.inr (Or.inr rfl)) rfl)) ev_int) (of_decide_eq_true (gd_of h_g25)) (ev_tupH (er_cons ev_int (er_one ev_int))) ?_
        refine tr_set (.s (.s (.s (.s (.s (.s .z)))))) ?_
        obtain ⟨t26, h_t26, hm_⟩ := Option.bind_eq_some_iff.mp hm; clear hm; have hm := hm_; clear hm_
        obtain ⟨t27, h_t27, hm_⟩ := Option.bind_eq_some_iff.mp hm; clear hm; have hm := hm_; clear hm_
        obtain ⟨t28, h_t28, hm_⟩ := Option.bind_eq_some_iff.mp hm; clear hm; have hm := hm_; clear hm_
        refine s_if (et_not (et_val (ev_same (em_L (em_L (em_H (em_cons em_I (em_one em_I))))) (by decide) h_t28 C__law_same.fn (hr.mono (by decide)) C__law_same.g C__law_same.kp C__law_same.b (EvX.fix (R' := (RL K (RL K (RH (RC RI (R1 RI)))))) (ex_call (P := fun fp q => (tree fp (RLp (fun p_ => p_ ∈ fp) (RLp (fun p_ => p_ ∈ fp) (RH (RC RI (R1 RI))))) q)) C_pieces.fn (hr.mono (by decide)) C_pieces.g C_pieces.kp C_pieces.b (ea_cons (ev_R (RL K (RH (RC RI (R1 RI)))) t26.1 (ev_set (ev_callM (r := t26) C__law_mixed.fn (hr.mono (by decide)) C__law_mixed.g C__law_mixed.kp C__law_mixed.b (ea_lend (ix_at 1 rfl) (by first | exact Or.inl rfl | exact Or.inr (Or.inl rfl) | exact Or.inr (Or.inr rfl)) rfl (ea_cons (ev_var (ix_at 2 rfl) (by first | exact Or.inl rfl | exact Or.inr (Or.inl rfl) | exact Or.inr (Or.inr rfl)) rfl) ea_nil)) (ix_at 1 rfl) (ix_at 0 rfl) (fun vs H Qk W F e S q => ⟨(Int × Int), (RH (RC RI (R1 RI))), l_box4, _, _, _, W, F, h_t26, S, q⟩) (fun P h => h) (outs_at (QS l_box4 (RC (RL K RI) (R1 RI)) t26.2) rfl)) (.s .z))) ea_nil) (fun vs H Qk W F e S q => ⟨_, _, W, F, h_t27, S, q⟩)) (fun _ => (sb_p (sb_p sb_refl)))) (ev_var (ix_at 3 rfl) (by first | exact Or.inl rfl | exact Or.inr (Or.inl rfl) | exact Or.inr (Or.inr rfl)) rfl)))) hm ?_ ?_
        · intro hc29 hm
          exact s_ret (hret _ hm) ev_bl pick_nil rfl
        · intro hc29 hm
          refine s_nil ?_
          refine s_set ev_int sc_law.nd (ix_at 7 rfl) (by first | exact Or.inl rfl | exact Or.inr rfl) ?_
          refine tr_set (.s (.s (.s (.s (.s (.s (.s .z))))))) ?_
          refine s_for (0 : Int) (fun (s30 : (Int)) => [some (imm (RQ K RI) script1), some (own l_box4 (QS l_box4 (RC (RL K RI) (R1 RI)) t26.2)), some (imm (RL K (RH (RC RI (R1 RI)))) t5.1), some (imm (RL K (RL K (RH (RC RI (R1 RI))))) s17), none, some (imm (RL K (RH (RC RI (R1 RI)))) t5.1), none, some (imm RI s30), none, none, none, none, none, none, none]) (src_list (ev_var (ix_at 2 rfl) (by first | exact Or.inl rfl | exact Or.inr (Or.inl rfl) | exact Or.inr (Or.inr rfl)) rfl)) (.eq (.eq (.eq (.eq (.no (.eq (.no (.eq (.no (.no (.no (.no (.no (.no (.no .nil))))))))))))))) hm ?_ ?_
          · intro W hW a31 s30 t33 ha_a31 hm
            refine ⟨_, _, (tg_name sc_law.nd (ix_at 4 rfl) (by first | exact Or.inl rfl | exact Or.inr rfl)), ?_⟩
            refine tr_set (.s (.s (.s (.s .z)))) ?_
            obtain ⟨t37, h_t37, hm_⟩ := Option.bind_eq_some_iff.mp hm; clear hm; have hm := hm_; clear hm_
            obtain ⟨sides40, h_sides40, hm_⟩ := lt_get hm; clear hm; have hm := hm_; clear hm_
            refine s_set (Ev.eq (ev_add (ev_var (ix_at 7 rfl) (by first | exact Or.inl rfl | exact Or.inr (Or.inl rfl) | exact Or.inr (Or.inr rfl)) rfl) (ev_lenL m_len (EvO.fix (eo_lc (lk_P (own := [("far", 14)]) (T := (RH (RC RI (R1 RI)))) (fun (a38 : (Int × Int)) => (!(decide (a38 ∈ t5.1)))) (fun (a38 : (Int × Int)) => a38) [some (imm (RQ K RI) script1), some (own l_box4 (QS l_box4 (RC (RL K RI) (R1 RI)) t26.2)), some (imm (RL K (RH (RC RI (R1 RI)))) t5.1), some (imm (RL K (RL K (RH (RC RI (R1 RI))))) s17), some (imm (RH (RC RI (R1 RI))) a31), some (imm (RL K (RH (RC RI (R1 RI)))) t5.1), none, some (imm RI s30), none, none, none, none, none, none, none] (src_list (ev_call C__law_near.fn (hr.mono (by decide)) C__law_near.g C__law_near.kp C__law_near.b (ea_cons (ev_var (ix_at 4 rfl) (by first | exact Or.inl rfl | exact Or.inr (Or.inl rfl) | exact Or.inr (Or.inr rfl)) rfl) ea_nil) (fun vs H Qk W F e S q => ⟨_, _, W, F, h_t37, S, q⟩))) sc_law.nd (blkOk_by (N := N_law) (sc := (defScope s_law)) (by decide +kernel)) (.eq (.eq (.eq (.eq (.eq (.eq (.no (.eq (.no (.no (.no (.no (.no (.no (.no .nil))))))))))))))) ⟨rfl, trivial⟩ (.keep (.keep (.keep (.keep (.keep (.keep (.keep (.keep (.keep (.keep (.keep (.keep (.keep (.keep (.keep .nil))))))))))))))) (fun a38 ha => turn1 (k := (!(decide (a38 ∈ t5.1)))) [14] _ _ (by decide) (fun W _ _ _ _ _ _ => (tg_name sc_law.nd (ix_at 14 rfl) (by first | exact Or.inl rfl | exact Or.inr rfl))) (fun W _ _ _ _ _ _ => (et_cmp (cmp_ninL (d_H (d_cons d_I (d_one d_I))) hr (Nat.le_of_ble_eq_true rfl)) (ev_var (ix_at 14 rfl) (by first | exact Or.inl rfl | exact Or.inr (Or.inl rfl) | exact Or.inr (Or.inr rfl)) rfl) (ev_var (ix_at 2 rfl) (by first | exact Or.inl rfl | exact Or.inr (Or.inl rfl) | exact Or.inr (Or.inr rfl)) rfl) (by with_unfolding_all rfl))) (isS_if _ _) (fun b hb => (fun W _ _ _ _ _ _ => Ev.eq (ev_var (ix_at 14 rfl) (by first | exact Or.inl rfl | exact Or.inr (Or.inl rfl) | exact Or.inr (Or.inr rfl)) rfl) (isS_eq hb))) (.eq (.eq (.eq (.eq (.eq (.eq (.no (.eq (.no (.no (.no (.no (.no (.no (.no .nil))))))))))))))) (.eq (.eq (.eq (.eq (.eq (.eq (.no (.eq (.no (.no (.no (.no (.no (.no (.no .nil))))))))))))))))))))) h_sides40) sc_law.nd (ix_at 7 rfl) (by first | exact Or.inl rfl | exact Or.inr rfl) ?_
            refine tr_set (.s (.s (.s (.s (.s (.s (.s .z))))))) ?_
            refine s_nil ?_
            obtain rfl := Option.some.inj hm
            exact tr_at (.eq (.eq (.eq (.eq (.no (.eq (.no (.eq (.no (.no (.no (.no (.no (.no (.no .nil)))))))))))))))
          · intro s41 hm
            obtain ⟨t43, h_t43, hm_⟩ := Option.bind_eq_some_iff.mp hm; clear hm; have hm := hm_; clear hm_
            obtain ⟨t44, h_t44, hm_⟩ := Option.bind_eq_some_iff.mp hm; clear hm; have hm := hm_; clear hm_
            refine s_if (et_not (et_val (ev_same em_I (by decide) h_t44 C__law_same.fn (hr.mono (by decide)) C__law_same.g C__law_same.kp C__law_same.b (ev_call C_outline.fn (hr.mono (by decide)) C_outline.g C_outline.kp C_outline.b (ea_cons (ev_var (ix_at 5 rfl) (by first | exact Or.inl rfl | exact Or.inr (Or.inl rfl) | exact Or.inr (Or.inr rfl)) rfl) ea_nil) (fun vs H Qk W F e S q => ⟨_, _, W, F, h_t43, S, q⟩)) (ev_var (ix_at 7 rfl) (by first | exact Or.inl rfl | exact Or.inr (Or.inl rfl) | exact Or.inr (Or.inr rfl)) rfl)))) hm ?_ ?_
            · intro hc45 hm
              exact s_ret (hret _ hm) ev_bl pick_nil rfl
            · intro hc45 hm
              refine s_nil ?_
              obtain ⟨t48, h_t48, hm_⟩ := Option.bind_eq_some_iff.mp hm; clear hm; have hm := hm_; clear hm_
              obtain ⟨t51, h_t51, hm_⟩ := Option.bind_eq_some_iff.mp hm; clear hm; have hm := hm_; clear hm_
              obtain ⟨mean52, h_mean52, hm_⟩ := lt_get hm; clear hm; have hm := hm_; clear hm_
              refine s_set (Ev.eq (ev_tupH (er_cons (ev_call C__law_low.fn (hr.mono (by decide)) C__law_low.g C__law_low.kp C__law_low.b (ea_cons (ev_sum m_sum (EvO.fix (eo_lc (lk_M (own := [("spot", 4)]) (T := RI) (fun (a46 : (Int × Int)) => a46.1) [some (imm (RQ K RI) script1), some (own l_box4 (QS l_box4 (RC (RL K RI) (R1 RI)) t26.2)), some (imm (RL K (RH (RC RI (R1 RI)))) t5.1), some (imm (RL K (RL K (RH (RC RI (R1 RI))))) s17), none, some (imm (RL K (RH (RC RI (R1 RI)))) t5.1), none, some (imm RI s41), none, none, none, none, none, none, none] (src_list (ev_var (ix_at 2 rfl) (by first | exact Or.inl rfl | exact Or.inr (Or.inl rfl) | exact Or.inr (Or.inr rfl)) rfl)) sc_law.nd (blkOk_by (N := N_law) (sc := (defScope s_law)) (by decide +kernel)) (.eq (.eq (.eq (.eq (.no (.eq (.no (.eq (.no (.no (.no (.no (.no (.no (.no .nil))))))))))))))) ⟨rfl, trivial⟩ (.keep (.keep (.keep (.keep (.keep (.keep (.keep (.keep (.keep (.keep (.keep (.keep (.keep (.keep (.keep .nil))))))))))))))) (fun a46 ha => turn0 [4] _ _ (by decide) (fun W _ _ _ _ _ _ => (tg_name sc_law.nd (ix_at 4 rfl) (by first | exact Or.inl rfl | exact Or.inr rfl))) (fun W _ _ _ _ _ _ => (ev_ixH pj_hd (ixn_at 0 rfl) (ev_var (ix_at 4 rfl) (by first | exact Or.inl rfl | exact Or.inr (Or.inl rfl) | exact Or.inr (Or.inr rfl)) rfl) ev_int)) (.eq (.eq (.eq (.eq (.no (.eq (.no (.eq (.no (.no (.no (.no (.no (.no (.no .nil)))))))))))))))))))) (ea_cons (ev_lenL m_len (ev_var (ix_at 2 rfl) (by first | exact Or.inl rfl | exact Or.inr (Or.inl rfl) | exact Or.inr (Or.inr rfl)) rfl)) ea_nil)) (fun vs H Qk W F e S q => ⟨_, _, _, W, F, h_t48, S, q⟩)) (er_one (ev_call C__law_low.fn (hr.mono (by decide)) C__law_low.g C__law_low.kp C__law_low.b (ea_cons (ev_sum m_sum (EvO.fix (eo_lc (lk_M (own := [("spot", 4)]) (T := RI) (fun (a49 : (Int × Int)) => a49.2) [some (imm (RQ K RI) script1), some (own l_box4 (QS l_box4 (RC (RL K RI) (R1 RI)) t26.2)), some (imm (RL K (RH (RC RI (R1 RI)))) t5.1), some (imm (RL K (RL K (RH (RC RI (R1 RI))))) s17), none, some (imm (RL K (RH (RC RI (R1 RI)))) t5.1), none, some (imm RI s41), none, none, none, none, none, none, none] (src_list (ev_var (ix_at 2 rfl) (by first | exact Or.inl rfl | exact Or.inr (Or.inl rfl) | exact Or.inr (Or.inr rfl)) rfl)) sc_law.nd (blkOk_by (N := N_law) (sc := (defScope s_law)) (by decide +kernel)) (.eq (.eq (.eq (.eq (.no (.eq (.no (.eq (.no (.no (.no (.no (.no (.no (.no .nil))))))))))))))) ⟨rfl, trivial⟩ (.keep (.keep (.keep (.keep (.keep (.keep (.keep (.keep (.keep (.keep (.keep (.keep (.keep (.keep (.keep .nil))))))))))))))) (fun a49 ha => turn0 [4] _ _ (by decide) (fun W _ _ _ _ _ _ => (tg_name sc_law.nd (ix_at 4 rfl) (by first | exact Or.inl rfl | exact Or.inr rfl))) (fun W _ _ _ _ _ _ => (ev_ixH (pj_tl pj_one) (ixn_at 1 rfl) (ev_var (ix_at 4 rfl) (by first | exact Or.inl rfl | exact Or.inr (Or.inl rfl) | exact Or.inr (Or.inr rfl)) rfl) ev_int)) (.eq (.eq (.eq (.eq (.no (.eq (.no (.eq (.no (.no (.no (.no (.no (.no (.no .nil)))))))))))))))))))) (ea_cons (ev_lenL m_len (ev_var (ix_at 2 rfl) (by first | exact Or.inl rfl | exact Or.inr (Or.inl rfl) | exact Or.inr (Or.inr rfl)) rfl)) ea_nil)) (fun vs H Qk W F e S q => ⟨_, _, _, W, F, h_t51, S, q⟩))))) h_mean52) sc_law.nd (ix_at 8 rfl) (by first | exact Or.inl rfl | exact Or.inr rfl) ?_
              refine tr_set (.s (.s (.s (.s (.s (.s (.s (.s .z)))))))) ?_
              obtain ⟨t53, h_t53, hm_⟩ := Option.bind_eq_some_iff.mp hm; clear hm; have hm := hm_; clear hm_
              obtain ⟨t54, h_t54, hm_⟩ := Option.bind_eq_some_iff.mp hm; clear hm; have hm := hm_; clear hm_
              refine s_if (et_not (et_val (ev_same (em_H (em_cons (em_H (em_cons em_I (em_one em_I))) (em_one (em_H (em_cons em_I (em_one em_I)))))) (by decide) h_t54 C__law_same.fn (hr.mono (by decide)) C__law_same.g C__law_same.kp C__law_same.b (ev_call C_middle.fn (hr.mono (by decide)) C_middle.g C_middle.kp C_middle.b (ea_cons (ev_var (ix_at 5 rfl) (by first | exact Or.inl rfl | exact Or.inr (Or.inl rfl) | exact Or.inr (Or.inr rfl)) rfl) ea_nil) (fun vs H Qk W F e S q => ⟨_, _, W, F, h_t53, S, q⟩)) (ev_var (ix_at 8 rfl) (by first | exact Or.inl rfl | exact Or.inr (Or.inl rfl) | exact Or.inr (Or.inr rfl)) rfl)))) hm ?_ ?_
              · intro hc55 hm
                exact s_ret (hret _ hm) ev_bl pick_nil rfl
              · intro hc55 hm
                refine s_nil ?_
                refine s_forC t26.2 (fun (s56 : (((List Int) × Int))) => [some (imm (RQ K RI) script1), some (own l_box4 (QS l_box4 (RC (RL K RI) (R1 RI)) s56)), some (imm (RL K (RH (RC RI (R1 RI)))) t5.1), some (imm (RL K (RL K (RH (RC RI (R1 RI))))) s17), none, some (imm (RL K (RH (RC RI (R1 RI)))) t5.1), none, some (imm RI s41), some (imm (RH (RC (RH (RC RI (R1 RI))) (R1 (RH (RC RI (R1 RI)))))) mean52), none, none, none, none, none, none]) (Rt W (Imm RB) (fun _ => [])) (src_rng1 m_range (by decide) ev_int) (.eq (.eq (.eq (.eq (.no (.eq (.no (.eq (.eq (.no (.no (.no (.no (.no (.no .nil))))))))))))))) hm ?_ ?_ hret
                · intro W hW a57 s56 t59 ha_a57 hm
                  have hret := fun (q : Bool) (e : some (Ctl.ret q) = some t59) (v : V) (H : Hp) (h : Rt W (Imm RB) (fun _ => []) q v H) => ld_ret (Gs := (fun (s56 : (((List Int) × Int))) => [some (imm (RQ K RI) script1), some (own l_box4 (QS l_box4 (RC (RL K RI) (R1 RI)) s56)), some (imm (RL K (RH (RC RI (R1 RI)))) t5.1), some (imm (RL K (RL K (RH (RC RI (R1 RI))))) s17), none, some (imm (RL K (RH (RC RI (R1 RI)))) t5.1), none, some (imm RI s41), some (imm (RH (RC (RH (RC RI (R1 RI))) (R1 (RH (RC RI (R1 RI)))))) mean52), none, none, none, none, none, none])) (W := W) hW e h
                  refine ⟨_, _, (tg_name sc_law.nd (ix_at 9 rfl) (by first | exact Or.inl rfl | exact Or.inr rfl)), ?_⟩
                  refine tr_set (.s (.s (.s (.s (.s (.s (.s (.s (.s .z))))))))) ?_
                  obtain ⟨t60, h_t60, hm_⟩ := Option.bind_eq_some_iff.mp hm; clear hm; have hm := hm_; clear hm_
                  refine s_set (ev_R (RH (RC RI (R1 RI))) t60.1 (ev_set (ev_callM (r := t60) C__law_pick.fn (hr.mono (by decide)) C__law_pick.g C__law_pick.kp C__law_pick.b (ea_lend (ix_at 1 rfl) (by first | exact Or.inl rfl | exact Or.inr (Or.inl rfl) | exact Or.inr (Or.inr rfl)) rfl (ea_cons (ev_var (ix_at 2 rfl) (by first | exact Or.inl rfl | exact Or.inr (Or.inl rfl) | exact Or.inr (Or.inr rfl)) rfl) ea_nil)) (ix_at 1 rfl) (ix_at 0 rfl) (fun vs H Qk W F e S q => ⟨(Int × Int), (RH (RC RI (R1 RI))), l_box4, _, _, _, W, F, h_t60, S, q⟩) (fun P h => h) (outs_at (QS l_box4 (RC (RL K RI) (R1 RI)) t60.2) rfl)) (.s .z))) sc_law.nd (ix_at 10 rfl) (by first | exact Or.inl rfl | exact Or.inr rfl) ?_
                  refine tr_set (.s (.s (.s (.s (.s (.s (.s (.s (.s (.s .z)))))))))) ?_
                  obtain ⟨t61, h_t61, hm_⟩ := Option.bind_eq_some_iff.mp hm; clear hm; have hm := hm_; clear hm_
                  refine s_set (ev_R (RH (RC RI (R1 RI))) t61.1 (ev_set (ev_callM (r := t61) C__law_pick.fn (hr.mono (by decide)) C__law_pick.g C__law_pick.kp C__law_pick.b (ea_lend (ix_at 1 rfl) (by first | exact Or.inl rfl | exact Or.inr (Or.inl rfl) | exact Or.inr (Or.inr rfl)) rfl (ea_cons (ev_var (ix_at 2 rfl) (by first | exact Or.inl rfl | exact Or.inr (Or.inl rfl) | exact Or.inr (Or.inr rfl)) rfl) ea_nil)) (ix_at 1 rfl) (ix_at 0 rfl) (fun vs H Qk W F e S q => ⟨(Int × Int), (RH (RC RI (R1 RI))), l_box4, _, _, _, W, F, h_t61, S, q⟩) (fun P h => h) (outs_at (QS l_box4 (RC (RL K RI) (R1 RI)) t61.2) rfl)) (.s .z))) sc_law.nd (ix_at 11 rfl) (by first | exact Or.inl rfl | exact Or.inr rfl) ?_
                  refine tr_set (.s (.s (.s (.s (.s (.s (.s (.s (.s (.s (.s .z))))))))))) ?_
                  obtain ⟨t62, h_t62, hm_⟩ := Option.bind_eq_some_iff.mp hm; clear hm; have hm := hm_; clear hm_
                  refine s_new (eo_callQ C__law_steps.fn (hr.mono (by decide)) C__law_steps.g C__law_steps.kp C__law_steps.b (ea_cons (ev_var (ix_at 2 rfl) (by first | exact Or.inl rfl | exact Or.inr (Or.inl rfl) | exact Or.inr (Or.inr rfl)) rfl) (ea_cons (ev_var (ix_at 10 rfl) (by first | exact Or.inl rfl | exact Or.inr (Or.inl rfl) | exact Or.inr (Or.inr rfl)) rfl) ea_nil)) (fun vs H Qk W F e S q => ⟨_, _, _, W, F, h_t62, S, q⟩)) sc_law.nd (ix_at 12 rfl) (by first | exact Or.inl rfl | exact Or.inr rfl) (fun l_steps63 => ?_)
                  refine tr_set (.s (.s (.s (.s (.s (.s (.s (.s (.s (.s (.s (.s .z)))))))))))) ?_
                  obtain ⟨t64, h_t64, hm_⟩ := Option.bind_eq_some_iff.mp hm; clear hm; have hm := hm_; clear hm_
                  obtain ⟨t66, h_t66, hm_⟩ := Option.bind_eq_some_iff.mp hm; clear hm; have hm := hm_; clear hm_
                  obtain ⟨t67, h_t67, hm_⟩ := Option.bind_eq_some_iff.mp hm; clear hm; have hm := hm_; clear hm_
                  refine s_if (et_lock (ix_at 12 rfl) (fun _ => (.s (.s (.s (.s (.s (.s (.s (.s (.s (.s (.s (.s .z))))))))))))) (fun _ => (et_lend (.im rfl (.fz (fz_listS (K := K)) (.im rfl (.im rfl (.no (.im rfl (.no (.im rfl (.im rfl (.im rfl (.im rfl (.im rfl (.fz fz_dict (.no (.no .nil))))))))))))))) (et_not (et_val (ev_same (em_O em_I) (by decide) h_t67 C__law_same.fn (hr.mono (by decide)) C__law_same.g C__law_same.kp C__law_same.b (ev_call C_fewest_steps.fn (hr.mono (by decide)) C_fewest_steps.g C_fewest_steps.kp C_fewest_steps.b (ea_cons (ev_var (ix_at 5 rfl) (by first | exact Or.inl rfl | exact Or.inr (Or.inl rfl) | exact Or.inr (Or.inr rfl)) rfl) (ea_cons (ev_var (ix_at 10 rfl) (by first | exact Or.inl rfl | exact Or.inr (Or.inl rfl) | exact Or.inr (Or.inr rfl)) rfl) (ea_cons (ev_var (ix_at 11 rfl) (by first | exact Or.inl rfl | exact Or.inr (Or.inl rfl) | exact Or.inr (Or.inr rfl)) rfl) ea_nil))) (fun vs H Qk W F e S q => ⟨_, _, _, _, W, F, h_t64, S, q⟩)) (ev_if (et_cmp (cmp_inD hr) (ev_var (ix_at 11 rfl) (by first | exact Or.inl rfl | exact Or.inr (Or.inl rfl) | exact Or.inr (Or.inr rfl)) rfl) (ev_var (ix_at 12 rfl) (by first | exact Or.inl rfl | exact Or.inr (Or.inl rfl) | exact Or.inr (Or.inr rfl)) rfl) (by with_unfolding_all rfl)) (fun hc => by rw [if_pos hc] at h_t66; obtain ⟨t65, h_t65, h_t66⟩ := Option.bind_eq_some_iff.mp h_t66; exact Ev.eq (ev_some nn_I (ev_dget h_t65 hr (ev_var (ix_at 12 rfl) (by first | exact Or.inl rfl | exact Or.inr (Or.inl rfl) | exact Or.inr (Or.inr rfl)) rfl) (ev_var (ix_at 11 rfl) (by first | exact Or.inl rfl | exact Or.inr (Or.inl rfl) | exact Or.inr (Or.inr rfl)) rfl))) (Option.some.inj h_t66)) (fun hc => by rw [if_neg (Bool.eq_false_iff.mp hc)] at h_t66; exact Ev.eq (Ev.none (R := RI) ev_non) (Option.some.inj h_t66)))))))) (fun _ => ix_at 12 rfl) (fun _ => (.s (.s (.s (.s (.s (.s (.s (.s (.s (.s (.s (.s .z)))))))))))))) hm ?_ ?_
                  · intro hc68 hm
                    exact s_ret (hret _ hm) ev_bl pick_nil rfl
                  · intro hc68 hm
                    refine s_nil ?_
                    refine s_nil ?_
                    obtain rfl := Option.some.inj hm
                    exact tr_nx (tr_at (.eq (.eq (.eq (.eq (.no (.eq (.no (.eq (.eq (.no (.no (.no (.no (.no (.no .nil))))))))))))))))
                · intro s69 hm
                  exact s_ret (hret _ hm) (ev_cmp (cmp_eqD (d_L (d_H (d_cons d_I (d_one d_I)))) hr (Nat.le_of_ble_eq_true rfl)) (ev_var (ix_at 5 rfl) (by first | exact Or.inl rfl | exact Or.inr (Or.inl rfl) | exact Or.inr (Or.inr rfl)) rfl) (ev_var (ix_at 2 rfl) (by first | exact Or.inl rfl | exact Or.inr (Or.inl rfl) | exact Or.inr (Or.inr rfl)) rfl) (nomark _)) pick_nil rfl
def d__law_draw : He.DefD := ⟨("_law_draw", none), "_law_draw", "_law_draw", defArgs s__law_draw, defBody s__law_draw, defScope s__law_draw, [], []⟩
def d__law_pick : He.DefD := ⟨("_law_pick", none), "_law_pick", "_law_pick", defArgs s__law_pick, defBody s__law_pick, defScope s__law_pick, [], []⟩
def d__law_lot : He.DefD := ⟨("_law_lot", none), "_law_lot", "_law_lot", defArgs s__law_lot, defBody s__law_lot, defScope s__law_lot, [], []⟩
def d_moved : He.DefD := ⟨("moved", none), "moved", "moved", defArgs s_moved, defBody s_moved, defScope s_moved, [], []⟩
def d_beside : He.DefD := ⟨("beside", none), "beside", "beside", defArgs s_beside, defBody s_beside, defScope s_beside, [], []⟩
def d_pieces : He.DefD := ⟨("pieces", none), "pieces", "pieces", defArgs s_pieces, defBody s_pieces, defScope s_pieces, [], []⟩
def d__law_cell : He.DefD := ⟨("_law_cell", none), "_law_cell", "_law_cell", defArgs s__law_cell, defBody s__law_cell, defScope s__law_cell, [], []⟩
def d__law_digits : He.DefD := ⟨("_law_digits", none), "_law_digits", "_law_digits", defArgs s__law_digits, defBody s__law_digits, defScope s__law_digits, [], []⟩
def d__law_same : He.DefD := ⟨("_law_same", none), "_law_same", "_law_same", defArgs s__law_same, defBody s__law_same, defScope s__law_same, [], []⟩
def d__law_low : He.DefD := ⟨("_law_low", none), "_law_low", "_law_low", defArgs s__law_low, defBody s__law_low, defScope s__law_low, [], []⟩
def d__law_near : He.DefD := ⟨("_law_near", none), "_law_near", "_law_near", defArgs s__law_near, defBody s__law_near, defScope s__law_near, [], []⟩
def d__law_steps : He.DefD := ⟨("_law_steps", none), "_law_steps", "_law_steps", defArgs s__law_steps, defBody s__law_steps, defScope s__law_steps, [], []⟩
def d_outline : He.DefD := ⟨("outline", none), "outline", "outline", defArgs s_outline, defBody s_outline, defScope s_outline, [], []⟩
def d_fraction : He.DefD := ⟨("fraction", none), "fraction", "fraction", defArgs s_fraction, defBody s_fraction, defScope s_fraction, [], []⟩
def d_middle : He.DefD := ⟨("middle", none), "middle", "middle", defArgs s_middle, defBody s_middle, defScope s_middle, [], []⟩
def d__law_mixed : He.DefD := ⟨("_law_mixed", none), "_law_mixed", "_law_mixed", defArgs s__law_mixed, defBody s__law_mixed, defScope s__law_mixed, [], []⟩
def d_fewest_steps : He.DefD := ⟨("fewest_steps", none), "fewest_steps", "fewest_steps", defArgs s_fewest_steps, defBody s_fewest_steps, defScope s_fewest_steps, [], []⟩
def d_law : He.DefD := ⟨("law", none), "law", "law", defArgs s_law, defBody s_law, defScope s_law, [], []⟩
def fns : List He.DefD := [d__law_draw, d__law_pick, d__law_lot, d_moved, d_beside, d_pieces, d__law_cell, d__law_digits, d__law_same, d__law_low, d__law_near, d__law_steps, d_outline, d_fraction, d_middle, d__law_mixed, d_fewest_steps, d_law]
def fas : List He.Fa := [.glo "_law_draw", .glo "_law_pick", .glo "_law_lot", .glo "moved", .glo "beside", .glo "pieces", .glo "_law_cell", .glo "_law_digits", .glo "_law_same", .glo "_law_low", .glo "_law_near", .glo "_law_steps", .glo "outline", .glo "fraction", .glo "middle", .glo "_law_mixed", .glo "fewest_steps", .glo "law", .free "abs", .free "bool", .free "int", .free "isinstance", .free "len", .free "list", .free "range", .free "repr", .free "sorted", .free "str", .free "sum", .free "tuple"]
def exl : List (PySem.W.Frag → Bool) := [(fun K => valB K "STEPS" fun v => ((ck_V (ck_T (ck_cons ck_I (ck_one ck_I)))) : Ck K (RV K (RT K (RC RI (R1 RI))))).b v c_STEPS),
  (fun K => valB K "gcd" (bltB "math.gcd"))]
abbrev R0 : PySem.W.OpenRow := PySem.W.OpenLaw.row PySem.Challenge.rw_maplands_k54_whole_lots_that_hang_togeth
abbrev exB (K : PySem.W.Frag) : Bool := exl.all fun f => f K
abbrev hk : PySem.W.Hook := hookM 4 fas fns exB
def ob (s : PySem.W.SharedT) : He.AlD × Bool := obsM 4 fas fns exB (HandSHeadRun.getT s)
theorem ob_eq (s : PySem.W.SharedT) : ob s = hk.obs s.abs := obsM_eq (HandSHeadRun.getT_eq s)
def names : List PySem.Str := (["gcd", "fraction", "STEPS", "moved", "beside", "pieces", "outline", "fewest_steps", "middle", "_law_cell", "_law_digits", "_law_draw", "_law_pick", "_law_mixed", "_law_same", "_law_near", "_law_low", "_law_lot", "_law_steps"] : List PySem.Str)
set_option maxHeartbeats 0 in
theorem run (w : World) : HeadI.RunEqI R0 (PySem.W.view R0.prog [22]) hk ob 1500 1320 names w := by
  unfold HeadI.RunEqI
  kernel_rfl
theorem facts {P : Program} {w : World} {K : PySem.W.Frag} {h : Heap} {mg : Str → Option Value} {f : Addr} (X : K.In h) (G : h.Ns mainGlobals mg) (hfa : mg ("law" : Str) = some (.ref f)) (c : He.SaysD fas fns K) (ex : exB K = true) :
    ∃ fd : FuncData, (∀ (s : Shared) (v : Value), BindsTo s fd ⟨[v], []⟩ [("script", v)]) ∧ ∀ base : Heap, K.In base → base.Ns mainGlobals mg → FnOk P w K mg base CX0 7 f fd ["script"] (sp_law K) := by
  have m_abs : mg "abs" = none := He.free_ok X G (c.fact 18 (f := .free "abs") rfl)
  have m_bool : mg "bool" = none := He.free_ok X G (c.fact 19 (f := .free "bool") rfl)
  have m_int : mg "int" = none := He.free_ok X G (c.fact 20 (f := .free "int") rfl)
  have m_isinstance : mg "isinstance" = none := He.free_ok X G (c.fact 21 (f := .free "isinstance") rfl)
  have m_len : mg "len" = none := He.free_ok X G (c.fact 22 (f := .free "len") rfl)
  have m_list : mg "list" = none := He.free_ok X G (c.fact 23 (f := .free "list") rfl)
  have m_range : mg "range" = none := He.free_ok X G (c.fact 24 (f := .free "range") rfl)
  have m_repr : mg "repr" = none := He.free_ok X G (c.fact 25 (f := .free "repr") rfl)
  have m_sorted : mg "sorted" = none := He.free_ok X G (c.fact 26 (f := .free "sorted") rfl)
  have m_str : mg "str" = none := He.free_ok X G (c.fact 27 (f := .free "str") rfl)
  have m_sum : mg "sum" = none := He.free_ok X G (c.fact 28 (f := .free "sum") rfl)
  have m_tuple : mg "tuple" = none := He.free_ok X G (c.fact 29 (f := .free "tuple") rfl)
  have G_STEPS : Gc K mg "STEPS" (RV K (RT K (RC RI (R1 RI)))) c_STEPS := gc_of (ck_V (ck_T (ck_cons ck_I (ck_one ck_I)))) X G (ex_at ex 0 rfl)
  have i_gcd : mg "gcd" = some (.builtin "math.gcd") := blt_of X G (ex_at ex 1 rfl)
  obtain ⟨fd__law_draw, F__law_draw⟩ := c.def_ 0 (d := d__law_draw) rfl
  have b__law_draw : Binds K fd__law_draw ["box", "many"] [] := FunD.bindsN F__law_draw fun _ _ _ _ _ _ us hl => match us, hl with | [_, _], _ => rfl
  have C__law_draw : ∀ base : Heap, Cal P w K mg base "_law_draw" 1 (He.ga K "_law_draw") fd__law_draw ["box", "many"] (sp__law_draw K) := fun base => ⟨ok__law_draw m_int m_len F__law_draw, (He.glo_ok X G (c.fact 0 (f := .glo "_law_draw") rfl)), F__law_draw.kp, b__law_draw⟩
  obtain ⟨fd__law_pick, F__law_pick⟩ := c.def_ 1 (d := d__law_pick) rfl
  have b__law_pick : Binds K fd__law_pick ["box", "row"] [] := FunD.bindsN F__law_pick fun _ _ _ _ _ _ us hl => match us, hl with | [_, _], _ => rfl
  have C__law_pick : ∀ base : Heap, Cal P w K mg base "_law_pick" 2 (He.ga K "_law_pick") fd__law_pick ["box", "row"] (sp__law_pick K) := fun base => ⟨ok__law_pick m_int m_len (C__law_draw base) F__law_pick, (He.glo_ok X G (c.fact 1 (f := .glo "_law_pick") rfl)), F__law_pick.kp, b__law_pick⟩
  obtain ⟨fd__law_lot, F__law_lot⟩ := c.def_ 2 (d := d__law_lot) rfl
  have b__law_lot : Binds K fd__law_lot ["box"] [] := FunD.bindsN F__law_lot fun _ _ _ _ _ _ us hl => match us, hl with | [_], _ => rfl
  have C__law_lot : ∀ base : Heap, Cal P w K mg base "_law_lot" 3 (He.ga K "_law_lot") fd__law_lot ["box"] (sp__law_lot K) := fun base => ⟨ok__law_lot m_range (C__law_pick base) (C__law_draw base) F__law_lot, (He.glo_ok X G (c.fact 2 (f := .glo "_law_lot") rfl)), F__law_lot.kp, b__law_lot⟩
  obtain ⟨fd_moved, F_moved⟩ := c.def_ 3 (d := d_moved) rfl
  have b_moved : Binds K fd_moved ["place", "way", "many"] [] := FunD.bindsN F_moved fun _ _ _ _ _ _ us hl => match us, hl with | [_, _, _], _ => rfl
  have C_moved : ∀ base : Heap, Cal P w K mg base "moved" 1 (He.ga K "moved") fd_moved ["place", "way", "many"] (sp_moved K) := fun base => ⟨ok_moved G_STEPS F_moved, (He.glo_ok X G (c.fact 3 (f := .glo "moved") rfl)), F_moved.kp, b_moved⟩
  obtain ⟨fd_beside, F_beside⟩ := c.def_ 4 (d := d_beside) rfl
  have b_beside : Binds K fd_beside ["place"] [] := FunD.bindsN F_beside fun _ _ _ _ _ _ us hl => match us, hl with | [_], _ => rfl
  have C_beside : ∀ base : Heap, Cal P w K mg base "beside" 2 (He.ga K "beside") fd_beside ["place"] (sp_beside K) := fun base => ⟨ok_beside m_range (C_moved base) F_beside, (He.glo_ok X G (c.fact 4 (f := .glo "beside") rfl)), F_beside.kp, b_beside⟩
  obtain ⟨fd_pieces, F_pieces⟩ := c.def_ 5 (d := d_pieces) rfl
  have b_pieces : Binds K fd_pieces ["places"] [] := FunD.bindsN F_pieces fun _ _ _ _ _ _ us hl => match us, hl with | [_], _ => rfl
  have C_pieces : ∀ base : Heap, Cal P w K mg base "pieces" 3 (He.ga K "pieces") fd_pieces ["places"] (sp_pieces K) := fun base => ⟨ok_pieces m_len m_sorted (C_beside base) F_pieces, (He.glo_ok X G (c.fact 5 (f := .glo "pieces") rfl)), F_pieces.kp, b_pieces⟩
  obtain ⟨fd__law_cell, F__law_cell⟩ := c.def_ 6 (d := d__law_cell) rfl
  have b__law_cell : Binds K fd__law_cell ["script", "k"] [] := FunD.bindsN F__law_cell fun _ _ _ _ _ _ us hl => match us, hl with | [_, _], _ => rfl
  have C__law_cell : ∀ base : Heap, Cal P w K mg base "_law_cell" 1 (He.ga K "_law_cell") fd__law_cell ["script", "k"] (sp__law_cell K) := fun base => ⟨ok__law_cell m_len F__law_cell, (He.glo_ok X G (c.fact 6 (f := .glo "_law_cell") rfl)), F__law_cell.kp, b__law_cell⟩
  obtain ⟨fd__law_digits, F__law_digits⟩ := c.def_ 7 (d := d__law_digits) rfl
  have b__law_digits : Binds K fd__law_digits ["script", "first", "last"] [] := FunD.bindsN F__law_digits fun _ _ _ _ _ _ us hl => match us, hl with | [_, _, _], _ => rfl
  have C__law_digits : ∀ base : Heap, Cal P w K mg base "_law_digits" 2 (He.ga K "_law_digits") fd__law_digits ["script", "first", "last"] (sp__law_digits K) := fun base => ⟨ok__law_digits m_int m_range (C__law_cell base) F__law_digits, (He.glo_ok X G (c.fact 7 (f := .glo "_law_digits") rfl)), F__law_digits.kp, b__law_digits⟩
  obtain ⟨fd__law_same, F__law_same⟩ := c.def_ 8 (d := d__law_same) rfl
  have b__law_same : Binds K fd__law_same ["told", "due"] [] := FunD.bindsN F__law_same fun _ _ _ _ _ _ us hl => match us, hl with | [_, _], _ => rfl
  have C__law_same : ∀ base : Heap, Cal P w K mg base "_law_same" 6 (He.ga K "_law_same") fd__law_same ["told", "due"] (sp_same 5 K) := fun base => ⟨ok__law_same m_isinstance m_str m_repr m_int m_bool m_tuple m_list m_len m_range F__law_same (He.glo_ok X G (c.fact 8 (f := .glo "_law_same") rfl)) F__law_same.kp b__law_same 5, (He.glo_ok X G (c.fact 8 (f := .glo "_law_same") rfl)), F__law_same.kp, b__law_same⟩
  obtain ⟨fd__law_low, F__law_low⟩ := c.def_ 9 (d := d__law_low) rfl
  have b__law_low : Binds K fd__law_low ["top", "bottom"] [] := FunD.bindsN F__law_low fun _ _ _ _ _ _ us hl => match us, hl with | [_, _], _ => rfl
  have C__law_low : ∀ base : Heap, Cal P w K mg base "_law_low" 1 (He.ga K "_law_low") fd__law_low ["top", "bottom"] (sp__law_low K) := fun base => ⟨ok__law_low m_abs m_int m_range F__law_low, (He.glo_ok X G (c.fact 9 (f := .glo "_law_low") rfl)), F__law_low.kp, b__law_low⟩
  obtain ⟨fd__law_near, F__law_near⟩ := c.def_ 10 (d := d__law_near) rfl
  have b__law_near : Binds K fd__law_near ["spot"] [] := FunD.bindsN F__law_near fun _ _ _ _ _ _ us hl => match us, hl with | [_], _ => rfl
  have C__law_near : ∀ base : Heap, Cal P w K mg base "_law_near" 1 (He.ga K "_law_near") fd__law_near ["spot"] (sp__law_near K) := fun base => ⟨ok__law_near  F__law_near, (He.glo_ok X G (c.fact 10 (f := .glo "_law_near") rfl)), F__law_near.kp, b__law_near⟩
  obtain ⟨fd__law_steps, F__law_steps⟩ := c.def_ 11 (d := d__law_steps) rfl
  have b__law_steps : Binds K fd__law_steps ["lot", "start"] [] := FunD.bindsN F__law_steps fun _ _ _ _ _ _ us hl => match us, hl with | [_, _], _ => rfl
  have C__law_steps : ∀ base : Heap, Cal P w K mg base "_law_steps" 2 (He.ga K "_law_steps") fd__law_steps ["lot", "start"] (sp__law_steps K) := fun base => ⟨ok__law_steps m_len m_range (C__law_near base) F__law_steps, (He.glo_ok X G (c.fact 11 (f := .glo "_law_steps") rfl)), F__law_steps.kp, b__law_steps⟩
  obtain ⟨fd_outline, F_outline⟩ := c.def_ 12 (d := d_outline) rfl
  have b_outline : Binds K fd_outline ["places"] [] := FunD.bindsN F_outline fun _ _ _ _ _ _ us hl => match us, hl with | [_], _ => rfl
  have C_outline : ∀ base : Heap, Cal P w K mg base "outline" 3 (He.ga K "outline") fd_outline ["places"] (sp_outline K) := fun base => ⟨ok_outline m_len m_sum (C_beside base) F_outline, (He.glo_ok X G (c.fact 12 (f := .glo "outline") rfl)), F_outline.kp, b_outline⟩
  obtain ⟨fd_fraction, F_fraction⟩ := c.def_ 13 (d := d_fraction) rfl
  have b_fraction : Binds K fd_fraction ["top", "bottom"] [] := FunD.bindsN F_fraction fun _ _ _ _ _ _ us hl => match us, hl with | [_, _], _ => rfl
  have C_fraction : ∀ base : Heap, Cal P w K mg base "fraction" 1 (He.ga K "fraction") fd_fraction ["top", "bottom"] (sp_fraction K) := fun base => ⟨ok_fraction i_gcd F_fraction, (He.glo_ok X G (c.fact 13 (f := .glo "fraction") rfl)), F_fraction.kp, b_fraction⟩
  obtain ⟨fd_middle, F_middle⟩ := c.def_ 14 (d := d_middle) rfl
  have b_middle : Binds K fd_middle ["places"] [] := FunD.bindsN F_middle fun _ _ _ _ _ _ us hl => match us, hl with | [_], _ => rfl
  have C_middle : ∀ base : Heap, Cal P w K mg base "middle" 2 (He.ga K "middle") fd_middle ["places"] (sp_middle K) := fun base => ⟨ok_middle m_len m_sum (C_fraction base) F_middle, (He.glo_ok X G (c.fact 14 (f := .glo "middle") rfl)), F_middle.kp, b_middle⟩
  obtain ⟨fd__law_mixed, F__law_mixed⟩ := c.def_ 15 (d := d__law_mixed) rfl
  have b__law_mixed : Binds K fd__law_mixed ["box", "row"] [] := FunD.bindsN F__law_mixed fun _ _ _ _ _ _ us hl => match us, hl with | [_, _], _ => rfl
  have C__law_mixed : ∀ base : Heap, Cal P w K mg base "_law_mixed" 2 (He.ga K "_law_mixed") fd__law_mixed ["box", "row"] (sp__law_mixed K) := fun base => ⟨ok__law_mixed m_int m_len m_list m_range (C__law_draw base) F__law_mixed, (He.glo_ok X G (c.fact 15 (f := .glo "_law_mixed") rfl)), F__law_mixed.kp, b__law_mixed⟩
  obtain ⟨fd_fewest_steps, F_fewest_steps⟩ := c.def_ 16 (d := d_fewest_steps) rfl
  have b_fewest_steps : Binds K fd_fewest_steps ["places", "start", "goal"] [] := FunD.bindsN F_fewest_steps fun _ _ _ _ _ _ us hl => match us, hl with | [_, _, _], _ => rfl
  have C_fewest_steps : ∀ base : Heap, Cal P w K mg base "fewest_steps" 3 (He.ga K "fewest_steps") fd_fewest_steps ["places", "start", "goal"] (sp_fewest_steps K) := fun base => ⟨ok_fewest_steps m_len (C_beside base) F_fewest_steps, (He.glo_ok X G (c.fact 16 (f := .glo "fewest_steps") rfl)), F_fewest_steps.kp, b_fewest_steps⟩
  obtain ⟨fd_law, F_law⟩ := c.def_ 17 (d := d_law) rfl
  have e := hfa.symm.trans (He.glo_ok X G (c.fact 17 (f := .glo "law") rfl))
  cases e
  have b := FunD.bindsA (ps := ["script"]) F_law fun _ _ _ _ _ _ us hl => match us, hl with | [_], _ => rfl
  exact ⟨fd_law, fun s v => b s [v] rfl, fun base _ _ => ok_law m_len m_list m_range m_sorted m_sum (C__law_digits base) (C__law_lot base) (C__law_steps base) (C_pieces base) (C__law_same base) (C__law_mixed base) (C__law_near base) (C_outline base) (C__law_low base) (C_middle base) (C__law_pick base) (C_fewest_steps base) F_law⟩
end Lw
open PySem PySem.W PySem.Calls PyProof.Rows
theorem PySem.Challenge.cw_maplands_k54_whole_lots_that_hang_togeth_holds : PySem.Challenge.rw_maplands_k54_whole_lots_that_hang_togeth.Holds := by
  w_on; o_law
  refine HeadI.head_anyI (r := OpenLaw.row PySem.Challenge.rw_maplands_k54_whole_lots_that_hang_togeth) (q := view (OpenLaw.row PySem.Challenge.rw_maplands_k54_whole_lots_that_hang_togeth).prog [22]) (H := Lw.hk) (ob := Lw.ob) (M0 := 1500) (M := 1320) (loose := Lw.names) (d := HandSHeadRun.topDef (OpenLaw.row PySem.Challenge.rw_maplands_k54_whole_lots_that_hang_togeth).prog 22) (kwd := []) Lw.ob_eq
    Lw.run (by kernel_rfl) (by kernel_rfl) (by kernel_rfl) (by rfl) (by first | assumption | decide +kernel) (by decide +kernel) ⟨rfl, rfl, rfl, rfl, rfl, by decide +kernel⟩ ?hw ?hc
  case hw => w_witness2
  case hc =>
    refine L2.walk_ofE (l := PySem.Challenge.rw_maplands_k54_whole_lots_that_hang_togeth) (n := 63) (k := 7) (x := "script") (CX := L2.CX0) rfl (by decide) (by kernel_rfl) ⟨rfl, by decide, by decide⟩ ?F (fun _ _ _ _ z => z)
    intro w mg fa h Y G hmg0
    obtain ⟨K, KX, c, ex⟩ := Y
    have hmg : mg ("law" : PySem.Str) = some (.ref fa) := by
      have e : (HandSHeadRun.topDef (OpenLaw.row PySem.Challenge.rw_maplands_k54_whole_lots_that_hang_togeth).prog 22).name = ("law" : PySem.Str) := by kernel_rfl
      rw [← e]
      exact hmg0
    obtain ⟨fd, hb, hF⟩ := Lw.facts (P := (PySem.Challenge.rw_maplands_k54_whole_lots_that_hang_togeth).prog) (w := w) KX G hmg c ex
    exact ⟨K, fd, Lw.sp_law K, KX, hb, fun H a ns hl _ hS => (Mz.law_in [] hS (fun _ h => nomatch h)).elim fun F S => ⟨ns, true, _, F, Lw.law_ok ns hl, S, fun v H' h => Mz.law_out h⟩, hF⟩

