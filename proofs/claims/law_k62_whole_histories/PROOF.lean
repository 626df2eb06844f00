import PyProof.Rows.All
import Wide.All
import OpenK.AllK
import Wide.FinOn
import KE.KStateDown
import KE.KExcSuper
import KE.GoesMore
import PyProof.EnumMake
import PyProof.Draws
import HandS.ForMost
import HandS.More
import HandS.Exc
import HandS.WordsExc
import HandS.ExcInit
import HandS.ExcField
import HandS.TryMany
import HandS.FStr
import HandS.StrMore
import HandS.Conv
import HandS.DictComp
import HandS.Flow
import HandS.Walk
import HandS.Defaults
import HandS.AnyAll
import HandS.JoinGen
import HandS.Head0
import HandS.Head1
import HandS.Head2
import HandS.HeadEnd
import HandS.HeadHook1
import HandS.HeadHook2
import HandS.HeadHook3
import HandS.HeadHook4
import HandS.EndTab
import HandS.HeadWalk
import PySem.Challenge.RW_weft_k62_whole_histories
set_option Elab.async false
set_option linter.all false
set_option maxRecDepth 100000
set_option maxHeartbeats 0
/-! The mathematics of the history law, in plain Lean: the program's lists and the law's replay. -/
namespace Wf
inductive Chg (τ : Type) where
  | keep | drop | text (t : τ)
inductive Kd where
  | prose | head | code
  deriving DecidableEq, Inhabited
structure Line (τ : Type) where
  kd : Kd
  tx : τ
structure Fate (τ : Type) where
  chg : Chg τ
  behind : List τ
inductive Nm where
  | start (k : Nat)
  | put (n : Nat) (of : Nm) (k : Nat)
  deriving DecidableEq, Inhabited
def Nm.num : Nm → Nat
  | .start _ => 0
  | .put n _ _ => n
def Kd.behind : Kd → Kd
  | .prose => .prose
  | _ => .code
/-- a row of the law -/
structure Row (τ : Type) where
  nm : Nm
  up : Bool
  line : Line τ
  from_ : Nat
/-- a kept line of the program; nm is ours alone -/
structure Kp (τ : Type) where
  born : Nat
  line : Line τ
  texts : List (Nat × τ)
  dropped : List Nat
  nm : Nm
instance {τ : Type} [Inhabited τ] : Inhabited (Line τ) := ⟨⟨default, default⟩⟩
instance {τ : Type} [Inhabited τ] : Inhabited (Kp τ) := ⟨⟨0, default, [], [], default⟩⟩
structure Ev (τ : Type) where
  author : τ
  stands : Bool
  fates : List (Nat × Fate τ)
/-- the program's lists -/
structure B (τ : Type) where
  kept : List (Kp τ)
  order : List Nat
section
variable {τ : Type}

/-! ### the law's side -/
def Row.turn (n : Nat) (c : Chg τ) (r : Row τ) : Row τ := match c with
  | .keep => r
  | .drop => { r with up := false }
  | .text t => { r with up := true, line := ⟨r.line.kd, t⟩, from_ := n }
def newRows (n : Nat) (of : Nm) (kd : Kd) : Nat → List τ → List (Row τ)
  | _, [] => []
  | k, t :: ts => ⟨.put n of k, true, ⟨kd, t⟩, n⟩ :: newRows n of kd (k + 1) ts
def applyFate (n : Nat) (nm : Nm) (f : Fate τ) : List (Row τ) → List (Row τ)
  | [] => []
  | r :: rs => if r.nm = nm then r.turn n f.chg :: (newRows n nm r.line.kd.behind 0 f.behind ++ rs) else r :: applyFate n nm f rs
def applyNamed (n : Nat) (l : List (Nm × Fate τ)) (rows : List (Row τ)) : List (Row τ) := l.foldl (fun rs p => applyFate n p.1 p.2 rs) rows
/-- a change as the law keeps it -/
structure LCh (τ : Type) where
  num : Nat
  author : τ
  stands : Bool
  named : List (Nm × Fate τ)
def startRows (doc : List (Line τ)) : List (Row τ) := doc.zipIdx.map fun p => ⟨.start p.2, true, p.1, 0⟩
def replayFrom (rows : List (Row τ)) (cs : List (LCh τ)) : List (Row τ) := cs.foldl (fun rs c => if c.stands then applyNamed c.num c.named rs else rs) rows

/-! ### the program's side -/
def Kp.note (n : Nat) (c : Chg τ) (k : Kp τ) : Kp τ := match c with
  | .keep => k
  | .drop => { k with dropped := k.dropped ++ [n] }
  | .text t => { k with texts := k.texts ++ [(n, t)] }
def newKept (n : Nat) (of : Nm) (kd : Kd) : Nat → List τ → List (Kp τ)
  | _, [] => []
  | k, t :: ts => ⟨n, ⟨kd, t⟩, [], [], .put n of k⟩ :: newKept n of kd (k + 1) ts
def insAfter (w : Nat) (blk : List Nat) : List Nat → List Nat
  | [] => []
  | i :: r => if i = w then i :: (blk ++ r) else i :: insAfter w blk r
variable [Inhabited τ]
def B.at (b : B τ) (i : Nat) : Kp τ := b.kept.getD i default
def B.noted (b : B τ) (n i : Nat) (c : Chg τ) : List (Kp τ) := b.kept.modify i (Kp.note n c)
def addFate (n i : Nat) (f : Fate τ) (b : B τ) : B τ :=
  { kept := b.noted n i f.chg ++ newKept n (b.at i).nm (b.at i).line.kd.behind 0 f.behind
    order := insAfter i (List.range' b.kept.length f.behind.length) b.order }
def addAll (n : Nat) (l : List (Nat × Fate τ)) (b : B τ) : B τ := l.foldl (fun b p => addFate n p.1 p.2 b) b
def buildFrom (n : Nat) (b : B τ) : List (Ev τ) → B τ
  | [] => b
  | e :: es => buildFrom (n + 1) (addAll n e.fates b) es
def init (doc : List (Line τ)) : B τ := { kept := doc.zipIdx.map fun p => ⟨0, p.1, [], [], .start p.2⟩, order := List.range doc.length }
def build (doc : List (Line τ)) (es : List (Ev τ)) : B τ := buildFrom 1 (init doc) es
/-- a number stands -/
def stands (es : List (Ev τ)) (n : Nat) : Bool := n == 0 || ((es[n - 1]?).map (·.stands)).getD false

def lastText (st : Nat → Bool) (k : Kp τ) : Option (Nat × τ) := k.texts.reverse.find? fun p => st p.1
def isUp (st : Nat → Bool) (k : Kp τ) : Bool := !(k.dropped.any st)
def shownLine (st : Nat → Bool) (k : Kp τ) : Line τ := match lastText st k with
  | none => k.line
  | some p => ⟨k.line.kd, p.2⟩
def givenBy (st : Nat → Bool) (k : Kp τ) : Nat := match lastText st k with
  | none => k.born
  | some p => p.1
def rowOf (st : Nat → Bool) (k : Kp τ) : Row τ := ⟨k.nm, isUp st k, shownLine st k, givenBy st k⟩
def rows (st : Nat → Bool) (b : B τ) : List (Row τ) := (b.order.filter fun i => st (b.at i).born).map fun i => rowOf st (b.at i)
def isThere (st : Nat → Bool) (k : Kp τ) : Bool := st k.born && isUp st k
def present (st : Nat → Bool) (b : B τ) : List Nat := b.order.filter fun i => isThere st (b.at i)

/-! ### look-ups -/
theorem newKept_len (n : Nat) (of : Nm) (kd : Kd) : ∀ (k : Nat) (ts : List τ), (newKept n of kd k ts).length = ts.length
  | _, [] => rfl
  | k, t :: ts => by rw [newKept, List.length_cons, List.length_cons, newKept_len]
theorem newKept_get (n : Nat) (of : Nm) (kd : Kd) : ∀ (k : Nat) (ts : List τ) (j : Nat), (newKept n of kd k ts)[j]? = (ts[j]?).map fun t => ⟨n, ⟨kd, t⟩, [], [], .put n of (k + j)⟩
  | _, [], _ => by simp [newKept]
  | k, t :: ts, 0 => by simp [newKept]
  | k, t :: ts, j + 1 => by
    rw [newKept, List.getElem?_cons_succ, List.getElem?_cons_succ, newKept_get]
    congr 1; funext t; congr 2; omega
theorem addFate_len (n i : Nat) (f : Fate τ) (b : B τ) : (addFate n i f b).kept.length = b.kept.length + f.behind.length := by
  simp [addFate, B.noted, newKept_len]
theorem note_nm (n : Nat) (c : Chg τ) (k : Kp τ) : (k.note n c).nm = k.nm ∧ (k.note n c).born = k.born ∧ (k.note n c).line = k.line := by
  cases c <;> exact ⟨rfl, rfl, rfl⟩
theorem addFate_at_old {n i : Nat} {f : Fate τ} {b : B τ} {j : Nat} (hj : j < b.kept.length) : (addFate n i f b).at j = if i = j then (b.at j).note n f.chg else b.at j := by
  have h1 : j < (b.noted n i f.chg).length := by simp [B.noted, hj]
  unfold B.at addFate
  simp only [List.getD_eq_getElem?_getD]
  rw [List.getElem?_append_left h1]
  unfold B.noted
  rw [List.getElem?_modify, List.getElem?_eq_getElem hj]
  by_cases e : i = j <;> simp [e]
theorem addFate_at_new {n i : Nat} {f : Fate τ} {b : B τ} {j : Nat} {t : τ} (hj : f.behind[j]? = some t) :
    (addFate n i f b).at (b.kept.length + j) = ⟨n, ⟨(b.at i).line.kd.behind, t⟩, [], [], .put n (b.at i).nm j⟩ := by
  unfold B.at addFate
  simp only [List.getD_eq_getElem?_getD]
  rw [List.getElem?_append_right (by simp [B.noted])]
  have e : b.kept.length + j - (b.noted n i f.chg).length = j := by simp [B.noted]
  rw [e, newKept_get, hj]
  simp [B.at]

/-! ### the order -/
theorem insAfter_mem {w : Nat} {blk : List Nat} : ∀ {o : List Nat}, w ∈ o → ∀ x, x ∈ insAfter w blk o ↔ x ∈ o ∨ x ∈ blk
  | [], h, _ => by simp at h
  | i :: r, h, x => by
    unfold insAfter
    by_cases e : i = w
    · rw [if_pos e]
      simp only [List.mem_cons, List.mem_append]
      constructor
      · rintro (h | h | h)
        · exact .inl (.inl h)
        · exact .inr h
        · exact .inl (.inr h)
      · rintro ((h | h) | h)
        · exact .inl h
        · exact .inr (.inr h)
        · exact .inr (.inl h)
    · rw [if_neg e]
      have h' : w ∈ r := by
        rcases List.mem_cons.mp h with q | q
        · exact absurd q.symm e
        · exact q
      simp only [List.mem_cons, insAfter_mem h' x, or_assoc]
theorem insAfter_nodup {w : Nat} {blk : List Nat} (hb : blk.Nodup) : ∀ {o : List Nat}, o.Nodup → (∀ x ∈ blk, ¬ x ∈ o) → w ∈ o → (insAfter w blk o).Nodup
  | [], _, _, h => by simp at h
  | i :: r, ho, hd, h => by
    obtain ⟨h1, h2⟩ := List.nodup_cons.mp ho
    unfold insAfter
    by_cases e : i = w
    · rw [if_pos e]
      refine List.nodup_cons.mpr ⟨fun m => ?_, List.nodup_append.mpr ⟨hb, h2, fun a ha c hc e => hd a ha (by rw [e]; exact List.mem_cons_of_mem _ hc)⟩⟩
      rcases List.mem_append.mp m with q | q
      · exact hd i q List.mem_cons_self
      · exact h1 q
    · rw [if_neg e]
      have h' : w ∈ r := by
        rcases List.mem_cons.mp h with q | q
        · exact absurd q.symm e
        · exact q
      refine List.nodup_cons.mpr ⟨fun m => ?_, insAfter_nodup hb h2 (fun x hx q => hd x hx (List.mem_cons_of_mem _ q)) h'⟩
      rcases (insAfter_mem h' i).mp m with q | q
      · exact h1 q
      · exact hd i q List.mem_cons_self

/-- the lists are in form; numbers below N -/
structure Good (N : Nat) (b : B τ) : Prop where
  nd : b.order.Nodup
  mem : ∀ i, i ∈ b.order ↔ i < b.kept.length
  inj : ∀ i j, i < b.kept.length → j < b.kept.length → (b.at i).nm = (b.at j).nm → i = j
  num : ∀ i, i < b.kept.length → (b.at i).nm.num = (b.at i).born
  low : ∀ i, i < b.kept.length → (b.at i).born < N
  lowT : ∀ i, i < b.kept.length → ∀ p ∈ (b.at i).texts, p.1 < N
  lowD : ∀ i, i < b.kept.length → ∀ d ∈ (b.at i).dropped, d < N
theorem range'_mem {s n x : Nat} : x ∈ List.range' s n ↔ s ≤ x ∧ x < s + n := by
  simp [List.mem_range'_1]
theorem addFate_good {N n i : Nat} {f : Fate τ} {b : B τ} (G : Good N b) (hn : n < N) (hi : i < b.kept.length) (hno : ∀ j, j < b.kept.length → ∀ k, (b.at j).nm ≠ .put n (b.at i).nm k) : Good N (addFate n i f b) := by
  have hlen := addFate_len n i f b
  have old : ∀ j, j < b.kept.length → ((addFate n i f b).at j).nm = (b.at j).nm ∧ ((addFate n i f b).at j).born = (b.at j).born ∧ (∀ p ∈ ((addFate n i f b).at j).texts, p.1 < N) ∧ (∀ d ∈ ((addFate n i f b).at j).dropped, d < N) := by
    intro j hj
    rw [addFate_at_old hj]
    by_cases e : i = j
    · rw [if_pos e]
      refine ⟨(note_nm n f.chg _).1, (note_nm n f.chg _).2.1, fun p hp => ?_, fun d hd => ?_⟩
      · cases hc : f.chg with
        | keep => rw [hc] at hp; exact G.lowT j hj p hp
        | drop => rw [hc] at hp; exact G.lowT j hj p hp
        | text t =>
          rw [hc] at hp
          rcases List.mem_append.mp hp with q | q
          · exact G.lowT j hj p q
          · have : p = (n, t) := by simpa using q
            rw [this]; exact hn
      · cases hc : f.chg with
        | keep => rw [hc] at hd; exact G.lowD j hj d hd
        | text t => rw [hc] at hd; exact G.lowD j hj d hd
        | drop =>
          rw [hc] at hd
          rcases List.mem_append.mp hd with q | q
          · exact G.lowD j hj d q
          · have : d = n := by simpa using q
            rw [this]; exact hn
    · rw [if_neg e]
      exact ⟨rfl, rfl, G.lowT j hj, G.lowD j hj⟩
  have new : ∀ j, b.kept.length ≤ j → j < b.kept.length + f.behind.length → ∃ k t, j = b.kept.length + k ∧ (addFate n i f b).at j = ⟨n, ⟨(b.at i).line.kd.behind, t⟩, [], [], .put n (b.at i).nm k⟩ := by
    intro j h1 h2
    obtain ⟨k, rfl⟩ : ∃ k, j = b.kept.length + k := ⟨j - b.kept.length, by omega⟩
    have hk : k < f.behind.length := by omega
    exact ⟨k, f.behind[k], rfl, addFate_at_new (List.getElem?_eq_getElem hk)⟩
  have cases_ : ∀ j, j < (addFate n i f b).kept.length → j < b.kept.length ∨ (b.kept.length ≤ j ∧ j < b.kept.length + f.behind.length) := by
    intro j hj; omega
  refine ⟨?_, fun j => ?_, fun j k hj hk e => ?_, fun j hj => ?_, fun j hj => ?_, fun j hj => ?_, fun j hj => ?_⟩
  · exact insAfter_nodup List.nodup_range' G.nd (fun x hx m => by have := range'_mem.mp hx; have := (G.mem x).mp m; omega) ((G.mem i).mpr hi)
  · show j ∈ insAfter _ _ _ ↔ _
    rw [insAfter_mem ((G.mem i).mpr hi), G.mem, range'_mem, hlen]; omega
  · rcases cases_ j hj with h1 | h1 <;> rcases cases_ k hk with h2 | h2
    · rw [(old j h1).1, (old k h2).1] at e
      exact G.inj j k h1 h2 e
    · obtain ⟨q, t, e1, e2⟩ := new k h2.1 h2.2
      rw [(old j h1).1, e2] at e
      exact (hno j h1 q e).elim
    · obtain ⟨q, t, e1, e2⟩ := new j h1.1 h1.2
      rw [(old k h2).1, e2] at e
      exact (hno k h2 q e.symm).elim
    · obtain ⟨q, t, e1, e2⟩ := new j h1.1 h1.2
      obtain ⟨q', t', e1', e2'⟩ := new k h2.1 h2.2
      rw [e2, e2'] at e
      injection e with _ _ e3
      omega
  · rcases cases_ j hj with h1 | h1
    · rw [(old j h1).1, (old j h1).2.1]; exact G.num j h1
    · obtain ⟨q, t, e1, e2⟩ := new j h1.1 h1.2
      rw [e2]; rfl
  · rcases cases_ j hj with h1 | h1
    · rw [(old j h1).2.1]; exact G.low j h1
    · obtain ⟨q, t, e1, e2⟩ := new j h1.1 h1.2
      rw [e2]; exact hn
  · rcases cases_ j hj with h1 | h1
    · exact (old j h1).2.2.1
    · obtain ⟨q, t, e1, e2⟩ := new j h1.1 h1.2
      rw [e2]; intro p hp; simp at hp
  · rcases cases_ j hj with h1 | h1
    · exact (old j h1).2.2.2
    · obtain ⟨q, t, e1, e2⟩ := new j h1.1 h1.2
      rw [e2]; intro p hp; simp at hp

/-! ### one fate on both sides -/
theorem newRows_eq (st : Nat → Bool) (n : Nat) (of : Nm) (kd : Kd) (hn : st n = true) (at_ : Nat → Kp τ) : ∀ (ts : List τ) (k s : Nat), (∀ j t, ts[j]? = some t → at_ (s + j) = ⟨n, ⟨kd, t⟩, [], [], .put n of (k + j)⟩) →
    ((List.range' s ts.length).filter fun i => st (at_ i).born) = List.range' s ts.length ∧ (List.range' s ts.length).map (fun i => rowOf st (at_ i)) = newRows n of kd k ts
  | [], _, _, _ => ⟨rfl, rfl⟩
  | t :: ts, k, s, h => by
    have h0 := h 0 t (by simp)
    have ih := newRows_eq st n of kd hn at_ ts (k + 1) (s + 1) (fun j u hj => by
      have := h (j + 1) u (by simpa using hj)
      rw [show s + 1 + j = s + (j + 1) by omega, this, show k + 1 + j = k + (j + 1) by omega])
    rw [List.length_cons, List.range'_succ]
    simp only [Nat.add_zero] at h0
    refine ⟨?_, ?_⟩
    · rw [List.filter_cons, if_pos (by rw [h0]; exact hn), ih.1]
    · rw [List.map_cons, newRows, ih.2, h0]
      rfl
theorem newKept_none (st : Nat → Bool) (n : Nat) (hn : st n = false) (at_ : Nat → Kp τ) : ∀ (m s : Nat), (∀ j, j < m → (at_ (s + j)).born = n) → ((List.range' s m).filter fun i => st (at_ i).born) = []
  | 0, _, _ => rfl
  | m + 1, s, h => by
    rw [List.range'_succ, List.filter_cons, if_neg (by have := h 0 (by omega); simp only [Nat.add_zero] at this; rw [this, hn]; simp)]
    exact newKept_none st n hn at_ m (s + 1) fun j hj => by
      have := h (j + 1) (by omega)
      rw [← this]; congr 2; omega

theorem rowOf_nm (st : Nat → Bool) (k : Kp τ) : (rowOf st k).nm = k.nm := rfl
theorem lastText_snoc (st : Nat → Bool) (k : Kp τ) (n : Nat) (t : τ) : lastText st { k with texts := k.texts ++ [(n, t)] } = if st n = true then some (n, t) else lastText st k := by
  unfold lastText
  simp only [List.reverse_append, List.reverse_cons, List.reverse_nil, List.nil_append, List.singleton_append, List.find?_cons]
  cases st n <;> rfl
theorem rowOf_note (st : Nat → Bool) (n : Nat) (hn : st n = true) (c : Chg τ) (k : Kp τ) (hu : (∃ t, c = .text t) → isUp st k = true) : rowOf st (k.note n c) = (rowOf st k).turn n c := by
  cases c with
  | keep => rfl
  | drop =>
    show Row.mk _ _ _ _ = Row.mk _ _ _ _
    congr 1
    show (!((k.dropped ++ [n]).any st)) = false
    simp [List.any_append, hn]
  | text t =>
    have u := hu ⟨t, rfl⟩
    have e := lastText_snoc st k n t
    rw [if_pos hn] at e
    show Row.mk k.nm (isUp st k) (shownLine st { k with texts := k.texts ++ [(n, t)] }) (givenBy st { k with texts := k.texts ++ [(n, t)] }) = Row.mk k.nm true ⟨(shownLine st k).kd, t⟩ n
    rw [u]
    unfold shownLine givenBy
    rw [e]
    congr 2
    cases lastText st k <;> rfl
theorem rowOf_note_off (st : Nat → Bool) (n : Nat) (hn : st n = false) (c : Chg τ) (k : Kp τ) : rowOf st (k.note n c) = rowOf st k := by
  cases c with
  | keep => rfl
  | drop =>
    show Row.mk _ _ _ _ = Row.mk _ _ _ _
    congr 1
    show (!((k.dropped ++ [n]).any st)) = !(k.dropped.any st)
    simp [List.any_append, hn]
  | text t =>
    have e := lastText_snoc st k n t
    rw [if_neg (by rw [hn]; simp)] at e
    show Row.mk k.nm (isUp st k) (shownLine st { k with texts := k.texts ++ [(n, t)] }) (givenBy st { k with texts := k.texts ++ [(n, t)] }) = Row.mk k.nm (isUp st k) (shownLine st k) (givenBy st k)
    unfold shownLine givenBy
    rw [e]
theorem turn_line_kd (n : Nat) (c : Chg τ) (r : Row τ) : (r.turn n c).line.kd = r.line.kd := by cases c <;> rfl
theorem shown_kd (st : Nat → Bool) (k : Kp τ) : (shownLine st k).kd = k.line.kd := by
  unfold shownLine
  cases lastText st k <;> rfl

theorem rows_addFate {N n i : Nat} {f : Fate τ} {b : B τ} (st : Nat → Bool) (G : Good N b) (hi : i < b.kept.length) (hn : st n = true) (hb : st (b.at i).born = true) (hu : isUp st (b.at i) = true) :
    rows st (addFate n i f b) = applyFate n (b.at i).nm f (rows st b) := by
  have blk := newRows_eq st n (b.at i).nm (b.at i).line.kd.behind hn (addFate n i f b).at f.behind 0 b.kept.length (fun j t hj => by rw [addFate_at_new hj, Nat.zero_add])
  have key : ∀ o : List Nat, o.Nodup → (∀ x ∈ o, x < b.kept.length) → i ∈ o →
      ((insAfter i (List.range' b.kept.length f.behind.length) o).filter fun x => st ((addFate n i f b).at x).born).map (fun x => rowOf st ((addFate n i f b).at x)) = applyFate n (b.at i).nm f ((o.filter fun x => st (b.at x).born).map fun x => rowOf st (b.at x)) := by
    intro o
    have same : ∀ r : List Nat, (∀ x ∈ r, x < b.kept.length) → ¬ i ∈ r → ((r.filter fun x => st ((addFate n i f b).at x).born).map fun x => rowOf st ((addFate n i f b).at x)) = (r.filter fun x => st (b.at x).born).map fun x => rowOf st (b.at x) := by
      intro r hr hir
      have h1 : (r.filter fun x => st ((addFate n i f b).at x).born) = r.filter fun x => st (b.at x).born := List.filter_congr fun x hx => by
        rw [addFate_at_old (hr x hx), if_neg (fun e => hir (by rw [e]; exact hx))]
      rw [h1]
      refine List.map_congr_left fun x hx => ?_
      have hx' := (List.mem_filter.mp hx).1
      rw [addFate_at_old (hr x hx'), if_neg (fun e => hir (by rw [e]; exact hx'))]
    induction o with
    | nil => intro _ _ h; simp at h
    | cons x r ih =>
      intro ho hl hm
      obtain ⟨h1, h2⟩ := List.nodup_cons.mp ho
      have hx := hl x List.mem_cons_self
      unfold insAfter
      by_cases e : x = i
      · subst e
        rw [if_pos rfl, List.filter_cons, List.filter_append, blk.1, List.filter_cons]
        rw [addFate_at_old hx, if_pos rfl, (note_nm n f.chg _).2.1, if_pos hb, if_pos hb]
        simp only [List.map_cons, List.map_append]
        rw [blk.2, same r (fun y hy => hl y (List.mem_cons_of_mem _ hy)) h1, addFate_at_old hx, if_pos rfl, rowOf_note st n hn f.chg _ (fun _ => hu)]
        show _ = applyFate _ _ _ (_ :: _)
        rw [applyFate, rowOf_nm, if_pos rfl]
        rw [show (rowOf st (b.at x)).line.kd = (b.at x).line.kd from shown_kd st _]
      · have hi' : i ∈ r := by
          rcases List.mem_cons.mp hm with q | q
          · exact absurd q.symm e
          · exact q
        have ih' := ih h2 (fun y hy => hl y (List.mem_cons_of_mem _ hy)) hi'
        have ex : (addFate n i f b).at x = b.at x := by rw [addFate_at_old hx, if_neg (fun q => e q.symm)]
        rw [if_neg e, List.filter_cons, List.filter_cons, ex]
        by_cases hs : st (b.at x).born = true
        · rw [if_pos hs, if_pos hs]
          simp only [List.map_cons]
          rw [ih', ex]
          show _ = applyFate _ _ _ (_ :: _)
          rw [applyFate, rowOf_nm, if_neg (fun q => e (G.inj x i hx hi q))]
        · rw [if_neg hs, if_neg hs]
          exact ih'
  exact key b.order G.nd (fun x hx => (G.mem x).mp hx) ((G.mem i).mpr hi)
theorem rows_addFate_off {N n i : Nat} {f : Fate τ} {b : B τ} (st : Nat → Bool) (G : Good N b) (hi : i < b.kept.length) (hn : st n = false) : rows st (addFate n i f b) = rows st b := by
  have blk := newKept_none st n hn (addFate n i f b).at f.behind.length b.kept.length (fun j hj => by rw [addFate_at_new (List.getElem?_eq_getElem hj)])
  have old : ∀ x, x < b.kept.length → ((addFate n i f b).at x).born = (b.at x).born ∧ rowOf st ((addFate n i f b).at x) = rowOf st (b.at x) := by
    intro x hx
    rw [addFate_at_old hx]
    by_cases e : i = x
    · rw [if_pos e]; exact ⟨(note_nm n f.chg _).2.1, rowOf_note_off st n hn f.chg _⟩
    · rw [if_neg e]; exact ⟨rfl, rfl⟩
  have same : ∀ r : List Nat, (∀ x ∈ r, x < b.kept.length) → ((r.filter fun x => st ((addFate n i f b).at x).born).map fun x => rowOf st ((addFate n i f b).at x)) = (r.filter fun x => st (b.at x).born).map fun x => rowOf st (b.at x) := by
    intro r hr
    have h1 : (r.filter fun x => st ((addFate n i f b).at x).born) = r.filter fun x => st (b.at x).born := List.filter_congr fun x hx => by rw [(old x (hr x hx)).1]
    rw [h1]
    exact List.map_congr_left fun x hx => (old x (hr x (List.mem_filter.mp hx).1)).2
  have key : ∀ o : List Nat, (∀ x ∈ o, x < b.kept.length) →
      ((insAfter i (List.range' b.kept.length f.behind.length) o).filter fun x => st ((addFate n i f b).at x).born) = (o.filter fun x => st ((addFate n i f b).at x).born) := by
    intro o
    induction o with
    | nil => intro _; rfl
    | cons x r ih =>
      intro hl
      unfold insAfter
      by_cases e : x = i
      · rw [if_pos e, List.filter_cons, List.filter_append, blk, List.nil_append, List.filter_cons]
      · rw [if_neg e, List.filter_cons, List.filter_cons, ih fun y hy => hl y (List.mem_cons_of_mem _ hy)]
  have hm : ∀ x ∈ b.order, x < b.kept.length := fun x hx => (G.mem x).mp hx
  show ((insAfter _ _ _).filter _).map _ = _
  rw [key b.order hm, same b.order hm]
  rfl
end
end Wf

/-! The lists when one line after the other is put; bounds. -/
namespace Wf
section
variable {τ : Type}
theorem insAfter_split {w : Nat} {blk r : List Nat} : ∀ {l : List Nat}, ¬ w ∈ l → insAfter w blk (l ++ w :: r) = l ++ w :: (blk ++ r)
  | [], _ => by unfold insAfter; rw [List.nil_append, List.nil_append]; simp [insAfter]
  | x :: l, h => by
    have h1 : x ≠ w := fun e => h (by rw [e]; exact List.mem_cons_self)
    rw [List.cons_append, insAfter, if_neg h1, insAfter_split fun m => h (List.mem_cons_of_mem _ m)]
    rfl
theorem order_split {w : Nat} {o : List Nat} (h : w ∈ o) : ∃ l r, o = l ++ w :: r ∧ ¬ w ∈ l := List.eq_append_cons_of_mem h
theorem insAfter_len {w : Nat} {blk o : List Nat} (h : w ∈ o) : (insAfter w blk o).length = o.length + blk.length := by
  obtain ⟨l, r, rfl, n⟩ := order_split h
  rw [insAfter_split n]
  simp only [List.length_append, List.length_cons]
  omega
theorem newKept_snoc (n : Nat) (of : Nm) (kd : Kd) (t : τ) : ∀ (k : Nat) (ts : List τ), newKept n of kd k (ts ++ [t]) = newKept n of kd k ts ++ [⟨n, ⟨kd, t⟩, [], [], .put n of (k + ts.length)⟩]
  | _, [] => rfl
  | k, x :: ts => by
    rw [List.cons_append, newKept, newKept_snoc n of kd t (k + 1) ts, newKept, List.cons_append, List.length_cons]
    rw [show k + 1 + ts.length = k + (ts.length + 1) by omega]
variable [Inhabited τ]
/-- as far as the first k behind -/
def addTo (n i : Nat) (f : Fate τ) (k : Nat) (b : B τ) : B τ := addFate n i ⟨f.chg, f.behind.take k⟩ b
theorem addTo_zero (n i : Nat) (f : Fate τ) (b : B τ) (h : i ∈ b.order) : addTo n i f 0 b = { b with kept := b.noted n i f.chg } := by
  obtain ⟨l, r, e, hn⟩ := order_split h
  unfold addTo addFate
  rw [List.take_zero, e, insAfter_split (by exact hn)]
  simp [newKept]
theorem addTo_full (n i : Nat) (f : Fate τ) (b : B τ) : addTo n i f f.behind.length b = addFate n i f b := by
  unfold addTo
  rw [List.take_length]
theorem addTo_len {n i k : Nat} {f : Fate τ} {b : B τ} (hk : k ≤ f.behind.length) : (addTo n i f k b).kept.length = b.kept.length + k := by
  unfold addTo
  rw [addFate_len, List.length_take]
  show b.kept.length + min k f.behind.length = _
  omega
theorem addTo_succ {n i k : Nat} {f : Fate τ} {b : B τ} {t : τ} (ht : f.behind[k]? = some t) {l r : List Nat} (ho : b.order = l ++ i :: r) (hn : ¬ i ∈ l) :
    (addTo n i f k b).order = l ++ i :: (List.range' b.kept.length k ++ r) ∧
    addTo n i f (k + 1) b = { kept := (addTo n i f k b).kept ++ [⟨n, ⟨(b.at i).line.kd.behind, t⟩, [], [], .put n (b.at i).nm k⟩], order := l ++ i :: (List.range' b.kept.length k ++ [b.kept.length + k] ++ r) } := by
  have hk : k < f.behind.length := (List.getElem?_eq_some_iff.mp ht).1
  have e1 : (f.behind.take k).length = k := by rw [List.length_take]; omega
  have e2 : (f.behind.take (k + 1)).length = k + 1 := by rw [List.length_take]; omega
  constructor
  · unfold addTo addFate
    show insAfter i (List.range' b.kept.length (f.behind.take k).length) b.order = _
    rw [e1, ho, insAfter_split hn]
  · unfold addTo addFate
    show B.mk _ (insAfter i (List.range' b.kept.length (f.behind.take (k + 1)).length) b.order) = B.mk _ _
    rw [e2, ho, insAfter_split hn, List.range'_concat, Nat.one_mul]
    congr 1
    show _ ++ newKept _ _ _ _ (f.behind.take (k + 1)) = _ ++ newKept _ _ _ _ (f.behind.take k) ++ _
    rw [List.take_add_one, ht, Option.toList_some, newKept_snoc, e1, Nat.zero_add, List.append_assoc]
theorem addTo_at {n i k j : Nat} {f : Fate τ} {b : B τ} (hj : j < b.kept.length) : ((addTo n i f k b).at j).born = (b.at j).born ∧ ((addTo n i f k b).at j).line = (b.at j).line := by
  unfold addTo
  rw [addFate_at_old hj]
  by_cases e : i = j
  · rw [if_pos e]; exact ⟨(note_nm n f.chg _).2.1, (note_nm n f.chg _).2.2⟩
  · rw [if_neg e]; exact ⟨rfl, rfl⟩
/-- how large it may be -/
structure Bnd (m : Nat) (b : B τ) : Prop where
  kept : b.kept.length ≤ 40 + 2 * m
  order : b.order.length ≤ 40 + 2 * m
  txt : ∀ i, i < b.kept.length → (b.at i).texts.length ≤ m
  drp : ∀ i, i < b.kept.length → (b.at i).dropped.length ≤ m
theorem note_len (n : Nat) (c : Chg τ) (k : Kp τ) : (k.note n c).texts.length ≤ k.texts.length + 1 ∧ (k.note n c).dropped.length ≤ k.dropped.length + 1 := by
  cases c with
  | keep => exact ⟨Nat.le_succ _, Nat.le_succ _⟩
  | drop => exact ⟨Nat.le_succ _, by show (k.dropped ++ [n]).length ≤ _; rw [List.length_append]; exact Nat.le_refl _⟩
  | text t => exact ⟨by show (k.texts ++ [(n, t)]).length ≤ _; rw [List.length_append]; exact Nat.le_refl _, Nat.le_succ _⟩
theorem Bnd.add {m n i : Nat} {f : Fate τ} {b : B τ} (h : Bnd m b) (hi : i ∈ b.order) (hf : f.behind.length ≤ 2) : Bnd (m + 1) (addFate n i f b) := by
  have hl := addFate_len n i f b
  refine ⟨by have := h.kept; omega, ?_, fun j hj => ?_, fun j hj => ?_⟩
  · show (insAfter _ _ _).length ≤ _
    rw [insAfter_len hi, List.length_range']
    have := h.order
    omega
  · by_cases hj' : j < b.kept.length
    · rw [addFate_at_old hj']
      by_cases e : i = j
      · rw [if_pos e]
        exact Nat.le_trans (note_len n f.chg _).1 (Nat.succ_le_succ (h.txt j hj'))
      · rw [if_neg e]
        exact Nat.le_succ_of_le (h.txt j hj')
    · obtain ⟨k, rfl⟩ : ∃ k, j = b.kept.length + k := ⟨j - b.kept.length, by omega⟩
      have hk : k < f.behind.length := by omega
      rw [addFate_at_new (List.getElem?_eq_getElem hk)]
      exact Nat.zero_le _
  · by_cases hj' : j < b.kept.length
    · rw [addFate_at_old hj']
      by_cases e : i = j
      · rw [if_pos e]
        exact Nat.le_trans (note_len n f.chg _).2 (Nat.succ_le_succ (h.drp j hj'))
      · rw [if_neg e]
        exact Nat.le_succ_of_le (h.drp j hj')
    · obtain ⟨k, rfl⟩ : ∃ k, j = b.kept.length + k := ⟨j - b.kept.length, by omega⟩
      have hk : k < f.behind.length := by omega
      rw [addFate_at_new (List.getElem?_eq_getElem hk)]
      exact Nat.zero_le _
theorem addAll_snoc (n : Nat) (l : List (Nat × Fate τ)) (q : Nat × Fate τ) (b : B τ) : addAll n (l ++ [q]) b = addFate n q.1 q.2 (addAll n l b) := by
  unfold addAll
  rw [List.foldl_append]
  rfl
theorem addFate_ord {n i : Nat} {f : Fate τ} {b : B τ} {x : Nat} (hi : i ∈ b.order) (h : x ∈ b.order) : x ∈ (addFate n i f b).order := (insAfter_mem hi x).mpr (.inl h)
theorem addAll_grow (n : Nat) : ∀ (l : List (Nat × Fate τ)) (b : B τ), (∀ q ∈ l, q.1 ∈ b.order) → (∀ x ∈ b.order, x ∈ (addAll n l b).order) ∧ b.kept.length ≤ (addAll n l b).kept.length
  | [], _, _ => ⟨fun _ h => h, Nat.le_refl _⟩
  | q :: r, b, h => by
    have hq := h q List.mem_cons_self
    have ih := addAll_grow n r (addFate n q.1 q.2 b) fun p hp => addFate_ord hq (h p (List.mem_cons_of_mem _ hp))
    refine ⟨fun x hx => ih.1 x (addFate_ord hq hx), Nat.le_trans ?_ ih.2⟩
    rw [addFate_len]
    omega
theorem Bnd.all {n : Nat} : ∀ (l : List (Nat × Fate τ)) {m : Nat} {b : B τ}, Bnd m b → (∀ q ∈ l, q.1 ∈ b.order) → (∀ q ∈ l, q.2.behind.length ≤ 2) → Bnd (m + l.length) (addAll n l b)
  | [], m, b, h, _, _ => h
  | q :: r, m, b, h, h1, h2 => by
    have hq := h1 q List.mem_cons_self
    have := Bnd.all (n := n) r (h.add (n := n) hq (h2 q List.mem_cons_self)) (fun p hp => addFate_ord hq (h1 p (List.mem_cons_of_mem _ hp))) fun p hp => h2 p (List.mem_cons_of_mem _ hp)
    rw [List.length_cons, show m + (r.length + 1) = m + 1 + r.length by omega]
    exact this
end
end Wf

/-! The history and its replay give the same lines. -/
namespace Wf
section
variable {τ : Type} [Inhabited τ]
theorem Good.up {N : Nat} {b : B τ} (G : Good N b) {M : Nat} (h : N ≤ M) : Good M b :=
  ⟨G.nd, G.mem, G.inj, G.num, fun i hi => Nat.lt_of_lt_of_le (G.low i hi) h, fun i hi p hp => Nat.lt_of_lt_of_le (G.lowT i hi p hp) h, fun i hi d hd => Nat.lt_of_lt_of_le (G.lowD i hi d hd) h⟩
theorem addFate_old {n i : Nat} {f : Fate τ} {b : B τ} {j : Nat} (hj : j < b.kept.length) : ((addFate n i f b).at j).nm = (b.at j).nm ∧ ((addFate n i f b).at j).born = (b.at j).born ∧ ((addFate n i f b).at j).line = (b.at j).line := by
  rw [addFate_at_old hj]
  by_cases e : i = j
  · rw [if_pos e]; exact note_nm n f.chg _
  · rw [if_neg e]; exact ⟨rfl, rfl, rfl⟩
/-- within one change: what is done so far -/
structure Part (n : Nat) (b0 : B τ) (pl : List (Nat × Fate τ)) (b : B τ) : Prop where
  good : Good (n + 1) b
  len : b0.kept.length ≤ b.kept.length
  nms : ∀ j, j < b.kept.length → (∃ i k, i ∈ pl.map (·.1) ∧ (b.at j).nm = .put n (b0.at i).nm k) ∨ (j < b0.kept.length ∧ (b.at j).nm = (b0.at j).nm)
  old : ∀ j, j < b0.kept.length → (b.at j).nm = (b0.at j).nm ∧ (b.at j).born = (b0.at j).born ∧ (b.at j).line = (b0.at j).line
  same : ∀ j, j < b0.kept.length → ¬ j ∈ pl.map (·.1) → b.at j = b0.at j
theorem Part.start {n : Nat} {b0 : B τ} (G : Good n b0) : Part n b0 [] b0 :=
  ⟨G.up (Nat.le_succ n), Nat.le_refl _, fun j hj => .inr ⟨hj, rfl⟩, fun _ _ => ⟨rfl, rfl, rfl⟩, fun _ _ _ => rfl⟩
theorem Part.step {n : Nat} {b0 b : B τ} {pl : List (Nat × Fate τ)} {q : Nat × Fate τ} (G : Good n b0) (h : Part n b0 pl b) (hq : q.1 < b0.kept.length) (hn : ¬ q.1 ∈ pl.map (·.1)) (hpl : ∀ p ∈ pl, p.1 < b0.kept.length) : Part n b0 (pl ++ [q]) (addFate n q.1 q.2 b) := by
  have hqb : q.1 < b.kept.length := Nat.lt_of_lt_of_le hq h.len
  have hnmq := (h.old q.1 hq).1
  have hno : ∀ j, j < b.kept.length → ∀ k, (b.at j).nm ≠ .put n (b.at q.1).nm k := by
    intro j hj k e
    rw [hnmq] at e
    rcases h.nms j hj with ⟨i, k', hi, e2⟩ | ⟨hj0, e2⟩
    · rw [e2] at e
      injection e with _ e3 _
      obtain ⟨p, hp, rfl⟩ := List.mem_map.mp hi
      have := G.inj p.1 q.1 (hpl p hp) hq e3
      exact hn (by rw [← this]; exact hi)
    · rw [e2] at e
      have e3 := G.num j hj0
      rw [e] at e3
      have e4 : n = (b0.at j).born := e3
      have := G.low j hj0
      omega
  have hl := addFate_len n q.1 q.2 b
  refine ⟨addFate_good h.good (Nat.lt_succ_self n) hqb hno, by have := h.len; omega, fun j hj => ?_, fun j hj => ?_, fun j hj hm => ?_⟩
  · by_cases lt : j < b.kept.length
    · rw [(addFate_old lt).1]
      rcases h.nms j lt with ⟨i, k', hi, e2⟩ | r
      · exact .inl ⟨i, k', by rw [List.map_append]; exact List.mem_append_left _ hi, e2⟩
      · exact .inr r
    · obtain ⟨k, rfl⟩ : ∃ k, j = b.kept.length + k := ⟨j - b.kept.length, by omega⟩
      have hk : k < q.2.behind.length := by omega
      rw [addFate_at_new (List.getElem?_eq_getElem hk)]
      refine .inl ⟨q.1, k, by rw [List.map_append]; exact List.mem_append_right _ (by simp), ?_⟩
      rw [← hnmq]
  · have lt : j < b.kept.length := Nat.lt_of_lt_of_le hj h.len
    obtain ⟨e1, e2, e3⟩ := addFate_old (n := n) (i := q.1) (f := q.2) lt
    obtain ⟨g1, g2, g3⟩ := h.old j hj
    exact ⟨e1.trans g1, e2.trans g2, e3.trans g3⟩
  · have lt : j < b.kept.length := Nat.lt_of_lt_of_le hj h.len
    rw [List.map_append, List.mem_append] at hm
    rw [addFate_at_old lt, if_neg fun e => hm (.inr (by simp [e]))]
    exact h.same j hj fun z => hm (.inl z)
theorem addAll_app (n : Nat) (l m : List (Nat × Fate τ)) (b : B τ) : addAll n (l ++ m) b = addAll n m (addAll n l b) := by
  unfold addAll
  rw [List.foldl_append]
theorem part_all {n : Nat} {b0 : B τ} (G : Good n b0) : ∀ (r pl : List (Nat × Fate τ)), ((pl ++ r).map (·.1)).Nodup → (∀ p ∈ pl ++ r, p.1 < b0.kept.length) → Part n b0 pl (addAll n pl b0) → Part n b0 (pl ++ r) (addAll n (pl ++ r) b0)
  | [], pl, _, _, h => by rw [List.append_nil]; exact h
  | q :: r, pl, nd, hl, h => by
    have e : pl ++ q :: r = (pl ++ [q]) ++ r := by simp
    rw [e] at nd hl ⊢
    have hn : ¬ q.1 ∈ pl.map (·.1) := by
      rw [List.map_append, List.map_append, List.nodup_append] at nd
      have := List.nodup_append.mp nd.1
      intro z
      exact this.2.2 _ z _ (by simp) rfl
    have := h.step G (hl q (by simp)) hn fun p hp => hl p (by simp [hp])
    rw [← addAll_snoc] at this
    exact part_all G r (pl ++ [q]) nd hl this
/-- one change -/
theorem ev_part {n : Nat} {b0 : B τ} {fs : List (Nat × Fate τ)} (G : Good n b0) (nd : (fs.map (·.1)).Nodup) (hl : ∀ p ∈ fs, p.1 < b0.kept.length) : Part n b0 fs (addAll n fs b0) := by
  have := part_all G fs [] (by simpa using nd) (by simpa using hl) (Part.start G)
  simpa using this
theorem ev_rows {n : Nat} {b0 : B τ} (st : Nat → Bool) (G : Good n b0) (hn : st n = true) : ∀ (r pl : List (Nat × Fate τ)), ((pl ++ r).map (·.1)).Nodup → (∀ p ∈ pl ++ r, p.1 < b0.kept.length ∧ st (b0.at p.1).born = true ∧ isUp st (b0.at p.1) = true) → Part n b0 pl (addAll n pl b0) →
    rows st (addAll n (pl ++ r) b0) = applyNamed n (r.map fun q => ((b0.at q.1).nm, q.2)) (rows st (addAll n pl b0))
  | [], pl, _, _, _ => by rw [List.append_nil]; rfl
  | q :: r, pl, nd, hl, h => by
    have e : pl ++ q :: r = (pl ++ [q]) ++ r := by simp
    have hn' : ¬ q.1 ∈ pl.map (·.1) := by
      rw [e, List.map_append, List.map_append, List.nodup_append] at nd
      have := List.nodup_append.mp nd.1
      intro z
      exact this.2.2 _ z _ (by simp) rfl
    obtain ⟨h1, h2, h3⟩ := hl q (by simp)
    have h4 := h.step G h1 hn' fun p hp => (hl p (by simp [hp])).1
    have hq := h.same q.1 h1 hn'
    have e2 := rows_addFate (n := n) (i := q.1) (f := q.2) st h.good (Nat.lt_of_lt_of_le h1 h.len) hn (by rw [hq]; exact h2) (by rw [hq]; exact h3)
    rw [e]
    rw [← addAll_snoc] at h4
    rw [ev_rows st G hn r (pl ++ [q]) (by rw [← e]; exact nd) (by rw [← e]; exact hl) h4, addAll_snoc, e2, hq]
    rfl
theorem ev_rows_off {n : Nat} {b0 : B τ} (st : Nat → Bool) (G : Good n b0) (hn : st n = false) : ∀ (r pl : List (Nat × Fate τ)), ((pl ++ r).map (·.1)).Nodup → (∀ p ∈ pl ++ r, p.1 < b0.kept.length) → Part n b0 pl (addAll n pl b0) →
    rows st (addAll n (pl ++ r) b0) = rows st (addAll n pl b0)
  | [], pl, _, _, _ => by rw [List.append_nil]
  | q :: r, pl, nd, hl, h => by
    have e : pl ++ q :: r = (pl ++ [q]) ++ r := by simp
    have hn' : ¬ q.1 ∈ pl.map (·.1) := by
      rw [e, List.map_append, List.map_append, List.nodup_append] at nd
      have := List.nodup_append.mp nd.1
      intro z
      exact this.2.2 _ z _ (by simp) rfl
    have h1 := hl q (by simp)
    have h4 := h.step G h1 hn' fun p hp => hl p (by simp [hp])
    have e2 := rows_addFate_off (n := n) (i := q.1) (f := q.2) st h.good (Nat.lt_of_lt_of_le h1 h.len) hn
    rw [e]
    rw [← addAll_snoc] at h4
    rw [ev_rows_off st G hn r (pl ++ [q]) (by rw [← e]; exact nd) (by rw [← e]; exact hl) h4, addAll_snoc, e2]

/-! ### all changes -/
/-- each change that stands touches only what stands and is not dropped -/
def Ok (st : Nat → Bool) : Nat → B τ → List (Ev τ) → Prop
  | _, _, [] => True
  | n, b, e :: es => (e.fates.map (·.1)).Nodup ∧ (∀ q ∈ e.fates, q.1 < b.kept.length) ∧ (st n = true → ∀ q ∈ e.fates, st (b.at q.1).born = true ∧ isUp st (b.at q.1) = true) ∧ Ok st (n + 1) (addAll n e.fates b) es
theorem build_good : ∀ (es : List (Ev τ)) {st : Nat → Bool} {n : Nat} {b : B τ}, Good n b → Ok st n b es → Good (n + es.length) (buildFrom n b es) ∧ b.kept.length ≤ (buildFrom n b es).kept.length ∧
    ∀ j, j < b.kept.length → ((buildFrom n b es).at j).nm = (b.at j).nm ∧ ((buildFrom n b es).at j).born = (b.at j).born ∧ ((buildFrom n b es).at j).line = (b.at j).line
  | [], _, _, _, G, _ => ⟨G, Nat.le_refl _, fun _ _ => ⟨rfl, rfl, rfl⟩⟩
  | e :: es, st, n, b, G, h => by
    obtain ⟨h1, h2, _, h4⟩ := h
    have p := ev_part G h1 h2
    obtain ⟨i1, i2, i3⟩ := build_good es p.good h4
    refine ⟨?_, Nat.le_trans p.len i2, fun j hj => ?_⟩
    · rw [List.length_cons, show n + (es.length + 1) = n + 1 + es.length by omega]
      exact i1
    · obtain ⟨a1, a2, a3⟩ := i3 j (Nat.lt_of_lt_of_le hj p.len)
      obtain ⟨b1, b2, b3⟩ := p.old j hj
      exact ⟨a1.trans b1, a2.trans b2, a3.trans b3⟩
/-- the changes as the law keeps them -/
def lchs (bf : B τ) : Nat → List (Ev τ) → List (LCh τ)
  | _, [] => []
  | n, e :: es => ⟨n, e.author, e.stands, e.fates.map fun q => ((bf.at q.1).nm, q.2)⟩ :: lchs bf (n + 1) es
theorem lchs_len (bf : B τ) : ∀ (n : Nat) (es : List (Ev τ)), (lchs bf n es).length = es.length
  | _, [] => rfl
  | n, e :: es => by rw [lchs, List.length_cons, List.length_cons, lchs_len]
theorem lchs_get (bf : B τ) : ∀ (n : Nat) (es : List (Ev τ)) (j : Nat), (lchs bf n es)[j]? = (es[j]?).map fun e => ⟨n + j, e.author, e.stands, e.fates.map fun q => ((bf.at q.1).nm, q.2)⟩
  | _, [], _ => by simp [lchs]
  | n, e :: es, 0 => by simp [lchs]
  | n, e :: es, j + 1 => by
    rw [lchs, List.getElem?_cons_succ, List.getElem?_cons_succ, lchs_get]
    congr 1; funext e; congr 1; omega
theorem lchs_app (bf : B τ) : ∀ (n : Nat) (es fs : List (Ev τ)), lchs bf n (es ++ fs) = lchs bf n es ++ lchs bf (n + es.length) fs
  | _, [], _ => rfl
  | n, e :: es, fs => by
    rw [List.cons_append, lchs, lchs_app, lchs, List.cons_append, List.length_cons, show n + (es.length + 1) = n + 1 + es.length by omega]
theorem lchs_congr {bf bg : B τ} : ∀ (n : Nat) (es : List (Ev τ)), (∀ e ∈ es, ∀ q ∈ e.fates, (bf.at q.1).nm = (bg.at q.1).nm) → lchs bf n es = lchs bg n es
  | _, [], _ => rfl
  | n, e :: es, h => by
    rw [lchs, lchs, lchs_congr (n + 1) es fun e' he => h e' (List.mem_cons_of_mem _ he)]
    congr 2
    exact List.map_congr_left fun q hq => by rw [h e List.mem_cons_self q hq]
theorem replay_rows : ∀ (es : List (Ev τ)) {st : Nat → Bool} {n : Nat} {b bf : B τ}, Good n b → Ok st n b es → (∀ j e, es[j]? = some e → st (n + j) = e.stands) → (∀ e ∈ es, ∀ q ∈ e.fates, (bf.at q.1).nm = ((buildFrom n b es).at q.1).nm) →
    replayFrom (rows st b) (lchs bf n es) = rows st (buildFrom n b es)
  | [], _, _, _, _, _, _, _, _ => rfl
  | e :: es, st, n, b, bf, G, h, hs, hb => by
    have h0 := h
    obtain ⟨h1, h2, h3, h4⟩ := h
    have p := ev_part G h1 h2
    have g := build_good (e :: es) G h0
    have hst : st n = e.stands := by
      have := hs 0 e rfl
      exact this
    have hs' : ∀ j e', es[j]? = some e' → st (n + 1 + j) = e'.stands := fun j e' he => by
      have := hs (j + 1) e' (by simpa using he)
      rw [show n + 1 + j = n + (j + 1) by omega]
      exact this
    have ih := replay_rows es p.good h4 hs' fun e' he q hq => hb e' (List.mem_cons_of_mem _ he) q hq
    have nmq : (e.fates.map fun q => ((bf.at q.1).nm, q.2)) = e.fates.map fun q => ((b.at q.1).nm, q.2) :=
      List.map_congr_left fun q hq => by rw [hb e List.mem_cons_self q hq, (g.2.2 q.1 (h2 q hq)).1]
    show replayFrom (rows st b) (⟨n, e.author, e.stands, _⟩ :: lchs bf (n + 1) es) = _
    rw [nmq]
    show replayFrom (if e.stands then applyNamed n (e.fates.map fun q => ((b.at q.1).nm, q.2)) (rows st b) else rows st b) (lchs bf (n + 1) es) = rows st (buildFrom (n + 1) (addAll n e.fates b) es)
    rw [← ih]
    congr 1
    cases hv : e.stands with
    | true =>
      rw [hv] at hst
      have := ev_rows st G hst e.fates [] (by simpa using h1) (fun q hq => ⟨h2 q (by simpa using hq), h3 hst q (by simpa using hq)⟩) (Part.start G)
      rw [List.nil_append] at this
      rw [this]
      rfl
    | false =>
      rw [hv] at hst
      have := ev_rows_off st G hst e.fates [] (by simpa using h1) (fun q hq => h2 q (by simpa using hq)) (Part.start G)
      rw [List.nil_append] at this
      rw [this]
      rfl
end
end Wf

/-! The law's state: what each round keeps. -/
namespace Wf
def dN : Nm → Nat
  | .start _ => 2
  | .put _ o _ => dN o + 1
section
variable {τ : Type} [Inhabited τ]
theorem init_at' (d : List (Line τ)) {j : Nat} {l : Line τ} (h : d[j]? = some l) : (init d).at j = ⟨0, l, [], [], .start j⟩ := by
  unfold B.at init
  simp only [List.getD_eq_getElem?_getD]
  rw [List.getElem?_map, List.getElem?_zipIdx, h]
  simp
theorem init_len' (d : List (Line τ)) : (init d).kept.length = d.length := by
  unfold init
  simp
theorem init_good (d : List (Line τ)) : Good 1 (init d) := by
  have at_ : ∀ i, i < (init d).kept.length → ∃ l, d[i]? = some l ∧ (init d).at i = ⟨0, l, [], [], .start i⟩ := fun i hi => by
    rw [init_len'] at hi
    exact ⟨d[i], List.getElem?_eq_getElem hi, init_at' d (List.getElem?_eq_getElem hi)⟩
  refine ⟨List.nodup_range, fun i => ?_, fun i j hi hj e => ?_, fun i hi => ?_, fun i hi => ?_, fun i hi => ?_, fun i hi => ?_⟩
  · rw [init_len']
    exact List.mem_range
  · obtain ⟨_, _, e1⟩ := at_ i hi
    obtain ⟨_, _, e2⟩ := at_ j hj
    rw [e1, e2] at e
    injection e
  · obtain ⟨_, _, e1⟩ := at_ i hi
    rw [e1]
    rfl
  · obtain ⟨_, _, e1⟩ := at_ i hi
    rw [e1]
    exact Nat.one_pos
  · obtain ⟨_, _, e1⟩ := at_ i hi
    rw [e1]
    intro p hp
    cases hp
  · obtain ⟨_, _, e1⟩ := at_ i hi
    rw [e1]
    intro p hp
    cases hp
theorem init_rows (d : List (Line τ)) (st : Nat → Bool) (h0 : st 0 = true) : rows st (init d) = startRows d := by
  unfold rows startRows
  have e1 : ((init d).order.filter fun i => st ((init d).at i).born) = List.range d.length := by
    show (List.range d.length).filter _ = _
    refine List.filter_eq_self.mpr fun i hi => ?_
    have hi' := List.mem_range.mp hi
    rw [init_at' d (List.getElem?_eq_getElem hi')]
    exact h0
  rw [e1]
  refine List.ext_getElem? fun i => ?_
  rw [List.getElem?_map, List.getElem?_map, List.getElem?_zipIdx]
  by_cases hi : i < d.length
  · rw [List.getElem?_range hi, List.getElem?_eq_getElem hi]
    show some (rowOf st ((init d).at i)) = some _
    rw [init_at' d (List.getElem?_eq_getElem hi)]
    show _ = some (Row.mk (.start (0 + i)) true d[i] 0)
    rw [Nat.zero_add]
    rfl
  · rw [List.getElem?_eq_none (by rw [List.length_range]; omega), List.getElem?_eq_none (by omega)]
    rfl
theorem present_rows (st : Nat → Bool) (b : B τ) : ((rows st b).filter fun r => r.up) = (present st b).map fun i => rowOf st (b.at i) := by
  unfold rows present
  rw [List.filter_map, List.filter_filter]
  congr 1
  refine List.filter_congr fun i _ => ?_
  show (isUp st (b.at i) && st (b.at i).born) = isThere st (b.at i)
  unfold isThere
  rw [Bool.and_comm]
/-! ### agreeing -/
theorem isUp_congr {st st' : Nat → Bool} {k : Kp τ} (h : ∀ d ∈ k.dropped, st d = st' d) : isUp st k = isUp st' k := by
  unfold isUp
  congr 1
  rw [Bool.eq_iff_iff, List.any_eq_true, List.any_eq_true]
  constructor
  · rintro ⟨d, h1, h2⟩
    exact ⟨d, h1, by rw [← h d h1]; exact h2⟩
  · rintro ⟨d, h1, h2⟩
    exact ⟨d, h1, by rw [h d h1]; exact h2⟩
theorem ok_congr : ∀ (es : List (Ev τ)) {st st' : Nat → Bool} {n : Nat} {b : B τ}, Good n b → (∀ m, m < n + es.length → st m = st' m) → Ok st n b es → Ok st' n b es
  | [], _, _, _, _, _, _, _ => trivial
  | e :: es, st, st', n, b, G, h, k => by
    obtain ⟨h1, h2, h3, h4⟩ := k
    have p := ev_part G h1 h2
    rw [List.length_cons] at h
    refine ⟨h1, h2, fun hn q hq => ?_, ok_congr es p.good (fun m hm => h m (by omega)) h4⟩
    have hl := h2 q hq
    obtain ⟨g1, g2⟩ := h3 (by rw [h n (by omega)]; exact hn) q hq
    refine ⟨by rw [← h _ (by have := G.low _ hl; omega)]; exact g1, ?_⟩
    rw [← isUp_congr (st := st) fun d hd => h d (by have := G.lowD _ hl d hd; omega)]
    exact g2
theorem build_app : ∀ (es fs : List (Ev τ)) (n : Nat) (b : B τ), buildFrom n b (es ++ fs) = buildFrom (n + es.length) (buildFrom n b es) fs
  | [], _, _, _ => rfl
  | e :: es, fs, n, b => by
    show buildFrom (n + 1) (addAll n e.fates b) (es ++ fs) = _
    rw [build_app es fs, List.length_cons, show n + (es.length + 1) = n + 1 + es.length by omega]
    rfl
theorem ok_app : ∀ (es fs : List (Ev τ)) {st : Nat → Bool} {n : Nat} {b : B τ}, Ok st n b (es ++ fs) ↔ Ok st n b es ∧ Ok st (n + es.length) (buildFrom n b es) fs
  | [], fs, _, _, _ => ⟨fun h => ⟨trivial, h⟩, fun h => h.2⟩
  | e :: es, fs, st, n, b => by
    have ih := ok_app es fs (st := st) (n := n + 1) (b := addAll n e.fates b)
    rw [List.length_cons, show n + (es.length + 1) = n + 1 + es.length by omega]
    constructor
    · rintro ⟨h1, h2, h3, h4⟩
      obtain ⟨a, c⟩ := ih.mp h4
      exact ⟨⟨h1, h2, h3, a⟩, c⟩
    · rintro ⟨⟨h1, h2, h3, a⟩, c⟩
      exact ⟨h1, h2, h3, ih.mpr ⟨a, c⟩⟩
/-- only the fates count for the lists -/
theorem build_fates : ∀ (es fs : List (Ev τ)) (n : Nat) (b : B τ), es.map (·.fates) = fs.map (·.fates) → buildFrom n b es = buildFrom n b fs
  | [], [], _, _, _ => rfl
  | [], f :: fs, _, _, h => by cases h
  | e :: es, [], _, _, h => by cases h
  | e :: es, f :: fs, n, b, h => by
    rw [List.map_cons, List.map_cons] at h
    injection h with h1 h2
    show buildFrom (n + 1) (addAll n e.fates b) es = buildFrom (n + 1) (addAll n f.fates b) fs
    rw [h1]
    exact build_fates es fs _ _ h2
theorem ok_fates : ∀ (es fs : List (Ev τ)) {st : Nat → Bool} {n : Nat} {b : B τ}, es.map (·.fates) = fs.map (·.fates) → Ok st n b es → Ok st n b fs
  | [], [], _, _, _, _, _ => trivial
  | [], f :: fs, _, _, _, h, _ => by cases h
  | e :: es, [], _, _, _, h, _ => by cases h
  | e :: es, f :: fs, st, n, b, h, k => by
    rw [List.map_cons, List.map_cons] at h
    injection h with h1 h2
    obtain ⟨a1, a2, a3, a4⟩ := k
    rw [h1] at a1 a2 a3 a4
    exact ⟨a1, a2, a3, ok_fates es fs h2 a4⟩
theorem ok_back : ∀ (es : List (Ev τ)) {st st' : Nat → Bool} {n t : Nat} {b : B τ}, Good n b → (∀ m, st' m = true → st m = true) → (∀ m, m ≠ t → st m = true → st' m = true) → st' t = false →
    (∀ j e, es[j]? = some e → t < n + j → st (n + j) = true → ∀ q ∈ e.fates, ((buildFrom n b es).at q.1).born ≠ t) → Ok st n b es → Ok st' n b es
  | [], _, _, _, _, _, _, _, _, _, _, _ => trivial
  | e :: es, st, st', n, t, b, G, u, v, w, h, k => by
    have k0 := k
    obtain ⟨h1, h2, h3, h4⟩ := k
    have p := ev_part G h1 h2
    have g := build_good (e :: es) G k0
    refine ⟨h1, h2, fun hn q hq => ?_, ok_back es p.good u v w (fun j e' he ht hs q hq => ?_) h4⟩
    · have hl := h2 q hq
      obtain ⟨g1, g2⟩ := h3 (u n hn) q hq
      have hne : (b.at q.1).born ≠ t := by
        by_cases lt : t < n
        · have := h 0 e rfl lt (u n hn) q hq
          rw [(g.2.2 q.1 hl).2.1] at this
          exact this
        · have hnt : n ≠ t := fun z => by rw [← z, hn] at w; cases w
          have := G.low _ hl
          omega
      refine ⟨v _ hne g1, ?_⟩
      unfold isUp at g2 ⊢
      rw [Bool.not_eq_true'] at g2 ⊢
      rw [List.any_eq_false] at g2 ⊢
      intro d hd z
      exact g2 d hd (u d z)
    · have := h (j + 1) e' (by simpa using he) (by omega) (by rw [show n + (j + 1) = n + 1 + j by omega]; exact hs) q hq
      exact this
/-! ### names are there when they are called for -/
def RepOk : List (Row τ) → List (LCh τ) → Prop
  | _, [] => True
  | rs, c :: cs => (c.stands = true → ∀ p ∈ c.named, ∃ r ∈ rs, r.nm = p.1) ∧ RepOk (if c.stands then applyNamed c.num c.named rs else rs) cs
theorem rep_ok : ∀ (es : List (Ev τ)) {st : Nat → Bool} {n : Nat} {b bf : B τ}, Good n b → Ok st n b es → (∀ j e, es[j]? = some e → st (n + j) = e.stands) → (∀ e ∈ es, ∀ q ∈ e.fates, (bf.at q.1).nm = ((buildFrom n b es).at q.1).nm) → RepOk (rows st b) (lchs bf n es)
  | [], _, _, _, _, _, _, _, _ => trivial
  | e :: es, st, n, b, bf, G, h, hs, hb => by
    have h0 := h
    obtain ⟨h1, h2, h3, h4⟩ := h
    have p := ev_part G h1 h2
    have g := build_good (e :: es) G h0
    have hst : st n = e.stands := hs 0 e rfl
    have hs' : ∀ j e', es[j]? = some e' → st (n + 1 + j) = e'.stands := fun j e' he => by
      have := hs (j + 1) e' (by simpa using he)
      rw [show n + 1 + j = n + (j + 1) by omega]
      exact this
    have ih := rep_ok es p.good h4 hs' fun e' he q hq => hb e' (List.mem_cons_of_mem _ he) q hq
    have nmq : (e.fates.map fun q => ((bf.at q.1).nm, q.2)) = e.fates.map fun q => ((b.at q.1).nm, q.2) :=
      List.map_congr_left fun q hq => by rw [hb e List.mem_cons_self q hq, (g.2.2 q.1 (h2 q hq)).1]
    show RepOk (rows st b) (⟨n, e.author, e.stands, _⟩ :: lchs bf (n + 1) es)
    rw [nmq]
    refine ⟨fun hv pp hp => ?_, ?_⟩
    · obtain ⟨q, hq, rfl⟩ := List.mem_map.mp hp
      have hv' : e.stands = true := hv
      obtain ⟨g1, g2⟩ := h3 (by rw [hst]; exact hv') q hq
      refine ⟨rowOf st (b.at q.1), ?_, rfl⟩
      unfold rows
      exact List.mem_map.mpr ⟨q.1, List.mem_filter.mpr ⟨(G.mem _).mpr (h2 q hq), g1⟩, rfl⟩
    · have e2 : (if e.stands = true then applyNamed n (e.fates.map fun q => ((b.at q.1).nm, q.2)) (rows st b) else rows st b) = rows st (addAll n e.fates b) := by
        cases hv : e.stands with
        | true =>
          rw [hv] at hst
          have := ev_rows st G hst e.fates [] (by simpa using h1) (fun q hq => ⟨h2 q (by simpa using hq), h3 hst q (by simpa using hq)⟩) (Part.start G)
          rw [List.nil_append] at this
          rw [this]
          rfl
        | false =>
          rw [hv] at hst
          have := ev_rows_off st G hst e.fates [] (by simpa using h1) (fun q hq => h2 q (by simpa using hq)) (Part.start G)
          rw [List.nil_append] at this
          rw [this]
          rfl
      show RepOk (if e.stands = true then applyNamed n (e.fates.map fun q => ((b.at q.1).nm, q.2)) (rows st b) else rows st b) (lchs bf (n + 1) es)
      rw [e2]
      exact ih
/-! ### how deep the names are -/
def DepOk (n : Nat) (b : B τ) : Prop := ∀ i, i < b.kept.length → dN (b.at i).nm ≤ n + 1
theorem dep_ev {n : Nat} {b : B τ} {fs : List (Nat × Fate τ)} (G : Good n b) (nd : (fs.map (·.1)).Nodup) (hl : ∀ p ∈ fs, p.1 < b.kept.length) (h : DepOk n b) : DepOk (n + 1) (addAll n fs b) := by
  have p := ev_part G nd hl
  intro j hj
  rcases p.nms j hj with ⟨i, k, hi, e⟩ | ⟨hj0, e⟩
  · rw [e]
    obtain ⟨q, hq, rfl⟩ := List.mem_map.mp hi
    have := h q.1 (hl q hq)
    show dN (b.at q.1).nm + 1 ≤ _
    omega
  · rw [e]
    have := h j hj0
    omega
theorem dep_build : ∀ (es : List (Ev τ)) {st : Nat → Bool} {n : Nat} {b : B τ}, Good n b → Ok st n b es → DepOk n b → DepOk (n + es.length) (buildFrom n b es)
  | [], _, _, _, _, _, h => h
  | e :: es, st, n, b, G, k, h => by
    obtain ⟨h1, h2, _, h4⟩ := k
    have := dep_build es (ev_part G h1 h2).good h4 (dep_ev G h1 h2 h)
    rw [List.length_cons, show n + (es.length + 1) = n + 1 + es.length by omega]
    exact this
theorem dep_init (d : List (Line τ)) : DepOk 1 (init d) := fun i hi => by
  rw [init_len'] at hi
  rw [init_at' d (List.getElem?_eq_getElem hi)]
  exact Nat.le_refl _
/-! ### how large -/
def tot (es : List (Ev τ)) : Nat := (es.map fun e => e.fates.length).sum
theorem bnd_build : ∀ (es : List (Ev τ)) {st : Nat → Bool} {n m : Nat} {b : B τ}, Good n b → Ok st n b es → (∀ e ∈ es, ∀ q ∈ e.fates, q.2.behind.length ≤ 2) → Bnd m b → Bnd (m + tot es) (buildFrom n b es)
  | [], _, _, _, _, _, _, _, h => h
  | e :: es, st, n, m, b, G, k, hb, h => by
    obtain ⟨h1, h2, _, h4⟩ := k
    have b1 := Bnd.all (n := n) e.fates h (fun q hq => (G.mem _).mpr (h2 q hq)) (hb e List.mem_cons_self)
    have := bnd_build es (ev_part G h1 h2).good h4 (fun e' he => hb e' (List.mem_cons_of_mem _ he)) b1
    have e2 : m + tot (e :: es) = m + e.fates.length + tot es := by
      unfold tot
      rw [List.map_cons, List.sum_cons]
      omega
    rw [e2]
    exact this
theorem tot_app (es fs : List (Ev τ)) : tot (es ++ fs) = tot es + tot fs := by
  unfold tot
  rw [List.map_append, List.sum_append]
theorem tot_le : ∀ (es : List (Ev τ)) {c : Nat}, (∀ e ∈ es, e.fates.length ≤ c) → tot es ≤ c * es.length
  | [], _, _ => Nat.zero_le _
  | e :: es, c, h => by
    have := tot_le es fun e' he => h e' (List.mem_cons_of_mem _ he)
    have h1 := h e List.mem_cons_self
    unfold tot at this ⊢
    rw [List.map_cons, List.sum_cons, List.length_cons, Nat.mul_add]
    omega
theorem bnd_init {d : List (Line τ)} (h : d.length ≤ 40) : Bnd 0 (init d) := by
  refine ⟨by rw [init_len']; exact h, by show (List.range d.length).length ≤ _; rw [List.length_range]; exact h, fun i hi => ?_, fun i hi => ?_⟩
  all_goals
    rw [init_len'] at hi
    rw [init_at' d (List.getElem?_eq_getElem hi)]
    exact Nat.zero_le _
/-! ### the law's state -/
structure LawSt (doc : List (Line τ)) (es : List (Ev τ)) : Prop where
  ok : Ok (stands es) 1 (init doc) es
  few : ∀ e ∈ es, e.fates.length ≤ 3
  beh : ∀ e ∈ es, ∀ q ∈ e.fates, q.2.behind.length ≤ 2
  doc : doc.length ≤ 40
theorem stands_at {es : List (Ev τ)} {j : Nat} {e : Ev τ} (h : es[j]? = some e) : stands es (1 + j) = e.stands := by
  unfold stands
  have : (1 + j == 0) = false := by simp
  rw [this, show 1 + j - 1 = j by omega, h]
  rfl
theorem stands_zero (es : List (Ev τ)) : stands es 0 = true := rfl
section
variable {doc : List (Line τ)} {es : List (Ev τ)}
theorem LawSt.init (h : doc.length ≤ 40) : LawSt doc ([] : List (Ev τ)) := ⟨trivial, fun _ h => (by cases h), fun _ h => (by cases h), h⟩
theorem LawSt.good (h : LawSt doc es) : Good (es.length + 1) (build doc es) := by
  have := (build_good es (init_good doc) h.ok).1
  rw [Nat.add_comm]
  exact this
theorem LawSt.bnd (h : LawSt doc es) : Bnd (3 * es.length) (build doc es) := by
  have := bnd_build es (init_good doc) h.ok h.beh (bnd_init h.doc)
  have h2 := tot_le es h.few
  rw [Nat.zero_add] at this
  have this : Bnd (tot es) (build doc es) := this
  exact ⟨by have := this.kept; omega, by have := this.order; omega, fun i hi => Nat.le_trans (this.txt i hi) h2, fun i hi => Nat.le_trans (this.drp i hi) h2⟩
theorem LawSt.dep (h : LawSt doc es) : DepOk (es.length + 1) (build doc es) := by
  have := dep_build es (init_good doc) h.ok (dep_init doc)
  rw [Nat.add_comm]
  exact this
theorem LawSt.rows (h : LawSt doc es) : replayFrom (startRows doc) (lchs (build doc es) 1 es) = Wf.rows (stands es) (build doc es) := by
  rw [← init_rows doc (stands es) (stands_zero es)]
  exact replay_rows es (init_good doc) h.ok (fun j e he => stands_at he) fun _ _ _ _ => rfl
theorem LawSt.rep (h : LawSt doc es) : RepOk (startRows doc) (lchs (build doc es) 1 es) := by
  rw [← init_rows doc (stands es) (stands_zero es)]
  exact rep_ok es (init_good doc) h.ok (fun j e he => stands_at he) fun _ _ _ _ => rfl
theorem LawSt.ids (h : LawSt doc es) {j : Nat} {e : Ev τ} (he : es[j]? = some e) : ∀ q ∈ e.fates, q.1 < (build doc es).kept.length := by
  have hj := (List.getElem?_eq_some_iff.mp he).1
  have e1 : es = es.take j ++ e :: es.drop (j + 1) := by
    have := List.take_append_drop j es
    rw [List.drop_eq_getElem_cons hj] at this
    rw [(List.getElem?_eq_some_iff.mp he).2] at this
    exact this.symm
  have k := h.ok
  rw [e1] at k
  obtain ⟨k1, k2⟩ := (ok_app _ _).mp k
  intro q hq
  have h1 := k2.2.1 q hq
  have G1 := (build_good _ (init_good doc) k1).1
  have h2 := (build_good _ G1 k2).2.1
  have e2 : build doc es = buildFrom (1 + (es.take j).length) (buildFrom 1 (Wf.init doc) (es.take j)) (e :: es.drop (j + 1)) := by
    rw [← build_app, ← e1]
    rfl
  rw [e2]
  exact Nat.lt_of_lt_of_le h1 h2
theorem LawSt.nds (h : LawSt doc es) {j : Nat} {e : Ev τ} (he : es[j]? = some e) : (e.fates.map (·.1)).Nodup := by
  have hj := (List.getElem?_eq_some_iff.mp he).1
  have e1 : es = es.take j ++ e :: es.drop (j + 1) := by
    have := List.take_append_drop j es
    rw [List.drop_eq_getElem_cons hj] at this
    rw [(List.getElem?_eq_some_iff.mp he).2] at this
    exact this.symm
  have k := h.ok
  rw [e1] at k
  exact ((ok_app _ _).mp k).2.1
theorem stands_app (es : List (Ev τ)) (e : Ev τ) (m : Nat) (h : m ≤ es.length) : stands (es ++ [e]) m = stands es m := by
  unfold stands
  cases m with
  | zero => rfl
  | succ m =>
    have : (m + 1 == 0) = false := by simp
    rw [this, show m + 1 - 1 = m by omega, List.getElem?_append_left (by omega)]
theorem build_snoc (doc : List (Line τ)) (es : List (Ev τ)) (e : Ev τ) : build doc (es ++ [e]) = addAll (es.length + 1) e.fates (build doc es) := by
  unfold build
  rw [build_app, Nat.add_comm 1 es.length]
  rfl
theorem LawSt.push (h : LawSt doc es) {e : Ev τ} (nd : (e.fates.map (·.1)).Nodup) (hp : ∀ q ∈ e.fates, q.1 ∈ present (stands es) (build doc es)) (f : e.fates.length ≤ 3) (bh : ∀ q ∈ e.fates, q.2.behind.length ≤ 2) : LawSt doc (es ++ [e]) := by
  have G := h.good
  have agree : ∀ m, m ≤ es.length → stands es m = stands (es ++ [e]) m := fun m hm => (stands_app es e m hm).symm
  refine ⟨(ok_app _ _).mpr ⟨ok_congr es (init_good doc) (fun m hm => agree m (by omega)) h.ok, nd, fun q hq => ?_, fun _ q hq => ?_, trivial⟩, fun e' he => ?_, fun e' he => ?_, h.doc⟩
  · exact (G.mem _).mp (List.mem_filter.mp (hp q hq)).1
  · obtain ⟨h1, h2⟩ := List.mem_filter.mp (hp q hq)
    have hl := (G.mem _).mp h1
    unfold isThere at h2
    rw [Bool.and_eq_true] at h2
    refine ⟨?_, ?_⟩
    · show stands (es ++ [e]) ((build doc es).at q.1).born = true
      rw [← agree _ (by have := G.low _ hl; omega)]
      exact h2.1
    · show isUp (stands (es ++ [e])) ((build doc es).at q.1) = true
      rw [← isUp_congr (st := stands es) fun d hd => agree d (by have := G.lowD _ hl d hd; omega)]
      exact h2.2
  · rcases List.mem_append.mp he with z | z
    · exact h.few e' z
    · rw [List.mem_singleton.mp z]; exact f
  · rcases List.mem_append.mp he with z | z
    · exact h.beh e' z
    · rw [List.mem_singleton.mp z]; exact bh
theorem set_fates {es : List (Ev τ)} {i : Nat} {e : Ev τ} (he : es[i]? = some e) (s : Bool) : (es.set i { e with stands := s }).map (·.fates) = es.map (·.fates) := by
  rw [List.map_set]
  refine List.ext_getElem? fun j => ?_
  rw [List.getElem?_set]
  by_cases h : i = j
  · subst h
    obtain ⟨lt, e1⟩ := List.getElem?_eq_some_iff.mp he
    rw [if_pos rfl, if_pos (by rw [List.length_map]; exact lt), List.getElem?_map, he]
    rfl
  · rw [if_neg h]
theorem build_set {doc : List (Line τ)} {es : List (Ev τ)} {i : Nat} {e : Ev τ} (he : es[i]? = some e) (s : Bool) : build doc (es.set i { e with stands := s }) = build doc es := build_fates _ _ _ _ (set_fates he s)
theorem stands_set {es : List (Ev τ)} {i : Nat} {e : Ev τ} (he : es[i]? = some e) (m : Nat) : stands (es.set i { e with stands := false }) m = if m = i + 1 then false else stands es m := by
  unfold stands
  cases m with
  | zero => simp
  | succ m =>
    have : (m + 1 == 0) = false := by simp
    rw [this, show m + 1 - 1 = m by omega, List.getElem?_set]
    by_cases h : i = m
    · subst h
      rw [if_pos rfl, if_pos (List.getElem?_eq_some_iff.mp he).1, if_pos rfl]
      rfl
    · rw [if_neg h, if_neg (by omega)]
theorem LawSt.back (h : LawSt doc es) {i : Nat} {e : Ev τ} (he : es[i]? = some e) (free : ∀ j e', es[j]? = some e' → i < j → e'.stands = true → ∀ q ∈ e'.fates, ((build doc es).at q.1).born ≠ i + 1) : LawSt doc (es.set i { e with stands := false }) := by
  have hs := set_fates he false
  have mem : ∀ e' ∈ es.set i { e with stands := false }, ∃ e'' ∈ es, e''.fates = e'.fates := fun e' he' => by
    have : e'.fates ∈ (es.set i { e with stands := false }).map (·.fates) := List.mem_map.mpr ⟨e', he', rfl⟩
    rw [hs] at this
    obtain ⟨e'', h1, h2⟩ := List.mem_map.mp this
    exact ⟨e'', h1, h2⟩
  refine ⟨ok_fates es _ hs.symm (ok_back es (t := i + 1) (init_good doc) (fun m hm => ?_) (fun m hm z => ?_) ?_ (fun j e' he' ht hv q hq => ?_) h.ok), fun e' he' => ?_, fun e' he' => ?_, h.doc⟩
  · rw [stands_set he] at hm
    split at hm
    · cases hm
    · exact hm
  · rw [stands_set he, if_neg hm]
    exact z
  · rw [stands_set he, if_pos rfl]
  · rw [stands_at he'] at hv
    exact free j e' he' (by omega) hv q hq
  · obtain ⟨e'', h1, h2⟩ := mem e' he'
    rw [← h2]
    exact h.few e'' h1
  · obtain ⟨e'', h1, h2⟩ := mem e' he'
    rw [← h2]
    exact h.beh e'' h1
end
end
end Wf

/-! The text by places, data, what is read where. -/
namespace Wh
open PySem PySem.Spec PyProof.Rows L2 Wf
/-! ### the text -/
def top (i : Nat) : Stmt := PySem.Challenge.pw_weft_k62_whole_histories.main.body.getD i (.Pass ⟨0, 0, 0, 0⟩)
/-- a def at f by its name, qualified name and its statement -/
abbrev FnD (K : PySem.W.Frag) (x q : Str) (st : Stmt) (f : Addr) (fd : FuncData) : Prop := FunD K x q (defArgs st) (defBody st) (defScope st) [] [] f fd
/-- a def that lets nothing out, by its body -/
theorem fok {P : Program} {w : World} {K : PySem.W.Frag} {mg : Str → Option Value} {base : Heap} {x q : Str} {st : Stmt} {f : Addr} {fd : FuncData} {N ps : List Str} {k : Nat} {sp : Sp} (F : FnD K x q st f fd)
    (S : FnScope N ps (defScope st)) (len : ∀ vs H Q E, sp vs H Q E → vs.length = ps.length)
    (hb : ∀ (cdv : Value) (A : Around) (outer : List Env) (s : Shared) (H : Hp) (vs : List V) (Q : VK) (E : XK), Room k (A.deeper (envOfC q (defScope st) s.heap.objs.size f cdv)) → sp vs H Q E →
      ∃ t, PSs (cxOf CX0 P w K mg base N q (defScope st) f cdv A outer s H E).nox (defBody st) t ∧ t { nx := fun _ H' => Q .non H', rt := Q } (start N vs) H) : FnOk P w K mg base CX0 (k + 1) f fd ps sp :=
  FunD.ok F S len fun cdv A outer s H vs Q E hr h =>
    let ⟨t, p, r⟩ := hb cdv A outer s H vs Q E hr h
    ⟨t, p.nox, r⟩
/-- a global def that keeps a promise -/
structure Fn (P : Program) (w : World) (K : PySem.W.Frag) (mg : Str → Option Value) (base : Heap) (CX : CXT) (k : Nat) (x : Str) (sp : Sp) : Prop where
  ex : ∃ (f : Addr) (fd : FuncData) (ps : List Str), FnOk P w K mg base CX k f fd ps sp ∧ mg x = some (.ref f) ∧ PySem.W.keepIn K (.ref f) = true ∧ Binds K fd ps []
/-- a method of the class at C -/
structure Mt (P : Program) (w : World) (K : PySem.W.Frag) (mg : Str → Option Value) (base : Heap) (CX : CXT) (k : Nat) (C : Addr) (m : Str) (sp : Sp) : Prop where
  ex : ∃ (f : Addr) (fd : FuncData) (ps : List Str), Cls K C ∧ Meth K C m f ∧ FnOk P w K mg base CX k f fd ps sp ∧ Binds K fd ps []
/-- a class made by its name; sp: its __init__ -/
structure Mc (P : Program) (w : World) (K : PySem.W.Frag) (mg : Str → Option Value) (base : Heap) (k : Nat) (x : Str) (C : Addr) (sp : Sp) : Prop where
  ex : ∃ (f : Addr) (fd : FuncData) (ps : List Str), Mk K C f ∧ FnOk P w K mg base CX0 k f fd ps sp ∧ mg x = some (.ref C) ∧ Binds K fd ps []
section
variable {X : Cx} {CX : CXT} {k j : Nat} {C : Addr} {x m : Str} {sp : Sp} {E : XK} {p pos apos : Pos} {e o : Expr} {es : List Expr} {ta : TE} {t : TA}
theorem pe_fn (c : Fn X.prog X.w X.K X.mg X.base CX k x sp) (hr : Room j X.A) (hk : k ≤ j) (hx : Passes CX X E) (ha : PA X (e :: es) t) (hg : Gl X x := by rfl)
    (hdb : (x == ("__debug__" : Str)) = false := by decide) (he : starEach (e :: es) X.env = (false, eval e X.env) :: starEach es X.env := by rfl)
    (hpl : (backTo pos (starEach es X.env)).any (·.1) = false := by rfl) : PE X (.Call (.Name x p) (e :: es) [] pos) (tCall sp [] E t) := by
  obtain ⟨f, fd, ps, F, hm, kp, b⟩ := c.ex
  exact pe_call F (hr.mono hk) hg hm kp b .nil hx ha hdb he hpl
theorem pe_mt {pl : Sem Bool} (c : Mt X.prog X.w X.K X.mg X.base CX k C m sp) (hr : Room j X.A) (hk : k ≤ j) (hx : Passes CX X E) (ho : PE X o ta) (ha : PA X (e :: es) t)
    (hst : starEach (e :: es) X.env = (false, eval e X.env) :: starEach es X.env := by rfl) (hpl : (backTo pos (starEach es X.env)).any (·.1) = false := by rfl)
    (ht : eval (.Call (.Attribute o m apos) (e :: es) [] pos) X.env = (do
      let ov ← eval o X.env
      standAt apos.atName
      let (f, first) ← holding [ov] (getMethod ov m pl)
      callWith pos f first (backTo pos (starEach (e :: es) X.env)) (backToKw pos (keywordEach [] X.env))) := by rfl) :
    PE X (.Call (.Attribute o m apos) (e :: es) [] pos) (tMeth C m sp [] E ta t) := by
  obtain ⟨f, fd, ps, cl, me, F, b⟩ := c.ex
  exact pe_meth ho cl me F (hr.mono hk) b .nil hx ha hst hpl ht
theorem pe_mt0 {pl : Sem Bool} (c : Mt X.prog X.w X.K X.mg X.base CX k C m sp) (hr : Room j X.A) (hk : k ≤ j) (hx : Passes CX X E) (ho : PE X o ta)
    (ht : eval (.Call (.Attribute o m apos) [] [] pos) X.env = (do
      let ov ← eval o X.env
      standAt apos.atName
      let (f, first) ← holding [ov] (getMethod ov m pl)
      callWith pos f first (backTo pos (starEach [] X.env)) (backToKw pos (keywordEach [] X.env))) := by rfl) :
    PE X (.Call (.Attribute o m apos) [] [] pos) (tMeth C m sp [] E ta tNil) := by
  obtain ⟨f, fd, ps, cl, me, F, b⟩ := c.ex
  exact pe_meth0 ho cl me F (hr.mono hk) b .nil hx ht
theorem pe_mc (c : Mc X.prog X.w X.K X.mg X.base k x C sp) (hr : Room j X.A) (hk : k + 1 ≤ j) (ha : PA X (e :: es) t) (hg : Gl X x := by rfl)
    (hdb : (x == ("__debug__" : Str)) = false := by decide) (he : starEach (e :: es) X.env = (false, eval e X.env) :: starEach es X.env := by rfl)
    (hpl : (backTo pos (starEach es X.env)).any (·.1) = false := by rfl) : PE X (.Call (.Name x p) (e :: es) [] pos) (tMake C sp [] E0 t) := by
  obtain ⟨f, fd, ps, M, F, hm, b⟩ := c.ex
  exact pe_make M F (hr.mono hk) hg hm b .nil pass0 ha hdb he hpl
end

/-! ### the texts that there are -/
inductive Tx where
  | N (k : Fin 4) | M | E | T (k : Fin 3) | U | P (k : Fin 5) | C (k : Fin 5) | A (k : Fin 3) | ann | bob
  deriving DecidableEq, Inhabited
def Tx.s : Tx → Str
  | .N k => ["n0", "n1", "n2", "n3"].getD k.val ""
  | .M => "m"
  | .E => ""
  | .T k => ["t0", "t1", "t2"].getD k.val ""
  | .U => "u"
  | .P k => ["p0", "p1", "p2", "p3", "p4"].getD k.val ""
  | .C k => ["c0", "c1", "c2", "c3", "c4"].getD k.val ""
  | .A k => ["a", "b", "c"].getD k.val ""
  | .ann => "ann"
  | .bob => "bob"
theorem Tx.ok : ∀ x : Tx, PyData.canLay0 (.str x.s) = true
  | .N 0 => by decide +kernel
  | .N 1 => by decide +kernel
  | .N 2 => by decide +kernel
  | .N 3 => by decide +kernel
  | .M => by decide +kernel
  | .E => by decide +kernel
  | .T 0 => by decide +kernel
  | .T 1 => by decide +kernel
  | .T 2 => by decide +kernel
  | .U => by decide +kernel
  | .P 0 => by decide +kernel
  | .P 1 => by decide +kernel
  | .P 2 => by decide +kernel
  | .P 3 => by decide +kernel
  | .P 4 => by decide +kernel
  | .C 0 => by decide +kernel
  | .C 1 => by decide +kernel
  | .C 2 => by decide +kernel
  | .C 3 => by decide +kernel
  | .C 4 => by decide +kernel
  | .A 0 => by decide +kernel
  | .A 1 => by decide +kernel
  | .A 2 => by decide +kernel
  | .ann => by decide +kernel
  | .bob => by decide +kernel
abbrev Ln := Line Tx
abbrev Ft := Fate Tx
def kdS : Kd → Str
  | .prose => "prose"
  | .head => "head"
  | .code => "code"
def eLn (l : Ln) : PyData := .tuple [.str (kdS l.kd), .str l.tx.s]
def eNm : Nm → PyData
  | .start k => .tuple [.int 0, .tuple [], .int k]
  | .put n o k => .tuple [.int n, eNm o, .int k]
def eCh : Chg Tx → PyData
  | .keep => .tuple [.str "keep"]
  | .drop => .tuple [.str "drop"]
  | .text t => .tuple [.str "text", .str t.s]
def eBh (l : List Tx) : PyData := .tuple (l.map fun t => .str t.s)
def eFt (f : Ft) : PyData := .tuple [.tuple [], eCh f.chg, eBh f.behind]
def eRow (r : Row Tx) : PyData := .tuple [eNm r.nm, .bool r.up, eLn r.line, .int r.from_]

/-! ### data of tuples that are tracked -/
mutual
inductive Tp (H : Hp) : V → PyData → Prop
  | bl (b : Bool) : Tp H (.bl b) (.bool b)
  | int (i : Int) : Tp H (.int i) (.int i)
  | str (x : Str) : Tp H (.str x) (.str x)
  | tup {a : Addr} {xs : List V} {ds : List PyData} : H a = some (.tup xs) → Tps H xs ds → Tp H (.ref a) (.tuple ds)
inductive Tps (H : Hp) : List V → List PyData → Prop
  | nil : Tps H [] []
  | cons {v : V} {vs : List V} {d : PyData} {ds : List PyData} : Tp H v d → Tps H vs ds → Tps H (v :: vs) (d :: ds)
end
/-- tuples stay -/
def Tk (H H' : Hp) : Prop := ∀ a xs, H a = some (.tup xs) → H' a = some (.tup xs)
theorem Tk.rfl' (H : Hp) : Tk H H := fun _ _ h => h
theorem Tk.trans {H H1 H2 : Hp} (a : Tk H H1) (b : Tk H1 H2) : Tk H H2 := fun c xs h => b c xs (a c xs h)
theorem Tk.of {H H' : Hp} (s : Same H H') : Tk H H' := fun a xs h => s a _ h
theorem Tk.updN {H : Hp} {a : Addr} {o : HO} (h : ∀ xs, H a ≠ some (.tup xs)) : Tk H (L2.upd H a o) := fun b xs e => by
  rw [upd_ne (fun z => h xs (by rw [← z]; exact e))]
  exact e
mutual
theorem Tp.mono {H H' : Hp} (k : Tk H H') : ∀ {v : V} {d : PyData}, Tp H v d → Tp H' v d
  | _, _, .bl b => .bl b
  | _, _, .int i => .int i
  | _, _, .str x => .str x
  | _, _, .tup h t => .tup (k _ _ h) (Tps.mono k t)
theorem Tps.mono {H H' : Hp} (k : Tk H H') : ∀ {v : List V} {d : List PyData}, Tps H v d → Tps H' v d
  | _, _, .nil => .nil
  | _, _, .cons h t => .cons (Tp.mono k h) (Tps.mono k t)
end
mutual
theorem Tp.dp {K : PySem.W.Frag} {H : Hp} : ∀ {v : V} {d : PyData}, Tp H v d → Dp K H v d
  | _, _, .bl b => .bl b
  | _, _, .int i => .int i
  | _, _, .str x => .str x
  | _, _, .tup h t => .tup (.inl (.of h)) (Tps.dp t)
theorem Tps.dp {K : PySem.W.Frag} {H : Hp} : ∀ {v : List V} {d : List PyData}, Tps H v d → DpAll K H v d
  | _, _, .nil => .nil
  | _, _, .cons h t => .cons (Tp.dp h) (Tps.dp t)
end
section
variable {H : Hp} {xs ys : List V} {ds es : List PyData} {v : V} {d : PyData}
theorem Tps.len : ∀ {xs : List V} {ds : List PyData}, Tps H xs ds → xs.length = ds.length
  | _, _, .nil => rfl
  | _, _, .cons _ t => by rw [List.length_cons, List.length_cons, Tps.len t]
theorem Tps.get : ∀ {xs : List V} {ds : List PyData} {i : Nat} {d : PyData}, Tps H xs ds → ds[i]? = some d → ∃ v, xs[i]? = some v ∧ Tp H v d
  | _, _, _, _, .nil, e => by simp at e
  | _, _, 0, _, .cons h _, e => by simp at e; subst e; exact ⟨_, rfl, h⟩
  | _, _, i + 1, d, .cons _ t, e => by
    obtain ⟨v, h1, h2⟩ := Tps.get (i := i) (d := d) t (by simpa using e)
    exact ⟨v, by simpa using h1, h2⟩
theorem Tps.at : ∀ {xs : List V} {ds : List PyData} {i : Nat} {v : V}, Tps H xs ds → xs[i]? = some v → ∃ d, ds[i]? = some d ∧ Tp H v d
  | _, _, _, _, .nil, e => by simp at e
  | _, _, 0, _, .cons h _, e => by simp at e; subst e; exact ⟨_, rfl, h⟩
  | _, _, i + 1, v, .cons _ t, e => by
    obtain ⟨d, h1, h2⟩ := Tps.at (i := i) (v := v) t (by simpa using e)
    exact ⟨d, by simpa using h1, h2⟩
theorem Tps.app : ∀ {xs ys : List V} {ds es : List PyData}, Tps H xs ds → Tps H ys es → Tps H (xs ++ ys) (ds ++ es)
  | _, _, _, _, .nil, s => s
  | _, _, _, _, .cons h t, s => .cons h (Tps.app t s)
theorem Tps.one (h : Tp H v d) : Tps H [v] [d] := .cons h .nil
theorem Tps.set : ∀ {xs : List V} {ds : List PyData} (i : Nat), Tps H xs ds → Tp H v d → Tps H (xs.set i v) (ds.set i d)
  | _, _, _, .nil, _ => .nil
  | _, _, 0, .cons _ t, h => .cons h t
  | _, _, i + 1, .cons q t, h => .cons q (Tps.set i t h)
theorem Tps.take : ∀ {xs : List V} {ds : List PyData} (n : Nat), Tps H xs ds → Tps H (xs.take n) (ds.take n)
  | _, _, 0, _ => .nil
  | _, _, _ + 1, .nil => .nil
  | _, _, n + 1, .cons h t => .cons h (Tps.take n t)
theorem Tps.drop : ∀ {xs : List V} {ds : List PyData} (n : Nat), Tps H xs ds → Tps H (xs.drop n) (ds.drop n)
  | _, _, 0, h => h
  | _, _, _ + 1, .nil => .nil
  | _, _, n + 1, .cons _ t => Tps.drop n t
theorem Tp.tupE {ds : List PyData} (h : Tp H v (.tuple ds)) : ∃ a xs, v = .ref a ∧ H a = some (.tup xs) ∧ Tps H xs ds := by
  cases h with
  | tup h t => exact ⟨_, _, rfl, h, t⟩
theorem Tp.intE {i : Int} (h : Tp H v (.int i)) : v = .int i := by cases h; rfl
theorem Tp.strE {x : Str} (h : Tp H v (.str x)) : v = .str x := by cases h; rfl
theorem Tp.blE {b : Bool} (h : Tp H v (.bool b)) : v = .bl b := by cases h; rfl
theorem Tps.nilE (h : Tps H xs []) : xs = [] := by cases h; rfl
theorem Tps.consE (h : Tps H xs (d :: ds)) : ∃ v vs, xs = v :: vs ∧ Tp H v d ∧ Tps H vs ds := by
  cases h with
  | cons h t => exact ⟨_, _, rfl, h, t⟩
/-- a tuple of two, of three, of four -/
theorem Tp.two {d e : PyData} (h : Tp H v (.tuple [d, e])) : ∃ a x y, v = .ref a ∧ H a = some (.tup [x, y]) ∧ Tp H x d ∧ Tp H y e := by
  obtain ⟨a, xs, rfl, ha, t⟩ := h.tupE
  obtain ⟨x, _, rfl, hx, t⟩ := t.consE
  obtain ⟨y, _, rfl, hy, t⟩ := t.consE
  obtain rfl := t.nilE
  exact ⟨a, x, y, rfl, ha, hx, hy⟩
theorem Tp.three {d e f : PyData} (h : Tp H v (.tuple [d, e, f])) : ∃ a x y z, v = .ref a ∧ H a = some (.tup [x, y, z]) ∧ Tp H x d ∧ Tp H y e ∧ Tp H z f := by
  obtain ⟨a, xs, rfl, ha, t⟩ := h.tupE
  obtain ⟨x, _, rfl, hx, t⟩ := t.consE
  obtain ⟨y, _, rfl, hy, t⟩ := t.consE
  obtain ⟨z, _, rfl, hz, t⟩ := t.consE
  obtain rfl := t.nilE
  exact ⟨a, x, y, z, rfl, ha, hx, hy, hz⟩
theorem Tp.four {d e f g : PyData} (h : Tp H v (.tuple [d, e, f, g])) : ∃ a x y z u, v = .ref a ∧ H a = some (.tup [x, y, z, u]) ∧ Tp H x d ∧ Tp H y e ∧ Tp H z f ∧ Tp H u g := by
  obtain ⟨a, xs, rfl, ha, t⟩ := h.tupE
  obtain ⟨x, _, rfl, hx, t⟩ := t.consE
  obtain ⟨y, _, rfl, hy, t⟩ := t.consE
  obtain ⟨z, _, rfl, hz, t⟩ := t.consE
  obtain ⟨u, _, rfl, hu, t⟩ := t.consE
  obtain rfl := t.nilE
  exact ⟨a, x, y, z, u, rfl, ha, hx, hy, hz, hu⟩
end
theorem Tps.ints {H : Hp} : ∀ (l : List Int), Tps H (l.map V.int) (l.map PyData.int)
  | [] => .nil
  | i :: r => .cons (.int i) (Tps.ints r)
theorem Tps.strs {H : Hp} : ∀ (l : List Str), Tps H (l.map V.str) (l.map PyData.str)
  | [] => .nil
  | x :: r => .cons (.str x) (Tps.strs r)
theorem Tps.strsE {H : Hp} : ∀ {l : List Str} {xs : List V}, Tps H xs (l.map PyData.str) → xs = l.map V.str
  | [], _, h => h.nilE
  | x :: r, _, h => by
    obtain ⟨v, vs, rfl, h1, h2⟩ := Tps.consE h
    rw [h1.strE, Tps.strsE h2]; rfl
/-- a list of data -/
def Lst (H : Hp) (a : Addr) (ds : List PyData) : Prop := ∃ xs, H a = some (.lst xs) ∧ Tps H xs ds

/-! ### equality of data -/
theorem lay_all {α : Type} (f : α → PyData) (h : ∀ a, PyData.canLay0 (f a) = true) : ∀ l : List α, PyData.canLayAll0 (l.map f) = true
  | [] => rfl
  | a :: r => by rw [List.map_cons, PyData.canLayAll0, h a, lay_all f h r]; rfl
theorem kd_ok : ∀ k : Kd, PyData.canLay0 (.str (kdS k)) = true
  | .prose => by decide +kernel
  | .head => by decide +kernel
  | .code => by decide +kernel
theorem ln_ok (l : Ln) : PyData.canLay0 (eLn l) = true := by
  show PyData.canLayAll0 [_, _] = true
  rw [PyData.canLayAll0, PyData.canLayAll0, kd_ok, l.tx.ok]; rfl
theorem nm_ok : ∀ n : Nm, PyData.canLay0 (eNm n) = true
  | .start k => rfl
  | .put n o k => by
    show PyData.canLayAll0 [_, _, _] = true
    rw [PyData.canLayAll0, PyData.canLayAll0, nm_ok o]; rfl
def Nm.dep : Nm → Nat
  | .start _ => 2
  | .put _ o _ => Nm.dep o + 1
theorem eqv3 (a b c d e f : PyData) : PyData.eqv (.tuple [a, b, c]) (.tuple [d, e, f]) = (PyData.eqv a d && (PyData.eqv b e && PyData.eqv c f)) := by
  rw [PyData.eqv, PyData.eqvAll, PyData.eqvAll, PyData.eqvAll, PyData.eqvAll, Bool.and_true]
theorem eqvI (i j : Int) : PyData.eqv (.int i) (.int j) = decide (i = j) := by
  rw [PyData.eqv]
  by_cases h : i = j <;> simp [h]
theorem eqv_tn (o : Nm) : PyData.eqv (.tuple []) (eNm o) = false ∧ PyData.eqv (eNm o) (.tuple []) = false := by
  cases o <;> exact ⟨rfl, rfl⟩
theorem eqv_nm : ∀ a b : Nm, PyData.eqv (eNm a) (eNm b) = decide (a = b)
  | .start j, .start k => by
    rw [eNm, eNm, eqv3, eqvI, eqvI, show PyData.eqv (.tuple []) (.tuple []) = true from rfl]
    by_cases h : j = k
    · subst h; simp
    · have : ¬ (j : Int) = k := by omega
      simp [h, this]
  | .start j, .put n o k => by
    rw [eNm, eNm, eqv3, (eqv_tn o).1]
    simp
  | .put n o k, .start j => by
    rw [eNm, eNm, eqv3, (eqv_tn o).2]
    simp
  | .put n o k, .put m q j => by
    rw [eNm, eNm, eqv3, eqvI, eqvI, eqv_nm o q]
    by_cases h : n = m ∧ o = q ∧ k = j
    · obtain ⟨rfl, rfl, rfl⟩ := h; simp
    · have h2 : ¬ (Nm.put n o k = Nm.put m q j) := fun e => h (by injection e with a b c; exact ⟨a, b, c⟩)
      rw [decide_eq_false h2]
      by_cases h3 : n = m
      · by_cases h4 : o = q
        · have h5 : ¬ k = j := fun e => h ⟨h3, h4, e⟩
          have : ¬ (k : Int) = j := by omega
          simp [this]
        · simp [h4]
      · have : ¬ (n : Int) = m := by omega
        simp [this]
end Wh

namespace Wh
open PySem PySem.Spec PyProof.Rows L2 Wf
/-- the built-ins that the text leaves as they are -/
structure Bt (mg : Str → Option Value) : Prop where
  len : mg "len" = none
  range : mg "range" = none
  str : mg "str" = none
  sorted : mg "sorted" = none
  dict : mg "dict" = none
  list : mg "list" = none
  tuple : mg "tuple" = none
  any : mg "any" = none
  all : mg "all" = none
  enumerate : mg "enumerate" = none
  reversed : mg "reversed" = none
abbrev sCell : Stmt := top 24
abbrev sDraws : Stmt := top 25
def spCell (K : PySem.W.Frag) : Sp := fun vs H Q _ => ∃ (a : Addr) (ns : List Int) (k : Int), vs = [.ref a, .int k] ∧ SqL K H a (ns.map V.int) ∧ 0 ≤ k ∧ ∀ z : Int, Q (.int z) H
def spDraws : Sp := fun vs H Q _ => ∃ (c : Int) (n : Nat), vs = [.int c, .int n] ∧ n ≤ 60 ∧ ∀ H' l (ds : List Int), ds.length = n → Same H H' → H l = none → H' l = some (.lst (ds.map V.int)) → Q (.ref l) H'
section
variable {P : Program} {w : World} {K : PySem.W.Frag} {mg : Str → Option Value} {base : Heap}
theorem scCell : FnScope ["_law_script", "_law_k"] ["_law_script", "_law_k"] (defScope sCell) := ⟨rfl, rfl, rfl, by decide +kernel, rfl, by decide +kernel, by decide +kernel⟩
theorem ok_cell {f : Addr} {fd : FuncData} (F : FnD K "_law_cell" "_law_cell" sCell f fd) (T : Bt mg) (hm : mg "_law_cell" = some (.ref f)) : Fn P w K mg base CX0 1 "_law_cell" (spCell K) := by
  refine ⟨f, fd, ["_law_script", "_law_k"], fok F scCell (fun vs H Q E h => ?_) (fun cdv A outer s H vs Q E hr h => ?_), hm, F.kp, F.bindsN fun _ _ _ _ _ _ us hl => match us, hl with | [_, _], _ => rfl⟩
  · obtain ⟨a, ns, k, rfl, _⟩ := h
    rfl
  · obtain ⟨a, ns, k, rfl, hS, hk, q⟩ := h
    refine ⟨_, pss_cons (ps_if (pt_cmpR op_lt (pv 1) (pe_callB call_len_seq (by rfl) T.len PySem.boot_len (pa_cons (pv 0) pa_nil)) (nomark _)) (pss_one (ps_ret (pe_ix ix_list (pv 0) (pv 1) (fun _ _ => rfl)))) pss_nil)
      (pss_one (ps_ret pe_int)), ?_⟩
    refine ⟨_, rfl, _, rfl, a, _, rfl, .inl hS, _, _, rfl, rfl, _, rfl, ?_⟩
    refine ite2 (fun c => ?_) (fun _ => q _)
    have c' : k < ((ns.map V.int).length : Int) := by simpa using c
    have hj : k.toNat < ns.length := by rw [List.length_map] at c'; omega
    refine ⟨_, rfl, _, rfl, a, _, k, _, rfl, rfl, hS, ?_, q (ns[k.toNat])⟩
    exact at_of (j := k.toNat) (by omega) (by rw [List.getElem?_map, List.getElem?_eq_getElem hj]; rfl)
theorem scDraws : FnScope ["_law_cell_here", "_law_count", "_law_found", "_law_is_wide", "_law_k", "_law_mixed"] ["_law_cell_here", "_law_count"] (defScope sDraws) := ⟨rfl, rfl, rfl, by decide +kernel, rfl, by decide +kernel, by decide +kernel⟩
theorem ok_draws {f : Addr} {fd : FuncData} (F : FnD K "_law_draws" "_law_draws" sDraws f fd) (T : Bt mg) (hm : mg "_law_draws" = some (.ref f)) : Fn P w K mg base CX0 1 "_law_draws" spDraws := by
  refine ⟨f, fd, ["_law_cell_here", "_law_count"], fok F scDraws (fun vs H Q E h => ?_) (fun cdv A outer s H vs Q E hr h => ?_), hm, F.kp, F.bindsN fun _ _ _ _ _ _ us hl => match us, hl with | [_, _], _ => rfl⟩
  · obtain ⟨c, n, rfl, _⟩ := h
    rfl
  · obtain ⟨c, n, rfl, hn, q⟩ := h
    refine ⟨_, pss_cons (ps_set (i := 2) scDraws.nd rfl (.inl rfl) (pe_lst pa_nil))
      (pss_cons (ps_set (i := 3) scDraws.nd rfl (.inl rfl) (pe_cmpR op_ge (pv 0) (pe_op op_pow pe_int pe_int) (nomark _)))
      (pss_cons (ps_for PassesOwn.never rfl (pi_range1 rfl T.range (pa_cons (pv 1) pa_nil)) (pg_name (i := 4) scDraws.nd rfl (.inl rfl))
        (pss_one (ps_if (pt_val (pv 3))
          (pss_cons (ps_expr (pe_bm PySem.F.plainAttrs_list PySem.F.slot_list_append PySem.F.type_list_append mt_append (pv 2) (pa_cons (pe_op op_mod (pv 0) pe_int) pa_nil)))
            (pss_one (ps_set (i := 0) scDraws.nd rfl (.inl rfl) (pe_op op_fdiv (pv 0) pe_int))))
          (pss_cons (ps_set (i := 5) scDraws.nd rfl (.inl rfl) (pe_op op_mod (pe_op op_add (pe_op op_mul (pv 0) pe_int) (pe_op op_mul (pv 4) pe_int)) pe_int))
            (pss_one (ps_expr (pe_bm PySem.F.plainAttrs_list PySem.F.slot_list_append PySem.F.type_list_append mt_append (pv 2)
              (pa_cons (pe_op op_mod (pe_op op_add (pe_op op_add (pe_op op_mul (pv 5) (pv 5)) (pe_op op_mul (pv 0) pe_int)) (pv 4)) pe_int) pa_nil))))))))
      (pss_one (ps_ret (pv 2))))), ?_⟩
    refine ⟨Nat.zero_le _, fun l nl => ?_⟩
    refine ⟨_, rfl, _, _, rfl, rfl, ⟨by decide, by decide, by decide⟩, _, _, rfl, rfl, ?_⟩
    refine ⟨_, rfl, n, rfl, by omega, by omega, for_range (lo := 0) (n := n) (fun i σ H' => ∃ (z : Int) (ds : List Int) (b : Bool) (v u : Option V), σ = [some (.int z), some (.int n), some (.ref l), some (.bl b), v, u] ∧ ds.length = i ∧ Same H H' ∧ H' l = some (.lst (ds.map V.int)))
      ⟨c, [], _, none, none, rfl, rfl, fun b o e => by rw [upd_ne (ne_of_none e nl)]; exact e, upd_same⟩ ?_ ?_⟩
    · rintro i σ H' hi ⟨z, ds, b, v, u, rfl, hd, s1, hl⟩
      have s2 : ∀ {x : Int}, Same H (upd H' l (.lst (ds.map V.int ++ [V.int x]))) := fun {x} b o e => by rw [upd_ne (ne_of_none e nl)]; exact s1 b o e
      have hz : ∀ x : Int, ds.map V.int ++ [V.int x] = (ds ++ [x]).map V.int := fun x => by rw [List.map_append]; rfl
      have hlen : (ds.map V.int).length < sizeLine := small1000 (by rw [List.length_map]; omega)
      refine ⟨_, rfl, b, rfl, ?_⟩
      cases b with
      | true =>
        refine iteT ?_
        refine ⟨_, rfl, .inl ⟨rfl, _, SqL.of hl⟩, _, rfl, _, _, rfl, rfl, (by show (0 : Int) < 1009; decide), l, _, _, rfl, rfl, hl, hlen, ?_⟩
        refine ⟨_, rfl, _, _, rfl, rfl, ⟨by decide, by decide⟩, ?_⟩
        exact ⟨_, ds ++ [z % 1009], true, _, _, rfl, by rw [List.length_append, hd]; rfl, s2, by rw [← hz]; exact upd_same⟩
      | false =>
        refine iteF ?_
        refine ⟨_, rfl, _, _, rfl, rfl, .inr (by decide), _, rfl, _, _, rfl, rfl, .inr (by decide), _, _, rfl, rfl, _, _, rfl, rfl, (by show (0 : Int) < 2147483647; decide), ?_⟩
        have hmx : 0 ≤ (z * 48271 + (0 + (i : Int)) * 69621) % 2147483647 ∧ (z * 48271 + (0 + (i : Int)) * 69621) % 2147483647 < 2147483647 := ⟨Int.emod_nonneg _ (by decide), Int.emod_lt_of_pos _ (by decide)⟩
        refine ⟨_, rfl, .inl ⟨rfl, _, SqL.of hl⟩, _, rfl, _, rfl, _, _, rfl, rfl, .inl (by omega), _, rfl, _, _, rfl, rfl, .inr (by decide), _, _, rfl, rfl, _, rfl, _, _, rfl, rfl, _, _, rfl, rfl, (by show (0 : Int) < 1000003; decide), l, _, _, rfl, rfl, hl, hlen, ?_⟩
        exact ⟨z, ds ++ [_], false, _, _, rfl, by rw [List.length_append, hd]; rfl, s2, by rw [← hz]; exact upd_same⟩
    · rintro σ H' ⟨z, ds, b, v, u, rfl, hd, s1, hl⟩
      exact ⟨_, rfl, q H' l ds hd s1 nl hl⟩
end
end Wh

/-! A rule of our own: for i, c in enumerate(a text). -/
namespace Wh
open PySem PySem.Spec PyProof.Rows L2 Wf
/-- a text's signs, each in a new pair with its place -/
def ItEt (z : Str) : It where
  go := fun i _ => i < z.cps.size
  yld := fun i H v H' => ∃ (T : Addr) (c : Nat), v = .ref T ∧ H T = none ∧ H' = upd H T (.tup [.int (i : Nat), .str ⟨#[c]⟩]) ∧ z.cps[i]? = some c
  stop := fun i _ => z.cps.size = i
theorem turn_et {P : Program} {w : World} {K : PySem.W.Frag} {elts : List Expr} {kk : Nat} {tpos : Pos} (z : Str) (tk : Tok) (e it : Addr) :
    Turn P w K (.Tuple elts kk tpos) (ItEt z) [e, it] e (fun i h => (∃ last, IsEnum h e it ((i : Nat) : Int) last) ∧ h.IsStrIter it (strIterType z) z tk i ∧ e ≠ it) where
  mem := List.mem_cons_self
  obj := fun i h st b hb => by
    obtain ⟨⟨last, h1⟩, ⟨o, h2, _, h3⟩, _⟩ := st
    rcases List.mem_cons.mp hb with q | q
    · exact ⟨_, by rw [q]; exact h1, fun v y => by cases y⟩
    · rw [List.mem_singleton.mp q]
      exact ⟨o, h2, fun v y => by rw [h3] at y; cases y⟩
  keep := fun i h h' st k => by
    obtain ⟨⟨last, h1⟩, ⟨o, h2, h3⟩, n⟩ := st
    exact ⟨⟨last, k e List.mem_cons_self _ h1⟩, ⟨o, k it (List.mem_cons_of_mem _ List.mem_cons_self) _ h2, h3⟩, n⟩
  item := by
    intro X eP ew eK hc i pins s σ H E I fo st lt
    subst eP ew eK
    obtain ⟨⟨last, h1⟩, h2, ne⟩ := st
    have e1 : e < s.heap.objs.size := Heap.lt_size h1
    have e2 : it < s.heap.objs.size := by
      obtain ⟨_, q, _⟩ := h2
      exact Heap.lt_size q
    have neL : e ∉ ([it] : List Addr) := fun q => ne (List.mem_singleton.mp q)
    have dr : Draws X.prog X.w X.A.in1 it [it] z.cps.size (fun i v => ∃ c u, z.cps[i]? = some c ∧ v = .str ⟨#[c]⟩ u) (fun i h => h.IsStrIter it (strIterType z) z tk i) := Draws.text (show X.A.in1.handled = none from I.ok.hd hc) it z tk
    refine wpAny_pyNext_enum_itemD dr h1 h2 lt ne neL fun x h' t2 hx ho h2' hT hsz hk => ?_
    obtain ⟨c, u, hcz, rfl⟩ := hx
    refine ⟨_, rfl, wpAny_letOwnedTupleGo_enum (s := { s with heap := h', toks := t2 + 1 }) ho fun h'' he2 sb => ?_⟩
    have hT2 : h''.get? s.heap.objs.size = some { cls := .type "tuple", data := .seq #[.int i t2, .str ⟨#[c]⟩ u] } := (sb.2 _ (Nat.ne_of_gt e1)).trans hT
    have ob : ObjOk X.prog X.w (upd H s.heap.objs.size (.tup [.int (i : Nat), .str ⟨#[c]⟩])) h'' s.heap.objs.size (.tup [.int (i : Nat), .str ⟨#[c]⟩]) :=
      ⟨(by show 2 ≤ sizeLine; decide), [.int i t2, .str ⟨#[c]⟩ u], .cons ⟨_, rfl⟩ (.cons ⟨_, rfl⟩ .nil), ⟨_, hT2, rfl, _, rfl⟩⟩
    have J : Inv X pins σ (upd H s.heap.objs.size (.tup [.int (i : Nat), .str ⟨#[c]⟩])) { s with heap := h'', toks := t2 + 1 } := by
      refine I.turnedNew (ch := [e, it]) (fun b o hb q => ?_) fo (Nat.le_refl _) ob
      have b1 : b ≠ e := fun y => hb (by rw [y]; exact List.mem_cons_self)
      have b2 : b ≠ it := fun y => hb (by rw [y]; exact List.mem_cons_of_mem _ List.mem_cons_self)
      exact (sb.2 b b1).trans (hk b o b1 b2 q)
    have ii : (((i + 1 : Nat)) : Int) = (i : Int) + 1 := by omega
    obtain ⟨o3, q1, q2⟩ := h2'
    refine ⟨.ref s.heap.objs.size, _, J, rfl, ⟨_, c, rfl, I.hok.fresh (Nat.le_refl _), rfl, hcz⟩, ⟨⟨.str ⟨#[c]⟩ u, by rw [ii]; exact he2⟩, ⟨o3, (sb.2 it (Ne.symm ne)).trans q1, q2⟩, ne⟩, fun b hb => ?_⟩
    have lb : b < s.heap.objs.size := by
      rcases List.mem_cons.mp hb with q | q
      · rw [q]; exact e1
      · rw [List.mem_singleton.mp q]; exact e2
    rw [upd_ne (Nat.ne_of_lt lb)]
    exact (fo b hb).1
  done := by
    intro X eP ew eK hc i pins s σ H E I fo st lt
    subst eP ew eK
    obtain ⟨⟨last, h1⟩, h2, ne⟩ := st
    obtain ⟨a1, a2, a3, a4, a5, a6⟩ := fo it (List.mem_cons_of_mem _ List.mem_cons_self)
    have lt' : z.cps.size = i := lt
    subst lt'
    have dr : Draws X.prog X.w X.A.in1 it [it] z.cps.size (fun i v => ∃ c u, z.cps[i]? = some c ∧ v = .str ⟨#[c]⟩ u) (fun i h => h.IsStrIter it (strIterType z) z tk i) := Draws.text (show X.A.in1.handled = none from I.ok.hd hc) it z tk
    exact wpAny_pyNext_enum_endD dr h1 h2 fun h' eb => ⟨rfl, I.turned (t' := s.toks) (fun b o hb q => eb b o hb q) a1 a2 a4 a5 a6⟩
  self := fun A i s Q E st h => by
    obtain ⟨⟨_, h1⟩, _⟩ := st
    exact wpAny_pyIter_enum h1 h
def iEt (ta : TA) : TI := fun σ H R => ta σ H fun vs H1 => ∃ z : Str, vs = [.str z] ∧ R (ItEt z) H1
theorem pi_enumT {X : Cx} {e : Expr} {ta : TA} {p pos tpos : Pos} {elts : List Expr} {kk : Nat} (hg : Gl X "enumerate") (hm : X.mg "enumerate" = none) (ha : PA X [e] ta) (hs : starEach [e] X.env = [(false, eval e X.env)] := by rfl) :
    PI X (.Tuple elts kk tpos) (.Call (.Name "enumerate" p) [e] [] pos) (iEt ta) := by
  constructor
  intro pins s σ H R I h
  refine Call_ (ld_blt I hg hm boot_enumerate (PyProof.Rows.callWith_type1 ?_ hs rfl))
  refine thn (ha.run pos pins s σ H _ I h) fun us s1 hh => ?_
  obtain ⟨vs, H1, I1, r1, z, rfl, q⟩ := hh
  match us, r1 with
  | [_], .cons ⟨tk, rfl⟩ .nil =>
    refine call_enumerate_str fun h' he hit hsz hk => wpAny_pyIter_enum he ?_
    refine ⟨s1.heap.objs.size + 1, [s1.heap.objs.size + 1, s1.heap.objs.size], _, _, H1, rfl, I1.kept (t' := s1.toks) hk, turn_et z tk (s1.heap.objs.size + 1) s1.heap.objs.size, ⟨⟨.none, he⟩, hit, Nat.succ_ne_self _⟩, fun b hb => ?_, q⟩
    have le : s1.heap.objs.size ≤ b := by
      rcases List.mem_cons.mp hb with y | y
      · rw [y]; exact Nat.le_succ _
      · rw [List.mem_singleton.mp y]; exact Nat.le_refl _
    exact I1.fpOk le (I1.hok.fresh le)
/-- the walk of it -/
theorem walk_et {z : Str} : Walk (ItEt z) z.cps.size (fun _ => True) (fun i H v H' => ∃ (T : Addr) (c : Nat), v = .ref T ∧ H T = none ∧ H' = upd H T (.tup [.int (i : Nat), .str ⟨#[c]⟩]) ∧ z.cps[i]? = some c) :=
  ⟨fun _ _ h _ => h, fun _ _ => rfl, fun _ _ _ _ _ _ y => y⟩
end Wh

namespace Wh
open PySem PySem.Spec PyProof.Rows L2 Wf
theorem szT (n : Nat) (h : n ≤ 1000) : n ≤ sizeLine := Nat.le_of_lt (small1000 h)
section
variable {H : Hp} {p l : Addr} {xs : List V} {ds : List PyData} {v : V} {d : PyData} {o : HO}
theorem Tk.new (np : H p = none) : Tk H (upd H p o) := fun a ys e => by
  rw [upd_ne (ne_of_none e np)]
  exact e
theorem Tp.mk (np : H p = none) (t : Tps H xs ds) : Tp (upd H p (.tup xs)) (.ref p) (.tuple ds) := .tup upd_same (Tps.mono (Tk.new np) t)
theorem Tk.lst {ys : List V} (hl : H l = some (.lst xs)) : Tk H (upd H l (.lst ys)) := Tk.updN fun zs e => by
  rw [hl] at e
  cases e
theorem Lst.push (hl : H l = some (.lst xs)) (t : Tps H xs ds) (h : Tp H v d) : Lst (upd H l (.lst (xs ++ [v]))) l (ds ++ [d]) :=
  ⟨_, upd_same, (Tps.mono (Tk.lst hl) t).app (.one (Tp.mono (Tk.lst hl) h))⟩
theorem snew (np : H p = none) : Same H (upd H p o) := fun b u e => by
  rw [upd_ne (ne_of_none e np)]
  exact e
/-- a change of what was not there at first -/
theorem sat {H0 H' : Hp} {a : Addr} (s : Same H0 H') (n : H0 a = none) : Same H0 (upd H' a o) := fun b u e => by
  rw [upd_ne (ne_of_none e n)]
  exact s b u e
end
/-! ### a document of the start -/
def okLn (l : Ln) : Bool := match l.kd, l.tx with
  | .prose, .P _ => true
  | .head, .A _ => true
  | .code, .C _ => true
  | _, _ => false
def sec : Bool → List Ln → Bool
  | _, [] => true
  | b, l :: r => match l.kd with
    | .prose => sec false r
    | .head => sec true r
    | .code => b && sec b r
def secEnd : Bool → List Ln → Bool
  | b, [] => b
  | b, l :: r => match l.kd with
    | .prose => secEnd false r
    | .head => secEnd true r
    | .code => secEnd b r
theorem sec_app : ∀ (b : Bool) (l m : List Ln), sec b (l ++ m) = (sec b l && sec (secEnd b l) m)
  | b, [], m => by simp [sec, secEnd]
  | b, ⟨k, t⟩ :: r, m => by
    cases k with
    | prose => exact sec_app false r m
    | head => exact sec_app true r m
    | code =>
      show (b && sec b (r ++ m)) = ((b && sec b r) && sec (secEnd b r) m)
      rw [sec_app b r m, Bool.and_assoc]
theorem secEnd_app : ∀ (b : Bool) (l m : List Ln), secEnd b (l ++ m) = secEnd (secEnd b l) m
  | b, [], m => rfl
  | b, ⟨k, t⟩ :: r, m => by
    cases k with
    | prose => exact secEnd_app false r m
    | head => exact secEnd_app true r m
    | code => exact secEnd_app b r m
structure DocOk (d : List Ln) : Prop where
  ok : ∀ l ∈ d, okLn l = true
  sec : sec false d = true
  last : secEnd false d = true
theorem DocOk.app {d m : List Ln} (h : DocOk d) (h1 : ∀ l ∈ m, okLn l = true) (h2 : Wh.sec true m = true) (h3 : secEnd true m = true) : DocOk (d ++ m) :=
  ⟨fun l hl => (List.mem_append.mp hl).elim (h.ok l) (h1 l), by rw [sec_app, h.sec, h.last, h2]; rfl, by rw [secEnd_app, h.last, h3]⟩
/-- "p" + str(n) and the like -/
theorem five_of {n : Int} (h0 : 0 ≤ n) (h1 : n < 5) : n = 0 ∨ n = 1 ∨ n = 2 ∨ n = 3 ∨ n = 4 := by omega
theorem tx_P {n : Int} (h0 : 0 ≤ n) (h1 : n < 5) : ∃ k : Fin 5, (("p" : Str) ++ (toString n : Str)) = (Tx.P k).s := by
  rcases five_of h0 h1 with rfl | rfl | rfl | rfl | rfl
  · exact ⟨0, by decide +kernel⟩
  · exact ⟨1, by decide +kernel⟩
  · exact ⟨2, by decide +kernel⟩
  · exact ⟨3, by decide +kernel⟩
  · exact ⟨4, by decide +kernel⟩
theorem tx_C {n : Int} (h0 : 0 ≤ n) (h1 : n < 5) : ∃ k : Fin 5, (("c" : Str) ++ (toString n : Str)) = (Tx.C k).s := by
  rcases five_of h0 h1 with rfl | rfl | rfl | rfl | rfl
  · exact ⟨0, by decide +kernel⟩
  · exact ⟨1, by decide +kernel⟩
  · exact ⟨2, by decide +kernel⟩
  · exact ⟨3, by decide +kernel⟩
  · exact ⟨4, by decide +kernel⟩
theorem tx_A {n : Int} (h0 : 0 ≤ n) (h1 : n < 3) : ∃ (k : Fin 3) (c : Nat), ("abc" : Str).cps[n.toNat]? = some c ∧ (⟨#[c]⟩ : Str) = (Tx.A k).s := by
  have : n = 0 ∨ n = 1 ∨ n = 2 := by omega
  rcases this with rfl | rfl | rfl
  · exact ⟨0, 97, by decide +kernel, by decide +kernel⟩
  · exact ⟨1, 98, by decide +kernel, by decide +kernel⟩
  · exact ⟨2, 99, by decide +kernel, by decide +kernel⟩
theorem small_len {n : Int} (h0 : 0 ≤ n) (h1 : n < 5) : (toString n : Str).length = 1 := by
  rcases five_of h0 h1 with rfl | rfl | rfl | rfl | rfl <;> decide +kernel
theorem log_small {n : Int} (h0 : 0 ≤ n) (h1 : n < 1000) : n.natAbs.log2 < 1920 := by
  have h2 : n.natAbs < 2 ^ 1920 := Nat.lt_of_lt_of_le (show n.natAbs < 1024 by omega) (by
    have : (2 : Nat) ^ 10 ≤ 2 ^ 1920 := Nat.pow_le_pow_right (by decide) (by decide)
    exact this)
  by_cases h3 : n.natAbs = 0
  · rw [h3]; decide
  · exact (Nat.log2_lt h3).mpr h2
abbrev sStart : Stmt := top 27
def spStart (K : PySem.W.Frag) : Sp := fun vs H Q _ => ∃ (a : Addr) (ns : List Int) (n : Nat), vs = [.ref a, .int n] ∧ SqL K H a (ns.map V.int) ∧ n ≤ 14 ∧
  ∀ H' p (doc : List Ln), DocOk doc → 2 ≤ doc.length → doc.length ≤ 2 + 2 * n → Same H H' → Tp H' (.ref p) (.tuple (doc.map eLn)) → Q (.ref p) H'
section
variable {P : Program} {w : World} {K : PySem.W.Frag} {mg : Str → Option Value} {base : Heap}
theorem scStart : FnScope ["_law_script", "_law_count", "_law_document", "_law_k", "_law_draws_here"] ["_law_script", "_law_count"] (defScope sStart) := ⟨rfl, rfl, rfl, by decide +kernel, rfl, by decide +kernel, by decide +kernel⟩
theorem ok_start {f : Addr} {fd : FuncData} (F : FnD K "_law_start" "_law_start" sStart f fd) (T : Bt mg) (hm : mg "_law_start" = some (.ref f)) (GC : Fn P w K mg base CX0 1 "_law_cell" (spCell K)) (GD : Fn P w K mg base CX0 1 "_law_draws" spDraws) :
    Fn P w K mg base CX0 2 "_law_start" (spStart K) := by
  refine ⟨f, fd, ["_law_script", "_law_count"], fok F scStart (fun vs H Q E h => ?_) (fun cdv A outer s H vs Q E hr h => ?_), hm, F.kp, F.bindsN fun _ _ _ _ _ _ us hl => match us, hl with | [_, _], _ => rfl⟩
  · obtain ⟨a, ns, n, rfl, _⟩ := h
    rfl
  · obtain ⟨a, ns, n, rfl, hS, hn, q⟩ := h
    refine ⟨_, pss_cons (ps_set (i := 2) scStart.nd rfl (.inl rfl) (pe_lst (pa_cons (pe_tup (pa_cons pe_str (pa_cons pe_str pa_nil))) (pa_cons (pe_tup (pa_cons pe_str (pa_cons pe_str pa_nil))) pa_nil))))
      (pss_cons (ps_for PassesOwn.never rfl (pi_range1 rfl T.range (pa_cons (pv 1) pa_nil)) (pg_name (i := 3) scStart.nd rfl (.inl rfl))
        (pss_cons (ps_set (i := 4) scStart.nd rfl (.inl rfl) (pe_fn GD hr (by decide) pass0 (pa_cons (pe_fn GC hr (by decide) pass0 (pa_cons (pv 0) (pa_cons (pe_op op_add pe_int (pv 3)) pa_nil))) (pa_cons pe_int pa_nil))))
          (pss_one (ps_if (pt_cmpR op_eq (pe_op op_mod (pe_ix ix_list (pv 4) pe_int (fun _ _ => rfl)) pe_int) pe_int (nomark _))
            (pss_one (ps_expr (pe_bm PySem.F.plainAttrs_list PySem.F.slot_list_append PySem.F.type_list_append mt_append (pv 2) (pa_cons (pe_tup (pa_cons pe_str (pa_cons (pe_item_str pe_str (pe_op op_mod (pe_ix ix_list (pv 4) pe_int (fun _ _ => rfl)) pe_int) (fun _ _ => rfl)) pa_nil))) pa_nil))))
            (pss_one (ps_if (pt_cmpR op_eq (pe_op op_mod (pe_ix ix_list (pv 4) pe_int (fun _ _ => rfl)) pe_int) pe_int (nomark _))
                (pss_cons (ps_expr (pe_bm PySem.F.plainAttrs_list PySem.F.slot_list_append PySem.F.type_list_append mt_append (pv 2) (pa_cons (pe_tup (pa_cons pe_str (pa_cons (pe_op op_add_str pe_str (pe_callTy call_str_int (by rfl) T.str (by decide +kernel) (pa_cons (pe_op op_mod (pe_ix ix_list (pv 4) pe_int (fun _ _ => rfl)) pe_int) pa_nil))) pa_nil))) pa_nil)))
                  (pss_one (ps_expr (pe_bm PySem.F.plainAttrs_list PySem.F.slot_list_append PySem.F.type_list_append mt_append (pv 2) (pa_cons (pe_tup (pa_cons pe_str (pa_cons pe_str pa_nil))) pa_nil)))))
                (pss_one (ps_expr (pe_bm PySem.F.plainAttrs_list PySem.F.slot_list_append PySem.F.type_list_append mt_append (pv 2) (pa_cons (pe_tup (pa_cons pe_str (pa_cons (pe_op op_add_str pe_str (pe_callTy call_str_int (by rfl) T.str (by decide +kernel) (pa_cons (pe_op op_mod (pe_ix ix_list (pv 4) pe_int (fun _ _ => rfl)) pe_int) pa_nil))) pa_nil))) pa_nil))))))))))
      (pss_one (ps_ret (pe_callTy call_tuple_of (by rfl) T.tuple (by decide +kernel) (pa_cons (pv 2) pa_nil))))), ?_⟩
    refine ⟨szT 2 (by decide), fun p1 n1 => ⟨szT 2 (by decide), fun p2 n2 => ⟨szT 2 (by decide), fun l nl => ?_⟩⟩⟩
    have t0 : Tps (upd (upd H p1 (.tup [.str "prose", .str "p0"])) p2 (.tup [.str "head", .str "a"])) [.ref p1, .ref p2] (([⟨.prose, .P 0⟩, ⟨.head, .A 0⟩] : List Ln).map eLn) :=
      .cons (Tp.mono (Tk.new n2) (Tp.mk n1 (.cons (.str _) (.one (.str _))))) (.one (Tp.mk n2 (.cons (.str _) (.one (.str _)))))
    have s0 : Same H (upd (upd (upd H p1 (.tup [.str "prose", .str "p0"])) p2 (.tup [.str "head", .str "a"])) l (.lst [.ref p1, .ref p2])) := ((snew n1).trans (snew n2)).trans (snew nl)
    have hl0 : H l = none := ((snew n1).trans (snew n2)).free nl
    refine ⟨_, rfl, n, rfl, by omega, by omega, for_range (lo := 0) (n := n) (fun i σ H' => ∃ (doc : List Ln) (u v : Option V), σ = [some (.ref a), some (.int n), some (.ref l), u, v] ∧ DocOk doc ∧ 2 ≤ doc.length ∧ doc.length ≤ 2 + 2 * i ∧ Same H H' ∧ Lst H' l (doc.map eLn))
      ⟨[⟨.prose, .P 0⟩, ⟨.head, .A 0⟩], none, none, rfl, ⟨by decide, rfl, rfl⟩, Nat.le_refl _, Nat.le_refl _, s0, ⟨_, upd_same, Tps.mono (Tk.new nl) t0⟩⟩ ?_ ?_⟩
    · rintro i σ H' hi ⟨doc, u, v, rfl, hD, h2, hle, s1, xs, hl, ht⟩
      refine ⟨_, rfl, _, rfl, _, _, rfl, rfl, a, ns, _, rfl, s1.seq hS, by omega, fun z => ⟨z, 2, rfl, by decide, fun H2 l2 ds hd s2 nl2 hl2 => ?_⟩⟩
      have sH2 : Same H H2 := s1.trans s2
      have hl' : H2 l = some (.lst xs) := s2 _ _ hl
      have ht' := Tps.mono (Tk.of s2) ht
      have hx : xs.length = doc.length := by rw [ht.len, List.length_map]
      obtain ⟨d0, d1, rfl⟩ : ∃ d0 d1, ds = [d0, d1] := match ds, hd with | [d0, d1], _ => ⟨d0, d1, rfl⟩
      have m5 : 0 ≤ d1 % 5 ∧ d1 % 5 < 5 := ⟨Int.emod_nonneg _ (by decide), Int.emod_lt_of_pos _ (by decide)⟩
      have m3 : 0 ≤ d1 % 3 ∧ d1 % 3 < 3 := ⟨Int.emod_nonneg _ (by decide), Int.emod_lt_of_pos _ (by decide)⟩
      have done : ∀ (H3 : Hp) (m : List Ln) (u v : Option V), (∀ x ∈ m, okLn x = true) → sec true m = true → secEnd true m = true → m.length ≤ 2 → Same H H3 → Lst H3 l (doc.map eLn ++ m.map eLn) →
          ∃ (doc' : List Ln) (u' v' : Option V), [some (V.ref a), some (.int n), some (.ref l), u, v] = [some (V.ref a), some (.int n), some (.ref l), u', v'] ∧ DocOk doc' ∧ 2 ≤ doc'.length ∧ doc'.length ≤ 2 + 2 * (i + 1) ∧ Same H H3 ∧ Lst H3 l (doc'.map eLn) :=
        fun H3 m u v a1 a2 a3 a4 a5 a6 => ⟨doc ++ m, u, v, rfl, hD.app a1 a2 a3, by rw [List.length_append]; omega, by rw [List.length_append]; omega, a5, by rw [List.map_append]; exact a6⟩
      refine ⟨_, rfl, l2, _, 0, _, rfl, rfl, SqL.of hl2, at_of (j := 0) rfl rfl, _, _, rfl, rfl, (by show (0 : Int) < 6; decide), rfl, _, rfl, ?_⟩
      refine ite2 (fun _ => ?_) (fun _ => ?_)
      · refine ⟨_, rfl, .inl ⟨rfl, _, SqL.of hl'⟩, ?_⟩
        obtain ⟨k, c, hc, ek⟩ := tx_A m3.1 m3.2
        refine ⟨_, rfl, l2, _, 1, _, rfl, rfl, SqL.of hl2, at_of (j := 1) rfl rfl, _, _, rfl, rfl, (by show (0 : Int) < 3; decide), _, _, c, rfl, rfl, m3.1, by omega, ?_, hc, szT 2 (by decide), fun p np => ?_⟩
        · have : (("abc" : Str).length : Int) = 3 := by decide +kernel
          rw [this]; exact m3.2
        have tp : Tp (upd H2 p (.tup [.str "head", .str ⟨#[c]⟩])) (.ref p) (eLn ⟨.head, .A k⟩) := by
          have := Tp.mk (xs := [.str "head", .str ⟨#[c]⟩]) (ds := [.str "head", .str ⟨#[c]⟩]) np (.cons (.str _) (.one (.str _)))
          rw [ek] at this ⊢
          exact this
        have hlp := (snew (o := .tup [.str "head", .str ⟨#[c]⟩]) np) _ _ hl'
        refine ⟨l, xs, _, rfl, rfl, hlp, small1000 (by omega), ?_⟩
        exact done _ [⟨.head, .A k⟩] _ _ (by intro x hx; rcases List.mem_singleton.mp hx with rfl; rfl) rfl rfl (by show 1 ≤ 2; decide) (sat (sH2.trans (snew np)) hl0) (Lst.push hlp (Tps.mono (Tk.new np) ht') tp)
      · refine ⟨_, rfl, l2, _, 0, _, rfl, rfl, SqL.of hl2, at_of (j := 0) rfl rfl, _, _, rfl, rfl, (by show (0 : Int) < 6; decide), rfl, _, rfl, ?_⟩
        refine ite2 (fun _ => ?_) (fun _ => ?_)
        · obtain ⟨k, ek⟩ := tx_P m5.1 m5.2
          refine ⟨_, rfl, .inl ⟨rfl, _, SqL.of hl'⟩, ?_⟩
          refine ⟨_, rfl, l2, _, 1, _, rfl, rfl, SqL.of hl2, at_of (j := 1) rfl rfl, _, _, rfl, rfl, (by show (0 : Int) < 5; decide), _, rfl, log_small m5.1 (by omega), _, _, rfl, rfl, ?_, szT 2 (by decide), fun p np => ?_⟩
          · rw [small_len m5.1 m5.2]; decide +kernel
          have tp : Tp (upd H2 p (.tup [.str "prose", .str (("p" : Str) ++ (toString (d1 % 5) : Str))])) (.ref p) (eLn ⟨.prose, .P k⟩) := by
            rw [ek]
            exact Tp.mk (xs := [.str "prose", .str (Tx.P k).s]) (ds := [.str "prose", .str (Tx.P k).s]) np (.cons (.str _) (.one (.str _)))
          have hlp := (snew (o := .tup [.str "prose", .str (("p" : Str) ++ (toString (d1 % 5) : Str))]) np) _ _ hl'
          refine ⟨l, xs, _, rfl, rfl, hlp, small1000 (by omega), ?_⟩
          obtain ⟨ys, hl3, ht3⟩ := Lst.push hlp (Tps.mono (Tk.new np) ht') tp
          have s3 := sat (o := .lst (xs ++ [.ref p])) (sH2.trans (snew (o := .tup [.str "prose", .str (("p" : Str) ++ (toString (d1 % 5) : Str))]) np)) hl0
          refine ⟨_, rfl, .inl ⟨rfl, _, SqL.of hl3⟩, szT 2 (by decide), fun p2 np2 => ?_⟩
          have hlp2 := (snew (o := .tup [.str "head", .str "b"]) np2) _ _ hl3
          have hy : ys.length = doc.length + 1 := by rw [ht3.len, List.length_append, List.length_map]; rfl
          refine ⟨l, ys, _, rfl, rfl, hlp2, small1000 (by omega), ?_⟩
          have tp2 : Tp (upd _ p2 (.tup [.str "head", .str "b"])) (.ref p2) (eLn ⟨.head, .A 1⟩) := Tp.mk (xs := [.str "head", .str "b"]) (ds := [.str "head", .str "b"]) np2 (.cons (.str _) (.one (.str _)))
          have fin := Lst.push hlp2 (Tps.mono (Tk.new np2) ht3) tp2
          exact done _ [⟨.prose, .P k⟩, ⟨.head, .A 1⟩] _ _ (by
            intro x hx
            rcases List.mem_cons.mp hx with rfl | hx
            · rfl
            · rcases List.mem_singleton.mp hx with rfl; rfl) rfl rfl (by show 2 ≤ 2; decide) (sat (s3.trans (snew np2)) hl0) (by rw [List.append_assoc] at fin; exact fin)
        · obtain ⟨k, ek⟩ := tx_C m5.1 m5.2
          refine ⟨_, rfl, .inl ⟨rfl, _, SqL.of hl'⟩, ?_⟩
          refine ⟨_, rfl, l2, _, 1, _, rfl, rfl, SqL.of hl2, at_of (j := 1) rfl rfl, _, _, rfl, rfl, (by show (0 : Int) < 5; decide), _, rfl, log_small m5.1 (by omega), _, _, rfl, rfl, ?_, szT 2 (by decide), fun p np => ?_⟩
          · rw [small_len m5.1 m5.2]; decide +kernel
          have tp : Tp (upd H2 p (.tup [.str "code", .str (("c" : Str) ++ (toString (d1 % 5) : Str))])) (.ref p) (eLn ⟨.code, .C k⟩) := by
            rw [ek]
            exact Tp.mk (xs := [.str "code", .str (Tx.C k).s]) (ds := [.str "code", .str (Tx.C k).s]) np (.cons (.str _) (.one (.str _)))
          have hlp := (snew (o := .tup [.str "code", .str (("c" : Str) ++ (toString (d1 % 5) : Str))]) np) _ _ hl'
          refine ⟨l, xs, _, rfl, rfl, hlp, small1000 (by omega), ?_⟩
          exact done _ [⟨.code, .C k⟩] _ _ (by intro x hx; rcases List.mem_singleton.mp hx with rfl; rfl) rfl rfl (by show 1 ≤ 2; decide) (sat (sH2.trans (snew np)) hl0) (Lst.push hlp (Tps.mono (Tk.new np) ht') tp)
    · rintro σ H' ⟨doc, u, v, rfl, hD, h2, hle, s1, xs, hl, ht⟩
      refine ⟨_, rfl, l, _, rfl, .inl ⟨SqL.of hl, fun p np => ?_⟩⟩
      exact q _ p doc hD h2 hle (s1.trans (snew np)) (Tp.mk np ht)
end
end Wh

namespace Wh
open PySem PySem.Spec PyProof.Rows L2 Wf
/-- what is not come to -/
theorem pe_no {X : Cx} {e : Expr} : PE X e (fun _ _ _ => False) := ⟨fun _ _ _ _ _ _ h => h.elim⟩
/-! ### the written form -/
def wr (l : Ln) : Str := match l.kd with
  | .prose => l.tx.s
  | .head => ("= " : Str) ++ l.tx.s
  | .code => ("|" : Str) ++ l.tx.s
/-- the lines that a start has -/
theorem okLn_cases {P : Ln → Prop} (hp : ∀ k, P ⟨.prose, .P k⟩) (hh : ∀ k, P ⟨.head, .A k⟩) (hc : ∀ k, P ⟨.code, .C k⟩) : ∀ l : Ln, okLn l = true → P l
  | ⟨.prose, .P k⟩, _ => hp k
  | ⟨.head, .A k⟩, _ => hh k
  | ⟨.code, .C k⟩, _ => hc k
  | ⟨.prose, .N _⟩, h => by cases h
  | ⟨.prose, .M⟩, h => by cases h
  | ⟨.prose, .E⟩, h => by cases h
  | ⟨.prose, .T _⟩, h => by cases h
  | ⟨.prose, .U⟩, h => by cases h
  | ⟨.prose, .C _⟩, h => by cases h
  | ⟨.prose, .A _⟩, h => by cases h
  | ⟨.prose, .ann⟩, h => by cases h
  | ⟨.prose, .bob⟩, h => by cases h
  | ⟨.head, .N _⟩, h => by cases h
  | ⟨.head, .M⟩, h => by cases h
  | ⟨.head, .E⟩, h => by cases h
  | ⟨.head, .T _⟩, h => by cases h
  | ⟨.head, .U⟩, h => by cases h
  | ⟨.head, .P _⟩, h => by cases h
  | ⟨.head, .C _⟩, h => by cases h
  | ⟨.head, .ann⟩, h => by cases h
  | ⟨.head, .bob⟩, h => by cases h
  | ⟨.code, .N _⟩, h => by cases h
  | ⟨.code, .M⟩, h => by cases h
  | ⟨.code, .E⟩, h => by cases h
  | ⟨.code, .T _⟩, h => by cases h
  | ⟨.code, .U⟩, h => by cases h
  | ⟨.code, .P _⟩, h => by cases h
  | ⟨.code, .A _⟩, h => by cases h
  | ⟨.code, .ann⟩, h => by cases h
  | ⟨.code, .bob⟩, h => by cases h
theorem okLn_or : ∀ l : Ln, okLn l = true → (∃ k, l = ⟨.prose, .P k⟩) ∨ (∃ k, l = ⟨.head, .A k⟩) ∨ ∃ k, l = ⟨.code, .C k⟩ :=
  okLn_cases (fun k => .inl ⟨k, rfl⟩) (fun k => .inr (.inl ⟨k, rfl⟩)) (fun k => .inr (.inr ⟨k, rfl⟩))
theorem wr_len : ∀ l : Ln, okLn l = true → (wr l).length ≤ 3 ∧ ¬ (10 ∈ TL.tl (wr l)) :=
  okLn_cases (fun k => match k with | 0 => by decide +kernel | 1 => by decide +kernel | 2 => by decide +kernel | 3 => by decide +kernel | 4 => by decide +kernel)
    (fun k => match k with | 0 => by decide +kernel | 1 => by decide +kernel | 2 => by decide +kernel)
    (fun k => match k with | 0 => by decide +kernel | 1 => by decide +kernel | 2 => by decide +kernel | 3 => by decide +kernel | 4 => by decide +kernel)
theorem tx_len : ∀ x : Tx, x.s.length ≤ 3 := fun x => match x with
  | .N 0 | .N 1 | .N 2 | .N 3 | .M | .E | .T 0 | .T 1 | .T 2 | .U | .P 0 | .P 1 | .P 2 | .P 3 | .P 4 | .C 0 | .C 1 | .C 2 | .C 3 | .C 4 | .A 0 | .A 1 | .A 2 | .ann | .bob => by decide +kernel
theorem join_len (y : Str) : ∀ parts : List Str, (∀ p ∈ parts, p.length ≤ 3) → (Str.join y parts).length ≤ parts.length * (3 + y.length)
  | [], _ => Nat.zero_le _
  | [x], h => by
    show x.length ≤ _
    have := h x List.mem_cons_self
    rw [List.length_singleton]; omega
  | x :: z :: r, h => by
    show (x ++ y ++ Str.join y (z :: r)).length ≤ _
    rw [Str.length_append, Str.length_append]
    have h1 := h x List.mem_cons_self
    have h2 := join_len y (z :: r) fun p hp => h p (List.mem_cons_of_mem _ hp)
    rw [List.length_cons, Nat.add_mul]; omega
theorem sum_len : ∀ parts : List Str, (∀ p ∈ parts, p.length ≤ 3) → (parts.map (·.length)).sum ≤ parts.length * 3
  | [], _ => Nat.le_refl _
  | x :: r, h => by
    have h1 := h x List.mem_cons_self
    have h2 := sum_len r fun p hp => h p (List.mem_cons_of_mem _ hp)
    rw [List.map_cons, List.sum_cons, List.length_cons, Nat.add_mul]; omega
abbrev nl : Str := "\n"
def docText (d : List Ln) : Str := Txt.join nl (d.map wr)
theorem docText_len {d : List Ln} (h : ∀ l ∈ d, okLn l = true) : (docText d).length ≤ d.length * 4 := by
  unfold docText
  rw [TL.join_eq]
  have := join_len nl (d.map wr) fun p hp => by
    obtain ⟨l, hl, rfl⟩ := List.mem_map.mp hp
    exact (wr_len l (h l hl)).1
  rw [List.length_map] at this
  exact this
theorem docText_split {d : List Ln} (h : ∀ l ∈ d, okLn l = true) (hn : d ≠ []) : Txt.split (docText d) nl = d.map wr :=
  TL.split_join (s := 10) (S := []) (by decide +kernel) (by decide +kernel) (fun e => hn (List.map_eq_nil_iff.mp e)) fun p hp => by
    obtain ⟨l, hl, rfl⟩ := List.mem_map.mp hp
    exact (wr_len l (h l hl)).2
abbrev sWLine : Stmt := top 15
abbrev sWrite : Stmt := top 16
abbrev sSign : Stmt := top 9
abbrev sFault : Stmt := top 12
abbrev sUse : Stmt := top 11
abbrev sRLine : Stmt := top 13
abbrev sRead : Stmt := top 14
def spWLine : Sp := fun vs H Q _ => ∃ (v : V) (l : Ln), vs = [v] ∧ Tp H v (eLn l) ∧ Q (.str (wr l)) H
def spWrite : Sp := fun vs H Q _ => ∃ (v : V) (d : List Ln), vs = [v] ∧ Tp H v (.tuple (d.map eLn)) ∧ d.length ≤ 100 ∧ (∀ l ∈ d, okLn l = true) ∧ ∀ H', Same H H' → Q (.str (docText d)) H'
def spSign : Sp := fun vs H Q _ => ∃ (k : Fin 3), vs = [.str (Tx.A k).s] ∧ Q (.bl true) H
def spFault : Sp := fun vs H Q _ => ∃ (k : Fin 3), vs = [.str (wr ⟨.head, .A k⟩)] ∧ ∀ H', Same H H' → Q .non H'
def spUse : Sp := fun vs H Q _ => ∃ (k : Fin 5), vs = [.str (Tx.C k).s] ∧ Q .non H
def spRLine : Sp := fun vs H Q _ => ∃ (l : Ln), vs = [.str (wr l)] ∧ okLn l = true ∧ ∀ H' v, Same H H' → Tp H' v (eLn l) → Q v H'
def spRead : Sp := fun vs H Q _ => ∃ (d : List Ln), vs = [.str (docText d)] ∧ DocOk d ∧ d ≠ [] ∧ d.length ≤ 100 ∧ ∀ H' p, Same H H' → Tp H' (.ref p) (.tuple (d.map eLn)) → Q (.ref p) H'
section
variable {P : Program} {w : World} {K : PySem.W.Frag} {mg : Str → Option Value} {base : Heap}
theorem scWLine : FnScope ["line"] ["line"] (defScope sWLine) := ⟨rfl, rfl, rfl, by decide +kernel, rfl, by decide +kernel, by decide +kernel⟩
theorem ok_wline {f : Addr} {fd : FuncData} (F : FnD K "write_line" "write_line" sWLine f fd) (hm : mg "write_line" = some (.ref f)) : Fn P w K mg base CX0 1 "write_line" spWLine := by
  refine ⟨f, fd, ["line"], fok F scWLine (fun vs H Q E h => ?_) (fun cdv A outer s H vs Q E hr h => ?_), hm, F.kp, F.bindsN fun _ _ _ _ _ _ us hl => match us, hl with | [_], _ => rfl⟩
  · obtain ⟨v, l, rfl, _⟩ := h
    rfl
  · obtain ⟨v, ⟨k, t⟩, rfl, ht, q⟩ := h
    refine ⟨_, pss_cons (ps_if (pt_cmpR op_eq (pe_ix ix_tup (pv 0) pe_int (fun _ _ => rfl)) pe_str (nomark _))
        (pss_one (ps_ret (pe_op op_add_str pe_str (pe_ix ix_tup (pv 0) pe_int (fun _ _ => rfl)))))
        (pss_nil))
      (pss_cons (ps_if (pt_cmpR op_eq (pe_ix ix_tup (pv 0) pe_int (fun _ _ => rfl)) pe_str (nomark _))
        (pss_one (ps_never))
        (pss_nil))
      (pss_cons (ps_if (pt_cmpR op_eq (pe_ix ix_tup (pv 0) pe_int (fun _ _ => rfl)) pe_str (nomark _))
        (pss_one (ps_ret (pe_op op_add_str pe_str (pe_ix ix_tup (pv 0) pe_int (fun _ _ => rfl)))))
        (pss_nil))
      (pss_one (ps_ret (pe_ix ix_tup (pv 0) pe_int (fun _ _ => rfl)))))), ?_⟩
    obtain ⟨a, x, y, rfl, ha, hx, hy⟩ := ht.two
    obtain rfl := hx.strE
    obtain rfl := hy.strE
    have T0 : SqT K H a [.str (kdS k), .str t.s] := .inl (.of ha)
    have hl : (2 : Nat) + t.s.length ≤ sizeLine := szT _ (by have := tx_len t; omega)
    have hl1 : (1 : Nat) + t.s.length ≤ sizeLine := szT _ (by have := tx_len t; omega)
    refine ⟨_, rfl, a, _, 0, _, rfl, rfl, T0, at_of (j := 0) rfl rfl, rfl, _, rfl, ?_⟩
    cases k with
    | head =>
      refine iteT ?_
      exact ⟨_, rfl, a, _, 1, _, rfl, rfl, T0, at_of (j := 1) rfl rfl, _, _, rfl, rfl, hl, q⟩
    | prose =>
      refine iteF ?_
      refine ⟨_, rfl, a, _, 0, _, rfl, rfl, T0, at_of (j := 0) rfl rfl, rfl, _, rfl, iteF ?_⟩
      refine ⟨_, rfl, a, _, 0, _, rfl, rfl, T0, at_of (j := 0) rfl rfl, rfl, _, rfl, iteF ?_⟩
      exact ⟨_, rfl, a, _, 1, _, rfl, rfl, T0, at_of (j := 1) rfl rfl, q⟩
    | code =>
      refine iteF ?_
      refine ⟨_, rfl, a, _, 0, _, rfl, rfl, T0, at_of (j := 0) rfl rfl, rfl, _, rfl, iteF ?_⟩
      refine ⟨_, rfl, a, _, 0, _, rfl, rfl, T0, at_of (j := 0) rfl rfl, rfl, _, rfl, iteT ?_⟩
      exact ⟨_, rfl, a, _, 1, _, rfl, rfl, T0, at_of (j := 1) rfl rfl, _, _, rfl, rfl, hl1, q⟩
theorem scWrite : FnScope ["document", "line"] ["document"] (defScope sWrite) := ⟨rfl, rfl, rfl, by decide +kernel, rfl, by decide +kernel, by decide +kernel⟩
theorem ok_write {f : Addr} {fd : FuncData} (F : FnD K "write" "write" sWrite f fd) (hm : mg "write" = some (.ref f)) (GW : Fn P w K mg base CX0 1 "write_line" spWLine) : Fn P w K mg base CX0 2 "write" spWrite := by
  refine ⟨f, fd, ["document"], fok F scWrite (fun vs H Q E h => ?_) (fun cdv A outer s H vs Q E hr h => ?_), hm, F.kp, F.bindsN fun _ _ _ _ _ _ us hl => match us, hl with | [_], _ => rfl⟩
  · obtain ⟨v, l, rfl, _⟩ := h
    rfl
  · obtain ⟨v, d, rfl, ht, hd, ho, q⟩ := h
    refine ⟨_, pss_one (ps_ret (pe_join pe_str (pe_lc (own := [("line", 1)]) (g := gName 1) (tt := tYes) rfl scWrite.nd (pi_tup (pv 0)) (blkOk_by (own := [("line", 1)]) (N := ["document", "line"]) (sc := defScope sWrite) (by decide +kernel)) (fun _ _ _ _ _ => pg_name (i := 1) scWrite.nd rfl (.inl rfl)) (fun _ _ _ _ _ => pts_nil) (fun _ _ _ _ _ => pe_fn GW hr (by decide) pass0 (pa_cons (pv 1) pa_nil))))), ?_⟩
    obtain ⟨a, xs, rfl, ha, t⟩ := ht.tupE
    have hx : xs.length = d.length := by rw [t.len, List.length_map]
    refine ⟨⟨_, rfl⟩, _, rfl, a, rfl, ⟨_, .inl (.of ha)⟩, fun D nD => ?_⟩
    refine lc_it (walk_tup (xs := xs)) (fun i H' => Same H H' ∧ H' D = some (.lst ((d.take i).map fun l => V.str (wr l)))) ⟨snew nD, by rw [List.take_zero]; exact upd_same⟩
      (fun i H' _ ⟨s1, _⟩ => .inl (.of (s1 _ _ ha))) ?_ ?_
    · rintro i x H1 H2 hi ⟨s1, hD⟩ ⟨rfl, hx2⟩
      obtain ⟨e, he, hv⟩ := t.at hx2
      obtain ⟨l, hl, rfl⟩ : ∃ l, d[i]? = some l ∧ eLn l = e := by
        rw [List.getElem?_map] at he
        cases hq : d[i]? with
        | none => rw [hq] at he; cases he
        | some l => rw [hq] at he; exact ⟨l, rfl, Option.some.inj he⟩
      refine ⟨rfl, _, rfl, x, l, rfl, Tp.mono (Tk.of s1) hv, _, hD, small1000 (by rw [List.length_map, List.length_take]; omega), sat s1 nD, ?_⟩
      rw [upd_same, List.take_add_one, hl, List.map_append]
      rfl
    · rintro H' ⟨s1, hD⟩
      have e1 : (d.take xs.length).map (fun l => V.str (wr l)) = (d.map wr).map V.str := by
        rw [hx, List.take_length, List.map_map]
        rfl
      rw [e1] at hD
      refine ⟨_, _, _, rfl, rfl, .inl (SqL.of hD), ?_, q H' s1⟩
      have h3 := sum_len (d.map wr) fun p hp => by
        obtain ⟨l, hl, rfl⟩ := List.mem_map.mp hp
        exact (wr_len l (ho l hl)).1
      have h4 : (("\n" : Str)).length = 1 := by decide +kernel
      rw [h4]
      rw [List.length_map] at h3 ⊢
      omega
theorem scSign : FnScope ["sign"] ["sign"] (defScope sSign) := ⟨rfl, rfl, rfl, by decide +kernel, rfl, by decide +kernel, by decide +kernel⟩
theorem ok_sign {f : Addr} {fd : FuncData} (F : FnD K "is_name_sign" "is_name_sign" sSign f fd) (hm : mg "is_name_sign" = some (.ref f)) : Fn P w K mg base CX0 1 "is_name_sign" spSign := by
  refine ⟨f, fd, ["sign"], fok F scSign (fun vs H Q E h => ?_) (fun cdv A outer s H vs Q E hr h => ?_), hm, F.kp, F.bindsN fun _ _ _ _ _ _ us hl => match us, hl with | [_], _ => rfl⟩
  · obtain ⟨k, rfl, _⟩ := h
    rfl
  · obtain ⟨k, rfl, q⟩ := h
    refine ⟨_, pss_one (ps_ret (pe_or (pe_m0 PySem.F.slot_str_isalnum PySem.F.type_str_isalnum mt_isalnum (pv 0)) (pe_one pe_no))), ?_⟩
    have e : Txt.isalnum (Tx.A k).s = true := by
      match k with
      | 0 | 1 | 2 => decide +kernel
    exact ⟨_, rfl, ⟨_, rfl⟩, _, rfl, rfl, trivial, true, by rw [e], iteT q⟩
theorem scUse : FnScope ["text", "rest"] ["text"] (defScope sUse) := ⟨rfl, rfl, rfl, by decide +kernel, rfl, by decide +kernel, by decide +kernel⟩
theorem ok_use {f : Addr} {fd : FuncData} (F : FnD K "use_of" "use_of" sUse f fd) (hm : mg "use_of" = some (.ref f)) (T : Bt mg) : Fn P w K mg base CX0 1 "use_of" spUse := by
  refine ⟨f, fd, ["text"], fok F scUse (fun vs H Q E h => ?_) (fun cdv A outer s H vs Q E hr h => ?_), hm, F.kp, F.bindsN fun _ _ _ _ _ _ us hl => match us, hl with | [_], _ => rfl⟩
  · obtain ⟨k, rfl, _⟩ := h
    rfl
  · obtain ⟨k, rfl, q⟩ := h
    refine ⟨_, pss_cons (ps_set (i := 1) scUse.nd rfl (.inl rfl) (pe_m1 PySem.F.slot_str_lstrip PySem.F.type_str_lstrip mt_lstripChars (pv 0) pe_str))
      (pss_cons (ps_if (PW.pt (pw_and (pt_cmpR op_eq (pe_slice sl_str (pv 1) po_none (po_some pe_int)) pe_str (nomark _)) (pw_and (pt_cmpR op_eq (pe_slice sl_str (pv 1) (po_some (pe_un un_neg pe_int)) po_none) pe_str (nomark _)) (pw_and1 (pt_val pe_no)))))
        (pss_one (ps_ret (pe_tup (pa_cons pe_str (pa_cons (pe_op op_sub (pe_callB call_len_str (by rfl) T.len PySem.boot_len (pa_cons (pv 0) pa_nil)) (pe_callB call_len_str (by rfl) T.len PySem.boot_len (pa_cons (pv 1) pa_nil))) (pa_cons (pe_slice sl_str (pv 1) (po_some pe_int) (po_some (pe_un un_neg pe_int))) pa_nil))))))
        (pss_nil))
      (pss_one (ps_ret pe_non))), ?_⟩
    have e1 : Txt.lstripChars (Tx.C k).s " " = (Tx.C k).s := by
      match k with
      | 0 | 1 | 2 | 3 | 4 => decide +kernel
    have e2 : cutS (Tx.C k).s none (some 1) = "c" := by
      match k with
      | 0 | 1 | 2 | 3 | 4 => decide +kernel
    have hl : (Tx.C k).s.length ≤ sizeLine := szT _ (by have := tx_len (.C k); omega)
    refine ⟨_, rfl, ⟨_, rfl⟩, _, _, rfl, rfl, hl, ?_⟩
    rw [e1]
    refine ⟨_, rfl, _, rfl, _, rfl, hl, ?_⟩
    refine ⟨rfl, false, ?_, iteF (iteF q)⟩
    rw [e2]
    rfl
theorem scFault : FnScope ["text", "name", "at", "sign"] ["text"] (defScope sFault) := ⟨rfl, rfl, rfl, by decide +kernel, rfl, by decide +kernel, by decide +kernel⟩
theorem ok_fault {f : Addr} {fd : FuncData} {tM : Tok} (F : FnD K "head_fault" "head_fault" sFault f fd) (hm : mg "head_fault" = some (.ref f)) (T : Bt mg) (hMost : mg "NAME_MOST" = some (.int 20 tM)) (GI : Fn P w K mg base CX0 1 "is_name_sign" spSign) :
    Fn P w K mg base CX0 2 "head_fault" spFault := by
  refine ⟨f, fd, ["text"], fok F scFault (fun vs H Q E h => ?_) (fun cdv A outer s H vs Q E hr h => ?_), hm, F.kp, F.bindsN fun _ _ _ _ _ _ us hl => match us, hl with | [_], _ => rfl⟩
  · obtain ⟨k, rfl, _⟩ := h
    rfl
  · obtain ⟨k, rfl, q⟩ := h
    refine ⟨_, pss_cons (ps_if (pt_cmpR op_ne (pe_slice sl_str (pv 0) (po_some pe_int) (po_some pe_int)) pe_str (nomark _))
        (pss_one (ps_ret (pe_tup (pa_cons pe_int (pa_cons pe_str pa_nil)))))
        (pss_nil))
      (pss_cons (ps_set (i := 1) scFault.nd rfl (.inl rfl) (pe_slice sl_str (pv 0) (po_some pe_int) po_none))
      (pss_cons (ps_if (pt_cmpR op_eq (pv 1) pe_str (nomark _))
        (pss_one (ps_ret (pe_tup (pa_cons pe_int (pa_cons pe_str pa_nil)))))
        (pss_nil))
      (pss_cons (ps_for PassesOwn.never rfl (pi_enumT (by rfl) T.enumerate (pa_cons (pv 1) pa_nil)) (pg_tup rfl (pgs_cons (pg_name (i := 2) scFault.nd rfl (.inl rfl)) (pgs_cons (pg_name (i := 3) scFault.nd rfl (.inl rfl)) pgs_nil)))
        (pss_cons (ps_if (pt_not (pt_val (pe_fn GI hr (by decide) pass0 (pa_cons (pv 3) pa_nil))))
            (pss_one (ps_ret (pe_tup (pa_cons (pe_op op_add (pv 2) pe_int) (pa_cons pe_str pa_nil)))))
            (pss_nil))
          (pss_one (ps_if (pt_cmpR op_eq (pv 2) (pe_glob (v := .int 20) rfl hMost ⟨_, rfl⟩) (nomark _))
            (pss_one (ps_ret (pe_tup (pa_cons (pe_op op_add (pv 2) pe_int) (pa_cons pe_str pa_nil)))))
            (pss_nil)))))
      (pss_one (ps_ret pe_non))))), ?_⟩
    have e1 : cutS (wr ⟨.head, .A k⟩) (some 1) (some 2) = " " := by
      match k with
      | 0 | 1 | 2 => decide +kernel
    have e2 : cutS (wr ⟨.head, .A k⟩) (some 2) none = (Tx.A k).s := by
      match k with
      | 0 | 1 | 2 => decide +kernel
    have e3 : decide (V.str (Tx.A k).s = V.str "") = false := by
      match k with
      | 0 | 1 | 2 => decide +kernel
    have e4 : (Tx.A k).s.cps.size = 1 := by
      match k with
      | 0 | 1 | 2 => decide +kernel
    have e5 : ∀ c, (Tx.A k).s.cps[0]? = some c → (⟨#[c]⟩ : Str) = (Tx.A k).s := by
      have e6 : ∃ d, (Tx.A k).s.cps[0]? = some d ∧ (⟨#[d]⟩ : Str) = (Tx.A k).s := by
        match k with
        | 0 => exact ⟨97, by decide +kernel, by decide +kernel⟩
        | 1 => exact ⟨98, by decide +kernel, by decide +kernel⟩
        | 2 => exact ⟨99, by decide +kernel, by decide +kernel⟩
      intro c h
      obtain ⟨d, h1, h2⟩ := e6
      rw [h1] at h
      cases h
      exact h2
    have hl : (wr ⟨.head, .A k⟩).length ≤ sizeLine := szT _ (by have := (wr_len ⟨.head, .A k⟩ rfl).1; omega)
    refine ⟨_, rfl, _, rfl, _, rfl, _, rfl, hl, rfl, false, ?_, iteF ?_⟩
    · rw [e1]; rfl
    refine ⟨_, rfl, _, rfl, _, rfl, hl, ?_⟩
    rw [e2]
    refine ⟨_, rfl, rfl, _, rfl, ?_⟩
    rw [e3]
    refine iteF ?_
    refine ⟨_, rfl, _, rfl, for_it walk_et (fun i σ H' => (∃ v u, σ = [some (.str (wr ⟨.head, .A k⟩)), some (.str (Tx.A k).s), v, u]) ∧ Same H H') ⟨⟨_, _, rfl⟩, Same.refl _⟩ (fun _ _ _ _ _ => trivial) ?_ ?_⟩
    · rintro i x σ H1 H2 hi ⟨⟨v, u, rfl⟩, s1⟩ ⟨T0, c, rfl, nT, rfl, hc⟩
      have i0 : i = 0 := by omega
      subst i0
      have ec := e5 c hc
      refine ⟨T0, _, rfl, .inl (.of upd_same), rfl, _, _, rfl, _, _, rfl, rfl, ?_⟩
      refine ⟨_, rfl, k, by rw [ec]; rfl, _, rfl, iteF ?_⟩
      refine ⟨_, rfl, rfl, _, rfl, iteF ⟨⟨_, _, rfl⟩, s1.trans (snew nT)⟩⟩
    · rintro σ H' ⟨⟨v, u, rfl⟩, s1⟩
      exact q H' s1
theorem scRLine : FnScope ["text", "use"] ["text"] (defScope sRLine) := ⟨rfl, rfl, rfl, by decide +kernel, rfl, by decide +kernel, by decide +kernel⟩
theorem ok_rline {f : Addr} {fd : FuncData} (F : FnD K "read_line" "read_line" sRLine f fd) (hm : mg "read_line" = some (.ref f)) (GU : Fn P w K mg base CX0 1 "use_of" spUse) : Fn P w K mg base CX0 2 "read_line" spRLine := by
  refine ⟨f, fd, ["text"], fok F scRLine (fun vs H Q E h => ?_) (fun cdv A outer s H vs Q E hr h => ?_), hm, F.kp, F.bindsN fun _ _ _ _ _ _ us hl => match us, hl with | [_], _ => rfl⟩
  · obtain ⟨l, rfl, _⟩ := h
    rfl
  · obtain ⟨l, rfl, ho, q⟩ := h
    refine ⟨_, pss_cons (ps_if (pt_cmpR op_eq (pe_slice sl_str (pv 0) po_none (po_some pe_int)) pe_str (nomark _))
        (pss_one (ps_ret (pe_tup (pa_cons pe_str (pa_cons (pe_slice sl_str (pv 0) (po_some pe_int) po_none) pa_nil)))))
        (pss_nil))
      (pss_cons (ps_if (pt_cmpR op_ne (pe_slice sl_str (pv 0) po_none (po_some pe_int)) pe_str (nomark _))
        (pss_one (ps_ret (pe_tup (pa_cons pe_str (pa_cons (pv 0) pa_nil)))))
        (pss_nil))
      (pss_cons (ps_set (i := 1) scRLine.nd rfl (.inl rfl) (pe_fn GU hr (by decide) pass0 (pa_cons (pe_slice sl_str (pv 0) (po_some pe_int) po_none) pa_nil)))
      (pss_cons (ps_if (pt_cmpR op_notN (pv 1) pe_non (nomark _))
        (pss_one (ps_ret (pv 1)))
        (pss_nil))
      (pss_one (ps_ret (pe_tup (pa_cons pe_str (pa_cons (pe_slice sl_str (pv 0) (po_some pe_int) po_none) pa_nil)))))))), ?_⟩
    have hl : (wr l).length ≤ sizeLine := szT _ (by have := (wr_len l ho).1; omega)
    rcases okLn_or l ho with ⟨k, rfl⟩ | ⟨k, rfl⟩ | ⟨k, rfl⟩
    · have e1 : decide (V.str (cutS (wr ⟨.prose, .P k⟩) none (some 1)) = V.str "=") = false := by
        match k with
        | 0 | 1 | 2 | 3 | 4 => decide +kernel
      have e2 : (!decide (V.str (cutS (wr ⟨.prose, .P k⟩) none (some 1)) = V.str "|")) = true := by
        match k with
        | 0 | 1 | 2 | 3 | 4 => decide +kernel
      refine ⟨_, rfl, _, rfl, _, rfl, hl, rfl, _, rfl, ?_⟩
      rw [e1]
      refine iteF ?_
      refine ⟨_, rfl, _, rfl, _, rfl, hl, rfl, _, rfl, ?_⟩
      rw [e2]
      refine iteT ?_
      refine ⟨_, rfl, szT 2 (by decide), fun p np => ?_⟩
      exact q _ _ (snew np) (Tp.mk np (.cons (.str _) (.one (.str _))))
    · have e1 : decide (V.str (cutS (wr ⟨.head, .A k⟩) none (some 1)) = V.str "=") = true := by
        match k with
        | 0 | 1 | 2 => decide +kernel
      have e2 : cutS (wr ⟨.head, .A k⟩) (some 2) none = (Tx.A k).s := by
        match k with
        | 0 | 1 | 2 => decide +kernel
      refine ⟨_, rfl, _, rfl, _, rfl, hl, rfl, _, rfl, ?_⟩
      rw [e1]
      refine iteT ?_
      refine ⟨_, rfl, _, rfl, _, rfl, hl, szT 2 (by decide), fun p np => ?_⟩
      rw [e2]
      exact q _ _ (snew np) (Tp.mk np (.cons (.str _) (.one (.str _))))
    · have e1 : decide (V.str (cutS (wr ⟨.code, .C k⟩) none (some 1)) = V.str "=") = false := by
        match k with
        | 0 | 1 | 2 | 3 | 4 => decide +kernel
      have e2 : (!decide (V.str (cutS (wr ⟨.code, .C k⟩) none (some 1)) = V.str "|")) = false := by
        match k with
        | 0 | 1 | 2 | 3 | 4 => decide +kernel
      have e3 : cutS (wr ⟨.code, .C k⟩) (some 1) none = (Tx.C k).s := by
        match k with
        | 0 | 1 | 2 | 3 | 4 => decide +kernel
      refine ⟨_, rfl, _, rfl, _, rfl, hl, rfl, _, rfl, ?_⟩
      rw [e1]
      refine iteF ?_
      refine ⟨_, rfl, _, rfl, _, rfl, hl, rfl, _, rfl, ?_⟩
      rw [e2]
      refine iteF ?_
      refine ⟨_, rfl, _, rfl, _, rfl, hl, k, by rw [e3] <;> rfl, ?_⟩
      refine ⟨_, rfl, rfl, _, rfl, iteF ?_⟩
      refine ⟨_, rfl, _, rfl, _, rfl, hl, szT 2 (by decide), fun p np => ?_⟩
      rw [e3]
      exact q _ _ (snew np) (Tp.mk np (.cons (.str _) (.one (.str _))))
end
end Wh

namespace Wh
open PySem PySem.Spec PyProof.Rows L2 Wf
section
variable {P : Program} {w : World} {K : PySem.W.Frag} {mg : Str → Option Value} {base : Heap}
theorem scRead : FnScope ["text", "document", "in_section", "number", "line", "fault"] ["text"] (defScope sRead) := ⟨rfl, rfl, rfl, by decide +kernel, rfl, by decide +kernel, by decide +kernel⟩
theorem ok_read {f : Addr} {fd : FuncData} (F : FnD K "read" "read" sRead f fd) (hm : mg "read" = some (.ref f)) (T : Bt mg) (GH : Fn P w K mg base CX0 2 "head_fault" spFault) (GL : Fn P w K mg base CX0 2 "read_line" spRLine) : Fn P w K mg base CX0 3 "read" spRead := by
  refine ⟨f, fd, ["text"], fok F scRead (fun vs H Q E h => ?_) (fun cdv A outer s H vs Q E hr h => ?_), hm, F.kp, F.bindsN fun _ _ _ _ _ _ us hl => match us, hl with | [_], _ => rfl⟩
  · obtain ⟨d, rfl, _⟩ := h
    rfl
  · obtain ⟨d, rfl, hd, hne, hlen, q⟩ := h
    refine ⟨_, pss_cons (ps_set (i := 1) scRead.nd rfl (.inl rfl) (pe_lst pa_nil))
      (pss_cons (ps_set (i := 2) scRead.nd rfl (.inl rfl) pe_bl)
      (pss_cons (ps_for PassesOwn.never rfl (pi_enum (by rfl) T.enumerate (pa_cons (pe_split (pv 0) pe_str) pa_nil)) (pg_tup rfl (pgs_cons (pg_name (i := 3) scRead.nd rfl (.inl rfl)) (pgs_cons (pg_name (i := 4) scRead.nd rfl (.inl rfl)) pgs_nil)))
        (pss_cons (ps_if (pt_cmpR op_eq (pe_slice sl_str (pv 4) po_none (po_some pe_int)) pe_str (nomark _))
            (pss_cons (ps_set (i := 5) scRead.nd rfl (.inl rfl) (pe_fn GH hr (by decide) pass0 (pa_cons (pv 4) pa_nil)))
              (pss_cons (ps_if (pt_cmpR op_notN (pv 5) pe_non (nomark _))
                (pss_one (ps_never))
                (pss_nil))
              (pss_one (ps_set (i := 2) scRead.nd rfl (.inl rfl) pe_bl))))
            (pss_one (ps_if (pt_cmpR op_ne (pe_slice sl_str (pv 4) po_none (po_some pe_int)) pe_str (nomark _))
                (pss_one (ps_set (i := 2) scRead.nd rfl (.inl rfl) pe_bl))
                (pss_one (ps_if (pt_not (pt_val (pv 2)))
                    (pss_one (ps_never))
                    (pss_nil))))))
          (pss_one (ps_expr (pe_bm PySem.F.plainAttrs_list PySem.F.slot_list_append PySem.F.type_list_append mt_append (pv 1) (pa_cons (pe_fn GL hr (by decide) pass0 (pa_cons (pv 4) pa_nil)) pa_nil))))))
      (pss_one (ps_ret (pe_callTy call_tuple_of (by rfl) T.tuple (by decide +kernel) (pa_cons (pv 1) pa_nil)))))), ?_⟩
    have hs := docText_split hd.ok hne
    have hdl := docText_len hd.ok
    refine ⟨Nat.zero_le _, fun D nD => ?_⟩
    refine ⟨_, rfl, ⟨_, rfl⟩, _, _, rfl, rfl, by decide +kernel, Nat.le_of_lt (small1000 (by omega)), fun p np => ?_⟩
    rw [hs]
    have npD : p ≠ D := fun z => by rw [z, upd_same] at np; cases np
    have hx : ((d.map wr).map V.str).length = d.length := by rw [List.length_map, List.length_map]
    refine ⟨p, _, rfl, SqL.of upd_same, for_it walk_enum (fun i σ H' => (∃ u v x, σ = [some (.str (docText d)), some (.ref D), some (.bl (secEnd false (d.take i))), u, v, x]) ∧ Same H H' ∧ Lst H' D ((d.take i).map eLn) ∧ H' p = some (.lst ((d.map wr).map V.str)))
      ⟨⟨_, _, _, rfl⟩, (snew nD).trans (snew np), ⟨[], by rw [upd_ne (Ne.symm npD)]; exact upd_same, .nil⟩, upd_same⟩ (fun _ _ _ _ h => SqL.of h.2.2.2) ?_ ?_⟩
    · rintro i x σ H1 H2 hi ⟨⟨u, v, x2, rfl⟩, s1, ⟨ys, hD, ht⟩, hp⟩ ⟨T0, z1, z2, rfl, nT, rfl, e1, e2⟩
      cases e1
      have hi' : i < d.length := by rw [← hx]; exact hi
      have hz : d[i]? = some d[i] := List.getElem?_eq_getElem hi'
      replace e2 : ((d.map wr).map V.str)[i]? = some z2 := e2
      rw [List.getElem?_map, List.getElem?_map, hz] at e2
      cases e2
      obtain ⟨l, hl⟩ : ∃ l, d[i] = l := ⟨_, rfl⟩
      rw [hl] at hz
      have hok : okLn l = true := hd.ok l (List.mem_of_getElem? hz)
      have et : d.take (i + 1) = d.take i ++ [l] := by rw [List.take_add_one, hz]; rfl
      have hy : ys.length = i := by rw [ht.len, List.length_map, List.length_take]; omega
      have hll : (wr l).length ≤ sizeLine := szT _ (by have := (wr_len l hok).1; omega)
      have hsec : ∀ b, secEnd (secEnd false (d.take i)) [l] = b → secEnd false (d.take (i + 1)) = b := fun b e => by rw [et, secEnd_app]; exact e
      have hDT := snew (o := .tup [.int (i : Nat), .str (wr l)]) nT _ _ hD
      have hpT := snew (o := .tup [.int (i : Nat), .str (wr l)]) nT _ _ hp
      rw [hl]
      have fin : ∀ (b : Bool) (fl : Option V) (H3 : Hp), secEnd (secEnd false (d.take i)) [l] = b → Same (upd H1 T0 (.tup [.int (i : Nat), .str (wr l)])) H3 →
          ∀ H4 v4, Same H3 H4 → Tp H4 v4 (eLn l) → H4 D = some (.lst ys) ∧ ys.length < sizeLine ∧ ((∃ u v x, [some (V.str (docText d)), some (.ref D), some (.bl b), some (.int (i : Nat)), some (.str (wr l)), fl] = [some (V.str (docText d)), some (.ref D), some (.bl (secEnd false (d.take (i + 1)))), u, v, x]) ∧ Same H (upd H4 D (.lst (ys ++ [v4]))) ∧ Lst (upd H4 D (.lst (ys ++ [v4]))) D ((d.take (i + 1)).map eLn) ∧ (upd H4 D (.lst (ys ++ [v4]))) p = some (.lst ((d.map wr).map V.str))) := by
        intro b fl H3 hb s3 H4 v4 s4 t4
        refine ⟨s4 _ _ (s3 _ _ hDT), small1000 (by omega), ⟨_, _, _, by rw [hsec b hb]⟩, sat (s1.trans ((snew nT).trans (s3.trans s4))) nD, ?_, ?_⟩
        · rw [et, List.map_append]
          exact Lst.push (s4 _ _ (s3 _ _ hDT)) (Tps.mono (Tk.of ((snew nT).trans (s3.trans s4))) ht) t4
        · rw [upd_ne npD]
          exact s4 _ _ (s3 _ _ hpT)
      refine ⟨T0, _, rfl, .inl (.of upd_same), rfl, _, _, rfl, _, _, rfl, rfl, ?_⟩
      refine ⟨_, rfl, _, rfl, _, rfl, hll, rfl, _, rfl, ?_⟩
      have hT : (upd H1 T0 (.tup [.int (i : Nat), .str (wr l)])) D = some (.lst ys) := hDT
      rcases okLn_or l hok with ⟨k, rfl⟩ | ⟨k, rfl⟩ | ⟨k, rfl⟩
      · have e1 : decide (V.str (cutS (wr ⟨.prose, .P k⟩) none (some 1)) = V.str "=") = false := by
          match k with
          | 0 | 1 | 2 | 3 | 4 => decide +kernel
        have e2 : (!decide (V.str (cutS (wr ⟨.prose, .P k⟩) none (some 1)) = V.str "|")) = true := by
          match k with
          | 0 | 1 | 2 | 3 | 4 => decide +kernel
        rw [e1]
        refine iteF ?_
        refine ⟨_, rfl, _, rfl, _, rfl, hll, rfl, _, rfl, ?_⟩
        rw [e2]
        refine iteT ?_
        refine ⟨_, rfl, .inl ⟨rfl, _, SqL.of hT⟩, _, rfl, _, rfl, hok, fun H4 v4 s4 t4 => ?_⟩
        obtain ⟨f1, f2, f3⟩ := fin false x2 _ rfl (Same.refl _) H4 v4 s4 t4
        exact ⟨D, ys, v4, rfl, rfl, f1, f2, f3⟩
      · have e1 : decide (V.str (cutS (wr ⟨.head, .A k⟩) none (some 1)) = V.str "=") = true := by
          match k with
          | 0 | 1 | 2 => decide +kernel
        rw [e1]
        refine iteT ?_
        refine ⟨_, rfl, k, rfl, fun H3 s3 => ?_⟩
        refine ⟨_, rfl, rfl, _, rfl, iteF ?_⟩
        refine ⟨_, rfl, .inl ⟨rfl, _, SqL.of (s3 _ _ hT)⟩, _, rfl, _, rfl, hok, fun H4 v4 s4 t4 => ?_⟩
        obtain ⟨f1, f2, f3⟩ := fin true (some .non) _ rfl s3 H4 v4 s4 t4
        exact ⟨D, ys, v4, rfl, rfl, f1, f2, f3⟩
      · have e1 : decide (V.str (cutS (wr ⟨.code, .C k⟩) none (some 1)) = V.str "=") = false := by
          match k with
          | 0 | 1 | 2 | 3 | 4 => decide +kernel
        have e2 : (!decide (V.str (cutS (wr ⟨.code, .C k⟩) none (some 1)) = V.str "|")) = false := by
          match k with
          | 0 | 1 | 2 | 3 | 4 => decide +kernel
        have e3 : secEnd false (d.take i) = true := by
          have h1 := hd.sec
          rw [← List.take_append_drop i d, List.drop_eq_getElem_cons hi', hl, sec_app, Bool.and_eq_true] at h1
          have h2 : (secEnd false (d.take i) && sec (secEnd false (d.take i)) (d.drop (i + 1))) = true := h1.2
          rw [Bool.and_eq_true] at h2
          exact h2.1
        rw [e1]
        refine iteF ?_
        refine ⟨_, rfl, _, rfl, _, rfl, hll, rfl, _, rfl, ?_⟩
        rw [e2]
        refine iteF ?_
        rw [e3]
        refine ⟨_, rfl, true, rfl, iteF ?_⟩
        refine ⟨_, rfl, .inl ⟨rfl, _, SqL.of hT⟩, _, rfl, _, rfl, hok, fun H4 v4 s4 t4 => ?_⟩
        obtain ⟨f1, f2, f3⟩ := fin true x2 _ (by rw [e3]; rfl) (Same.refl _) H4 v4 s4 t4
        exact ⟨D, ys, v4, rfl, rfl, f1, f2, f3⟩
    · rintro σ H' ⟨⟨u, v, x, rfl⟩, s1, ⟨ys, hD, ht⟩, hp⟩
      rw [hx, List.take_length] at ht
      refine ⟨_, rfl, D, _, rfl, .inl ⟨SqL.of hD, fun l nl => ?_⟩⟩
      exact q _ l (s1.trans (snew nl)) (Tp.mk nl ht)
end
end Wh

/-! A history as it stands in the heap, and what its changes leave. -/
namespace Wh
open PySem PySem.Spec PyProof.Rows L2 Wf
inductive Tag where
  | hist | kept | order | changes | ki (i : Nat) | kt (i : Nat) | kd (i : Nat) | ci (j : Nat) | cf (j : Nat) | cp (j : Nat)
  deriving DecidableEq
/-- whose the addresses are -/
abbrev Ow := Addr → Option Tag
structure KA where
  a : Addr
  dx : Addr
  tv : V
  lt : Addr
  ld : Addr
structure CA where
  a : Addr
  dx : Addr
  fd : Addr
  pt : Addr
structure Cs where
  CH : Addr
  CK : Addr
  CC : Addr
def kf (n : Nat) (v : V) (lt ld : Addr) : List (Str × V) := [("born", .int n), ("line", v), ("texts", .ref lt), ("dropped", .ref ld)]
def cf (au : Str) (st : Bool) (fd pt : Addr) : List (Str × V) := [("author", .str au), ("stands", .bl st), ("fates", .ref fd), ("put", .ref pt)]
def hf (lk lo lc : Addr) : List (Str × V) := [("kept", .ref lk), ("order", .ref lo), ("changes", .ref lc)]
abbrev vN (n : Nat) : V := .int (n : Int)
def eTx (p : Nat × Tx) : PyData := .tuple [.int p.1, .str p.2.s]
/-- a dict of fates by whole numbers -/
def Fts (H : Hp) (kvs : List (Key × V)) (l : List (Nat × Ft)) : Prop := kvs.map (·.1) = l.map (fun p => (Sum.inl (p.1 : Int) : Key)) ∧ Tps H (kvs.map (·.2)) (l.map fun p => eFt p.2)
structure KAt (CK : Addr) (H : Hp) (ow : Ow) (i : Nat) (q : KA) (k : Kp Tx) : Prop where
  ins : H q.a = some (.ins CK q.dx (kf k.born q.tv q.lt q.ld))
  line : Tp H q.tv (eLn k.line)
  txt : Lst H q.lt (k.texts.map eTx)
  drp : H q.ld = some (.lst (k.dropped.map vN))
  oi : ow q.a = some (.ki i)
  ot : ow q.lt = some (.kt i)
  od : ow q.ld = some (.kd i)
structure CAt (CC : Addr) (M : Nat) (b : B Tx) (H : Hp) (ow : Ow) (j : Nat) (q : CA) (e : Ev Tx) : Prop where
  ins : H q.a = some (.ins CC q.dx (cf e.author.s e.stands q.fd q.pt))
  fts : ∃ kvs, H q.fd = some (.dK kvs) ∧ Fts H kvs e.fates
  put : ∃ ids : List Nat, H q.pt = some (.lst (ids.map vN)) ∧ (∀ i, i ∈ ids ↔ i < M ∧ (b.at i).born = j + 1) ∧ ids.length ≤ M
  oi : ow q.a = some (.ci j)
  of_ : ow q.fd = some (.cf j)
  op : ow q.pt = some (.cp j)
structure Sh where
  dx : Addr
  lk : Addr
  lo : Addr
  lc : Addr
  ka : List KA
  ca : List CA
def isOwn : HO → Prop
  | .tup _ => False
  | .tbl _ => False
  | .frz _ _ => False
  | _ => True
structure HSh (c : Cs) (P : Addr) (H : Hp) (ow : Ow) (p : Addr) (s : Sh) (M : Nat) (b : B Tx) (es : List (Ev Tx)) : Prop where
  hp : H p = some (.ins c.CH s.dx (hf s.lk s.lo s.lc))
  op : ow p = some .hist
  hk : H s.lk = some (.lst (s.ka.map fun q => .ref q.a))
  ok : ow s.lk = some .kept
  ho : H s.lo = some (.lst (b.order.map vN))
  oo : ow s.lo = some .order
  hc : H s.lc = some (.lst (s.ca.map fun q => .ref q.a))
  oc : ow s.lc = some .changes
  kl : s.ka.length = b.kept.length
  ks : ∀ i q, s.ka[i]? = some q → KAt c.CK H ow i q (b.at i)
  cl : s.ca.length = es.length
  cs : ∀ j q e, s.ca[j]? = some q → es[j]? = some e → CAt c.CC M b H ow j q e
  own : ∀ a t, ow a = some t → ∃ o, H a = some o ∧ isOwn o
  tab : GxR.TabG H P
def HistAt (c : Cs) (P : Addr) (H : Hp) (ow : Ow) (p : Addr) (b : B Tx) (es : List (Ev Tx)) : Prop := ∃ s, HSh c P H ow p s b.kept.length b es

theorem ne_tag {ow : Ow} {a b : Addr} {t u : Tag} (h : ow a = some t) (h' : ow b = some u) (n : t ≠ u) : a ≠ b := fun e => by
  rw [e, h'] at h
  exact n (Option.some.inj h).symm
section
variable {c : Cs} {P : Addr} {H H' : Hp} {ow ow' : Ow} {p : Addr} {s : Sh} {M : Nat} {b : B Tx} {es : List (Ev Tx)} {i j : Nat} {q : KA} {k : Kp Tx} {r : CA} {e : Ev Tx}
theorem Fts.mono {kvs : List (Key × V)} {l : List (Nat × Ft)} (t : Tk H H') (h : Fts H kvs l) : Fts H' kvs l := ⟨h.1, Tps.mono t h.2⟩
theorem Lst.mono {a : Addr} {ds : List PyData} (t : Tk H H') (e : H' a = H a) (h : Lst H a ds) : Lst H' a ds := by
  obtain ⟨xs, h1, h2⟩ := h
  exact ⟨xs, e.trans h1, Tps.mono t h2⟩
theorem KAt.mono {CK : Addr} (h : KAt CK H ow i q k) (t : Tk H H') (g : ∀ a u, ow a = some u → (u = .ki i ∨ u = .kt i ∨ u = .kd i) → H' a = H a ∧ ow' a = ow a) : KAt CK H' ow' i q k := by
  obtain ⟨a1, a2⟩ := g _ _ h.oi (.inl rfl)
  obtain ⟨b1, b2⟩ := g _ _ h.ot (.inr (.inl rfl))
  obtain ⟨c1, c2⟩ := g _ _ h.od (.inr (.inr rfl))
  exact ⟨a1.trans h.ins, Tp.mono t h.line, h.txt.mono t b1, c1.trans h.drp, a2.trans h.oi, b2.trans h.ot, c2.trans h.od⟩
theorem CAt.mono {CC : Addr} {b' : B Tx} (h : CAt CC M b H ow j r e) (t : Tk H H') (g : ∀ a u, ow a = some u → (u = .ci j ∨ u = .cf j ∨ u = .cp j) → H' a = H a ∧ ow' a = ow a) (hb : ∀ i, i < M → (b'.at i).born = (b.at i).born) :
    CAt CC M b' H' ow' j r e := by
  obtain ⟨a1, a2⟩ := g _ _ h.oi (.inl rfl)
  obtain ⟨b1, b2⟩ := g _ _ h.of_ (.inr (.inl rfl))
  obtain ⟨c1, c2⟩ := g _ _ h.op (.inr (.inr rfl))
  obtain ⟨kvs, f1, f2⟩ := h.fts
  obtain ⟨ids, g1, g2, g3⟩ := h.put
  exact ⟨a1.trans h.ins, ⟨kvs, b1.trans f1, f2.mono t⟩, ⟨ids, c1.trans g1, fun i => by rw [g2 i]; exact and_congr_right fun hi => by rw [hb i hi], g3⟩, a2.trans h.oi, b2.trans h.of_, c2.trans h.op⟩
/-- the others' things stay, so does all that is ours -/
theorem HSh.mono (h : HSh c P H ow p s M b es) (t : Tk H H') (g : ∀ a u, ow a = some u → H' a = H a) (tb : GxR.TabG H' P) : HSh c P H' ow p s M b es where
  hp := (g _ _ h.op).trans h.hp
  op := h.op
  hk := (g _ _ h.ok).trans h.hk
  ok := h.ok
  ho := (g _ _ h.oo).trans h.ho
  oo := h.oo
  hc := (g _ _ h.oc).trans h.hc
  oc := h.oc
  kl := h.kl
  ks := fun i q e => (h.ks i q e).mono t fun a u ha _ => ⟨g a u ha, rfl⟩
  cl := h.cl
  cs := fun j q e h1 h2 => (h.cs j q e h1 h2).mono t (fun a u ha _ => ⟨g a u ha, rfl⟩) fun _ _ => rfl
  own := fun a u ha => by
    obtain ⟨o, h1, h2⟩ := h.own a u ha
    exact ⟨o, (g a u ha).trans h1, h2⟩
  tab := tb
/-- all but P's table stays, the table may grow -/
def Ex (P : Addr) (H H' : Hp) : Prop := (∀ a o, H a = some o → a ≠ P → H' a = some o) ∧ GxR.TabG H' P
theorem Ex.trans {H1 H2 : Hp} (a : Ex P H H1) (b : Ex P H1 H2) : Ex P H H2 := ⟨fun x o h n => b.1 x o (a.1 x o h n) n, b.2⟩
theorem Ex.refl (h : GxR.TabG H P) : Ex P H H := ⟨fun _ _ h _ => h, h⟩
theorem Ex.of (t : GxR.TabG H P) (h : Same H H') : Ex P H H' := ⟨fun a o e _ => h a o e, by
  obtain ⟨ps, e, q⟩ := t
  exact ⟨ps, h _ _ e, q⟩⟩
theorem Ex.tbd (h : GxR.Tabbed P H H') : Ex P H H' := ⟨fun a o e n => by rw [h.2 a n]; exact e, h.1⟩
theorem Ex.tk (t : GxR.TabG H P) (h : Ex P H H') : Tk H H' := fun a xs e => h.1 a _ e fun z => by
  obtain ⟨ps, e2, _⟩ := t
  rw [z, e2] at e
  cases e
theorem Ex.free (h : Ex P H H') {a : Addr} (t : GxR.TabG H P) (n : H' a = none) : H a = none := by
  cases e : H a with
  | none => rfl
  | some o =>
    by_cases z : a = P
    · obtain ⟨ps, e2, _⟩ := h.2
      rw [z, e2] at n
      cases n
    · rw [h.1 a o e z] at n
      cases n
theorem HSh.neP (h : HSh c P H ow p s M b es) {a : Addr} {u : Tag} (ha : ow a = some u) : a ≠ P := fun z => by
  obtain ⟨o, h1, h2⟩ := h.own a u ha
  obtain ⟨ps, e2, _⟩ := h.tab
  rw [z, e2] at h1
  cases h1
  exact h2
theorem HSh.ex (h : HSh c P H ow p s M b es) (x : Ex P H H') : HSh c P H' ow p s M b es :=
  h.mono (x.tk h.tab) (fun a u ha => by
    obtain ⟨o, h1, h2⟩ := h.own a u ha
    rw [h1]
    exact x.1 a o h1 (h.neP ha)) x.2
theorem HSh.same (h : HSh c P H ow p s M b es) (x : Same H H') : HSh c P H' ow p s M b es := h.ex (.of h.tab x)
theorem HSh.notup (h : HSh c P H ow p s M b es) {a : Addr} {u : Tag} (ha : ow a = some u) (xs : List V) : H a ≠ some (.tup xs) := fun z => by
  obtain ⟨o, h1, h2⟩ := h.own a u ha
  rw [z] at h1
  cases h1
  exact h2
theorem HSh.tkU (h : HSh c P H ow p s M b es) {a : Addr} {u : Tag} (ha : ow a = some u) {o : HO} : Tk H (upd H a o) := Tk.updN (h.notup ha)
theorem HSh.tabU (h : HSh c P H ow p s M b es) {a : Addr} {u : Tag} (ha : ow a = some u) {o : HO} : GxR.TabG (upd H a o) P := by
  obtain ⟨ps, e, q⟩ := h.tab
  exact ⟨ps, by rw [upd_ne (Ne.symm (h.neP ha))]; exact e, q⟩
theorem HSh.ownU (h : HSh c P H ow p s M b es) {a : Addr} {u : Tag} (ha : ow a = some u) {o : HO} (ho : isOwn o) : ∀ x t, ow x = some t → ∃ o', upd H a o x = some o' ∧ isOwn o' := fun x t hx => by
  by_cases e : x = a
  · exact ⟨o, by rw [e]; exact upd_same, ho⟩
  · obtain ⟨o', h1, h2⟩ := h.own x t hx
    exact ⟨o', by rw [upd_ne e]; exact h1, h2⟩
theorem HSh.fresh (h : HSh c P H ow p s M b es) {a : Addr} (n : H a = none) : ow a = none := by
  cases e : ow a with
  | none => rfl
  | some t =>
    obtain ⟨o, h1, _⟩ := h.own a t e
    rw [n] at h1
    cases h1
theorem at_modify (b : B Tx) (i : Nat) (f : Kp Tx → Kp Tx) (x : Nat) (hx : x < b.kept.length) : (B.mk (b.kept.modify i f) b.order).at x = if i = x then f (b.at x) else b.at x := by
  unfold B.at
  simp only [List.getD_eq_getElem?_getD]
  rw [List.getElem?_modify, List.getElem?_eq_getElem hx]
  by_cases e : i = x <;> simp [e]
theorem HSh.kat (h : HSh c P H ow p s M b es) (hi : i < b.kept.length) : ∃ q, s.ka[i]? = some q ∧ KAt c.CK H ow i q (b.at i) := by
  have hi' : i < s.ka.length := by rw [h.kl]; exact hi
  exact ⟨s.ka[i], List.getElem?_eq_getElem hi', h.ks i _ (List.getElem?_eq_getElem hi')⟩
theorem HSh.cat (h : HSh c P H ow p s M b es) (hj : es[j]? = some e) : ∃ q, s.ca[j]? = some q ∧ CAt c.CC M b H ow j q e := by
  have hj' : j < s.ca.length := by rw [h.cl]; exact (List.getElem?_eq_some_iff.mp hj).1
  exact ⟨s.ca[j], List.getElem?_eq_getElem hj', h.cs j _ e (List.getElem?_eq_getElem hj') hj⟩
theorem ka_lt (h : HSh c P H ow p s M b es) (hq : s.ka[i]? = some q) : i < b.kept.length := by
  rw [← h.kl]
  exact (List.getElem?_eq_some_iff.mp hq).1
/-- a kept line's own list is written: its texts or its numbers -/
theorem HSh.noteK (h : HSh c P H ow p s M b es) (hM : M ≤ b.kept.length) (hq : s.ka[i]? = some q) {a : Addr} {u : Tag} {o : HO} {f : Kp Tx → Kp Tx} (ha : ow a = some u) (hu : u = .kt i ∨ u = .kd i) (ho : isOwn o) (hf : ∀ k, (f k).born = k.born)
    (new : KAt c.CK (upd H a o) ow i q (f (b.at i))) : HSh c P (upd H a o) ow p s M { b with kept := b.kept.modify i f } es := by
  have ne : ∀ {x : Addr} {t : Tag}, ow x = some t → t ≠ .kt i → t ≠ .kd i → upd H a o x = H x := fun {x t} hx n1 n2 => by
    refine upd_ne (ne_tag hx ha fun z => ?_)
    rcases hu with y | y
    · exact n1 (z.trans y)
    · exact n2 (z.trans y)
  have hb : ∀ x, x < b.kept.length → ((B.mk (b.kept.modify i f) b.order).at x).born = (b.at x).born := fun x hx => by
    rw [at_modify b i f x hx]
    by_cases e : i = x
    · rw [if_pos e]; exact hf _
    · rw [if_neg e]
  refine ⟨(ne h.op (fun z => by cases z) (fun z => by cases z)).trans h.hp, h.op, (ne h.ok (fun z => by cases z) (fun z => by cases z)).trans h.hk, h.ok, (ne h.oo (fun z => by cases z) (fun z => by cases z)).trans h.ho, h.oo,
    (ne h.oc (fun z => by cases z) (fun z => by cases z)).trans h.hc, h.oc, by rw [h.kl]; simp, fun x q' hx => ?_, h.cl, fun j r e h1 h2 => ?_, h.ownU ha ho, h.tabU ha⟩
  · rw [at_modify b i f x (ka_lt h hx)]
    by_cases e : i = x
    · subst e
      rw [hq] at hx
      cases hx
      rw [if_pos rfl]
      exact new
    · rw [if_neg e]
      refine (h.ks x q' hx).mono (h.tkU ha) fun a' t ha' ht => ⟨ne ha' (fun z => ?_) (fun z => ?_), rfl⟩
      · rcases ht with y | y | y <;> rw [y] at z <;> cases z
        exact e rfl
      · rcases ht with y | y | y <;> rw [y] at z <;> cases z
        exact e rfl
  · refine (h.cs j r e h1 h2).mono (h.tkU ha) (fun a' t ha' ht => ⟨ne ha' (fun z => ?_) (fun z => ?_), rfl⟩) fun x hx => hb x (Nat.lt_of_lt_of_le hx hM)
    · rcases ht with y | y | y <;> rw [y] at z <;> cases z
    · rcases ht with y | y | y <;> rw [y] at z <;> cases z
theorem HSh.drop (h : HSh c P H ow p s M b es) (hM : M ≤ b.kept.length) (hq : s.ka[i]? = some q) (n : Nat) : HSh c P (upd H q.ld (.lst ((b.at i).dropped.map vN ++ [vN n]))) ow p s M { b with kept := b.kept.modify i (Kp.note n .drop) } es := by
  have K0 := h.ks i q hq
  refine h.noteK hM hq K0.od (.inr rfl) trivial (fun k => rfl) ?_
  have n1 : q.a ≠ q.ld := ne_tag K0.oi K0.od fun z => by cases z
  have n2 : q.lt ≠ q.ld := ne_tag K0.ot K0.od fun z => by cases z
  exact ⟨by rw [upd_ne n1]; exact K0.ins, Tp.mono (h.tkU K0.od) K0.line, K0.txt.mono (h.tkU K0.od) (upd_ne n2), by rw [upd_same]; show _ = some (HO.lst (((b.at i).dropped ++ [n]).map vN)); rw [List.map_append]; rfl, K0.oi, K0.ot, K0.od⟩
theorem HSh.text (h : HSh c P H ow p s M b es) (hM : M ≤ b.kept.length) (hq : s.ka[i]? = some q) {n : Nat} {t : Tx} {xs : List V} {v : V} (hx : H q.lt = some (.lst xs)) (hv : Tp H v (eTx (n, t))) :
    HSh c P (upd H q.lt (.lst (xs ++ [v]))) ow p s M { b with kept := b.kept.modify i (Kp.note n (.text t)) } es := by
  have K0 := h.ks i q hq
  refine h.noteK hM hq K0.ot (.inl rfl) trivial (fun k => rfl) ?_
  have n1 : q.a ≠ q.lt := ne_tag K0.oi K0.ot fun z => by cases z
  have n2 : q.ld ≠ q.lt := ne_tag K0.od K0.ot fun z => by cases z
  obtain ⟨ys, h1, h2⟩ := K0.txt
  rw [hx] at h1
  cases h1
  refine ⟨by rw [upd_ne n1]; exact K0.ins, Tp.mono (h.tkU K0.ot) K0.line, ?_, by rw [upd_ne n2]; exact K0.drp, K0.oi, K0.ot, K0.od⟩
  have e : ((b.at i).note n (.text t)).texts.map eTx = (b.at i).texts.map eTx ++ [eTx (n, t)] := by
    show ((b.at i).texts ++ [(n, t)]).map eTx = _
    rw [List.map_append]
    rfl
  rw [e]
  exact Lst.push hx h2 hv
theorem HSh.setOrder (h : HSh c P H ow p s M b es) (o : List Nat) : HSh c P (upd H s.lo (.lst (o.map vN))) ow p s M { b with order := o } es := by
  have ne : ∀ {x : Addr} {t : Tag}, ow x = some t → t ≠ .order → upd H s.lo (.lst (o.map vN)) x = H x := fun {x t} hx n1 => upd_ne (ne_tag hx h.oo n1)
  refine ⟨(ne h.op (fun z => by cases z)).trans h.hp, h.op, (ne h.ok (fun z => by cases z)).trans h.hk, h.ok, upd_same, h.oo, (ne h.oc (fun z => by cases z)).trans h.hc, h.oc, h.kl, fun x q' hx => ?_, h.cl, fun j r e h1 h2 => ?_, h.ownU h.oo trivial, h.tabU h.oo⟩
  · exact (h.ks x q' hx).mono (h.tkU h.oo) fun a' t ha' ht => ⟨ne ha' (fun z => by rcases ht with y | y | y <;> rw [y] at z <;> cases z), rfl⟩
  · exact (h.cs j r e h1 h2).mono (h.tkU h.oo) (fun a' t ha' ht => ⟨ne ha' (fun z => by rcases ht with y | y | y <;> rw [y] at z <;> cases z), rfl⟩) fun _ _ => rfl
theorem HSh.unstand (h : HSh c P H ow p s M b es) (hr : s.ca[j]? = some r) (he : es[j]? = some e) :
    HSh c P (upd H r.a (.ins c.CC r.dx (cf e.author.s false r.fd r.pt))) ow p s M b (es.set j { e with stands := false }) := by
  have C0 := h.cs j r e hr he
  have ne : ∀ {x : Addr} {t : Tag} {o : HO}, ow x = some t → t ≠ .ci j → upd H r.a o x = H x := fun {x t o} hx n1 => upd_ne (ne_tag hx C0.oi n1)
  refine ⟨(ne h.op (fun z => by cases z)).trans h.hp, h.op, (ne h.ok (fun z => by cases z)).trans h.hk, h.ok, (ne h.oo (fun z => by cases z)).trans h.ho, h.oo, (ne h.oc (fun z => by cases z)).trans h.hc, h.oc, h.kl, fun x q' hx => ?_, by rw [h.cl]; simp, fun x r' e' h1 h2 => ?_, h.ownU C0.oi trivial, h.tabU C0.oi⟩
  · exact (h.ks x q' hx).mono (h.tkU C0.oi) fun a' t ha' ht => ⟨ne ha' (fun z => by rcases ht with y | y | y <;> rw [y] at z <;> cases z), rfl⟩
  · by_cases ex : x = j
    · subst ex
      rw [hr] at h1
      cases h1
      have hx : x < es.length := (List.getElem?_eq_some_iff.mp he).1
      rw [List.getElem?_set_self hx] at h2
      cases h2
      obtain ⟨kvs, f1, f2⟩ := C0.fts
      obtain ⟨ids, g1, g2, g3⟩ := C0.put
      have n1 : r.fd ≠ r.a := ne_tag C0.of_ C0.oi fun z => by cases z
      have n2 : r.pt ≠ r.a := ne_tag C0.op C0.oi fun z => by cases z
      exact ⟨upd_same, ⟨kvs, by rw [upd_ne n1]; exact f1, f2.mono (h.tkU C0.oi)⟩, ⟨ids, by rw [upd_ne n2]; exact g1, g2, g3⟩, C0.oi, C0.of_, C0.op⟩
    · rw [List.getElem?_set_ne (Ne.symm ex)] at h2
      refine (h.cs x r' e' h1 h2).mono (h.tkU C0.oi) (fun a' t ha' ht => ⟨ne ha' (fun z => ?_), rfl⟩) fun _ _ => rfl
      rcases ht with y | y | y <;> rw [y] at z <;> cases z
      exact ex rfl
end
end Wh

namespace Wh
open PySem PySem.Spec PyProof.Rows L2 Wf
def owK (ow : Ow) (m : Nat) (q : KA) : Ow := fun a => if a = q.a then some (.ki m) else if a = q.lt then some (.kt m) else if a = q.ld then some (.kd m) else ow a
def owC (ow : Ow) (m : Nat) (r : CA) : Ow := fun a => if a = r.a then some (.ci m) else if a = r.fd then some (.cf m) else if a = r.pt then some (.cp m) else ow a
section
variable {c : Cs} {P : Addr} {H H1 : Hp} {ow : Ow} {p : Addr} {s : Sh} {M : Nat} {b : B Tx} {es : List (Ev Tx)} {i j : Nat} {q : KA} {k : Kp Tx} {r : CA} {e : Ev Tx}
theorem owK_old {m : Nat} {a : Addr} {t : Tag} (ha : ow a = some t) (n1 : ow q.a = none) (n2 : ow q.lt = none) (n3 : ow q.ld = none) : owK ow m q a = some t := by
  have ne : ∀ {x : Addr}, ow x = none → a ≠ x := fun {x} hx z => by rw [z, hx] at ha; cases ha
  unfold owK
  rw [if_neg (ne n1), if_neg (ne n2), if_neg (ne n3)]
  exact ha
theorem owC_old {m : Nat} {a : Addr} {t : Tag} (ha : ow a = some t) (n1 : ow r.a = none) (n2 : ow r.fd = none) (n3 : ow r.pt = none) : owC ow m r a = some t := by
  have ne : ∀ {x : Addr}, ow x = none → a ≠ x := fun {x} hx z => by rw [z, hx] at ha; cases ha
  unfold owC
  rw [if_neg (ne n1), if_neg (ne n2), if_neg (ne n3)]
  exact ha
theorem at_app (b : B Tx) (k : Kp Tx) (x : Nat) (hx : x < b.kept.length) : (B.mk (b.kept ++ [k]) b.order).at x = b.at x := by
  unfold B.at
  simp only [List.getD_eq_getElem?_getD]
  rw [List.getElem?_append_left hx]
theorem at_app_new (b : B Tx) (k : Kp Tx) : (B.mk (b.kept ++ [k]) b.order).at b.kept.length = k := by
  unfold B.at
  simp only [List.getD_eq_getElem?_getD]
  rw [List.getElem?_append_right (Nat.le_refl _)]
  simp
theorem HSh.pushKept (h : HSh c P H ow p s M b es) (hM : M ≤ b.kept.length) (x1 : Same H H1) {n : Nat} {l : Ln} {nm : Nm} (na : H q.a = none) (nt : H q.lt = none) (nd : H q.ld = none)
    (hi : H1 q.a = some (.ins c.CK q.dx (kf n q.tv q.lt q.ld))) (ht : H1 q.lt = some (.lst [])) (hd : H1 q.ld = some (.lst [])) (ne : q.lt ≠ q.ld) (hl : Tp H1 q.tv (eLn l)) :
    HSh c P (upd H1 s.lk (.lst ((s.ka.map fun q => V.ref q.a) ++ [.ref q.a]))) (owK ow b.kept.length q) p { s with ka := s.ka ++ [q] } M { b with kept := b.kept ++ [⟨n, l, [], [], nm⟩] } es := by
  have h1 := h.same x1
  have o1 := h.fresh na
  have o2 := h.fresh nt
  have o3 := h.fresh nd
  have old : ∀ {a : Addr} {t : Tag}, ow a = some t → owK ow b.kept.length q a = some t := fun ha => owK_old ha o1 o2 o3
  have nlk : ∀ {a : Addr}, ow a = none → a ≠ s.lk := fun {a} ha z => by rw [z, h.ok] at ha; cases ha
  have up : ∀ {a : Addr} {t : Tag} {o : HO}, ow a = some t → t ≠ .kept → upd H1 s.lk o a = H1 a := fun {a t o} ha n => upd_ne (ne_tag ha h.ok n)
  have e1 : q.a ≠ q.lt := ne_of hi ht (fun z => by cases z)
  have e2 : q.a ≠ q.ld := ne_of hi hd (fun z => by cases z)
  have tg1 : owK ow b.kept.length q q.a = some (.ki b.kept.length) := by unfold owK; rw [if_pos rfl]
  have tg2 : owK ow b.kept.length q q.lt = some (.kt b.kept.length) := by unfold owK; rw [if_neg (Ne.symm e1), if_pos rfl]
  have tg3 : owK ow b.kept.length q q.ld = some (.kd b.kept.length) := by unfold owK; rw [if_neg (Ne.symm e2), if_neg (Ne.symm ne), if_pos rfl]
  have tk : Tk H1 (upd H1 s.lk (.lst ((s.ka.map fun q => V.ref q.a) ++ [.ref q.a]))) := h1.tkU h1.ok
  refine ⟨(up h.op (fun z => by cases z)).trans h1.hp, old h.op, by rw [upd_same, List.map_append]; rfl, old h.ok, (up h.oo (fun z => by cases z)).trans h1.ho, old h.oo, (up h.oc (fun z => by cases z)).trans h1.hc, old h.oc,
    by rw [List.length_append, List.length_append, h.kl]; rfl, fun x q' hx => ?_, h.cl, fun x r' e' a1 a2 => ?_, fun a t ha => ?_, h1.tabU h1.ok⟩
  · by_cases hlt : x < s.ka.length
    · rw [List.getElem?_append_left hlt] at hx
      rw [at_app b _ x (by rw [← h.kl]; exact hlt)]
      exact (h1.ks x q' hx).mono tk fun a' t ha' hc => ⟨up ha' (fun z => by rcases hc with y | y | y <;> rw [y] at z <;> cases z), (old ha').trans ha'.symm⟩
    · have hx2 := hx
      rw [List.getElem?_append_right (Nat.le_of_not_lt hlt)] at hx2
      have x0 : x = s.ka.length := by
        have := (List.getElem?_eq_some_iff.mp hx2).1
        rw [List.length_singleton] at this; omega
      rw [x0, Nat.sub_self] at hx2
      cases hx2
      rw [x0, h.kl, at_app_new]
      exact ⟨by rw [upd_ne (nlk o1)]; exact hi, Tp.mono tk hl, ⟨[], by rw [upd_ne (nlk o2)]; exact ht, .nil⟩, by rw [upd_ne (nlk o3)]; exact hd, tg1, tg2, tg3⟩
  · exact (h1.cs x r' e' a1 a2).mono tk (fun a' t ha' hc => ⟨up ha' (fun z => by rcases hc with y | y | y <;> rw [y] at z <;> cases z), (old ha').trans ha'.symm⟩) fun y hy => by rw [at_app b _ y (Nat.lt_of_lt_of_le hy hM)]
  · by_cases z1 : a = q.a
    · exact ⟨_, by rw [z1, upd_ne (nlk o1)]; exact hi, by trivial⟩
    · by_cases z2 : a = q.lt
      · exact ⟨_, by rw [z2, upd_ne (nlk o2)]; exact ht, by trivial⟩
      · by_cases z3 : a = q.ld
        · exact ⟨_, by rw [z3, upd_ne (nlk o3)]; exact hd, by trivial⟩
        · unfold owK at ha
          rw [if_neg z1, if_neg z2, if_neg z3] at ha
          exact h1.ownU h1.ok (o := .lst ((s.ka.map fun q => V.ref q.a) ++ [.ref q.a])) trivial a t ha
theorem HSh.pushChange (h : HSh c P H ow p s M b es) (x1 : Same H H1) {au : Tx} {l : List (Nat × Ft)} {kvs : List (Key × V)} (hb : ∀ i, i < M → (b.at i).born ≠ es.length + 1) (na : H r.a = none) (nf : H r.fd = none) (np : H r.pt = none)
    (hi : H1 r.a = some (.ins c.CC r.dx (cf au.s true r.fd r.pt))) (hf : H1 r.fd = some (.dK kvs)) (hF : Fts H1 kvs l) (hp : H1 r.pt = some (.lst [])) :
    HSh c P (upd H1 s.lc (.lst ((s.ca.map fun q => V.ref q.a) ++ [.ref r.a]))) (owC ow es.length r) p { s with ca := s.ca ++ [r] } M b (es ++ [⟨au, true, l⟩]) := by
  have h1 := h.same x1
  have o1 := h.fresh na
  have o2 := h.fresh nf
  have o3 := h.fresh np
  have old : ∀ {a : Addr} {t : Tag}, ow a = some t → owC ow es.length r a = some t := fun ha => owC_old ha o1 o2 o3
  have nlc : ∀ {a : Addr}, ow a = none → a ≠ s.lc := fun {a} ha z => by rw [z, h.oc] at ha; cases ha
  have up : ∀ {a : Addr} {t : Tag} {o : HO}, ow a = some t → t ≠ .changes → upd H1 s.lc o a = H1 a := fun {a t o} ha n => upd_ne (ne_tag ha h.oc n)
  have e1 : r.a ≠ r.fd := ne_of hi hf (fun z => by cases z)
  have e2 : r.a ≠ r.pt := ne_of hi hp (fun z => by cases z)
  have e3 : r.fd ≠ r.pt := ne_of hf hp (fun z => by cases z)
  have tg1 : owC ow es.length r r.a = some (.ci es.length) := by unfold owC; rw [if_pos rfl]
  have tg2 : owC ow es.length r r.fd = some (.cf es.length) := by unfold owC; rw [if_neg (Ne.symm e1), if_pos rfl]
  have tg3 : owC ow es.length r r.pt = some (.cp es.length) := by unfold owC; rw [if_neg (Ne.symm e2), if_neg (Ne.symm e3), if_pos rfl]
  have tk : Tk H1 (upd H1 s.lc (.lst ((s.ca.map fun q => V.ref q.a) ++ [.ref r.a]))) := h1.tkU h1.oc
  refine ⟨(up h.op (fun z => by cases z)).trans h1.hp, old h.op, (up h.ok (fun z => by cases z)).trans h1.hk, old h.ok, (up h.oo (fun z => by cases z)).trans h1.ho, old h.oo, by rw [upd_same, List.map_append]; rfl, old h.oc,
    h.kl, fun x q' hx => ?_, by rw [List.length_append, List.length_append, h.cl]; rfl, fun x r' e' a1 a2 => ?_, fun a t ha => ?_, h1.tabU h1.oc⟩
  · exact (h1.ks x q' hx).mono tk fun a' t ha' hc => ⟨up ha' (fun z => by rcases hc with y | y | y <;> rw [y] at z <;> cases z), (old ha').trans ha'.symm⟩
  · by_cases hlt : x < s.ca.length
    · rw [List.getElem?_append_left hlt] at a1
      rw [List.getElem?_append_left (by rw [← h.cl]; exact hlt)] at a2
      exact (h1.cs x r' e' a1 a2).mono tk (fun a' t ha' hc => ⟨up ha' (fun z => by rcases hc with y | y | y <;> rw [y] at z <;> cases z), (old ha').trans ha'.symm⟩) fun _ _ => rfl
    · rw [List.getElem?_append_right (Nat.le_of_not_lt hlt)] at a1
      rw [List.getElem?_append_right (by rw [← h.cl]; exact Nat.le_of_not_lt hlt)] at a2
      have x0 : x = s.ca.length := by
        have := (List.getElem?_eq_some_iff.mp a1).1
        rw [List.length_singleton] at this; omega
      rw [x0, Nat.sub_self] at a1
      rw [x0, h.cl, Nat.sub_self] at a2
      cases a1
      cases a2
      rw [x0, h.cl]
      refine ⟨by rw [upd_ne (nlc o1)]; exact hi, ⟨kvs, by rw [upd_ne (nlc o2)]; exact hf, hF.mono tk⟩, ⟨[], by rw [upd_ne (nlc o3)]; exact hp, fun i => ⟨fun z => (by simp at z), fun z => (hb i z.1 z.2).elim⟩, Nat.zero_le _⟩, tg1, tg2, tg3⟩
  · by_cases z1 : a = r.a
    · exact ⟨_, by rw [z1, upd_ne (nlc o1)]; exact hi, by trivial⟩
    · by_cases z2 : a = r.fd
      · exact ⟨_, by rw [z2, upd_ne (nlc o2)]; exact hf, by trivial⟩
      · by_cases z3 : a = r.pt
        · exact ⟨_, by rw [z3, upd_ne (nlc o3)]; exact hp, by trivial⟩
        · unfold owC at ha
          rw [if_neg z1, if_neg z2, if_neg z3] at ha
          exact h1.ownU h1.oc (o := .lst ((s.ca.map fun q => V.ref q.a) ++ [.ref r.a])) trivial a t ha
theorem HSh.pushPut (h : HSh c P H ow p s M b es) (hr : s.ca[j]? = some r) (he : es[j]? = some e) (hb : (b.at M).born = j + 1) {xs : List V} (hx : H r.pt = some (.lst xs)) :
    HSh c P (upd H r.pt (.lst (xs ++ [vN M]))) ow p s (M + 1) b es := by
  have C0 := h.cs j r e hr he
  have ne : ∀ {x : Addr} {t : Tag} {o : HO}, ow x = some t → t ≠ .cp j → upd H r.pt o x = H x := fun {x t o} hx n1 => upd_ne (ne_tag hx C0.op n1)
  refine ⟨(ne h.op (fun z => by cases z)).trans h.hp, h.op, (ne h.ok (fun z => by cases z)).trans h.hk, h.ok, (ne h.oo (fun z => by cases z)).trans h.ho, h.oo, (ne h.oc (fun z => by cases z)).trans h.hc, h.oc, h.kl, fun x q' hx => ?_, h.cl, fun x r' e' h1 h2 => ?_, h.ownU C0.op trivial, h.tabU C0.op⟩
  · exact (h.ks x q' hx).mono (h.tkU C0.op) fun a' t ha' ht => ⟨ne ha' (fun z => by rcases ht with y | y | y <;> rw [y] at z <;> cases z), rfl⟩
  · by_cases ex : x = j
    · subst ex
      rw [hr] at h1
      cases h1
      rw [he] at h2
      cases h2
      obtain ⟨kvs, f1, f2⟩ := C0.fts
      obtain ⟨ids, g1, g2, g3⟩ := C0.put
      rw [hx] at g1
      cases g1
      have n1 : r.fd ≠ r.pt := ne_tag C0.of_ C0.op fun z => by cases z
      have n2 : r.a ≠ r.pt := ne_tag C0.oi C0.op fun z => by cases z
      refine ⟨by rw [upd_ne n2]; exact C0.ins, ⟨kvs, by rw [upd_ne n1]; exact f1, f2.mono (h.tkU C0.op)⟩, ⟨ids ++ [M], by rw [upd_same, List.map_append]; rfl, fun i => ?_, by rw [List.length_append]; exact Nat.succ_le_succ g3⟩, C0.oi, C0.of_, C0.op⟩
      rw [List.mem_append, g2 i, List.mem_singleton]
      constructor
      · rintro (⟨y1, y2⟩ | y)
        · exact ⟨Nat.lt_succ_of_lt y1, y2⟩
        · rw [y]; exact ⟨Nat.lt_succ_self _, hb⟩
      · rintro ⟨y1, y2⟩
        by_cases z : i = M
        · exact .inr z
        · exact .inl ⟨by omega, y2⟩
    · have C1 := (h.cs x r' e' h1 h2)
      have g : ∀ a u, ow a = some u → (u = .ci x ∨ u = .cf x ∨ u = .cp x) → upd H r.pt (.lst (xs ++ [vN M])) a = H a ∧ ow a = ow a := fun a' t ha' ht => ⟨ne ha' (fun z => by
        rcases ht with y | y | y <;> rw [y] at z <;> cases z
        exact ex rfl), rfl⟩
      have C2 := C1.mono (b' := b) (h.tkU C0.op) g fun _ _ => rfl
      obtain ⟨ids, g1, g2, g3⟩ := C2.put
      refine ⟨C2.ins, C2.fts, ⟨ids, g1, fun i => ?_, Nat.le_succ_of_le g3⟩, C2.oi, C2.of_, C2.op⟩
      rw [g2 i]
      constructor
      · rintro ⟨y1, y2⟩
        exact ⟨Nat.lt_succ_of_lt y1, y2⟩
      · rintro ⟨y1, y2⟩
        refine ⟨?_, y2⟩
        by_cases z : i = M
        · rw [z, hb] at y2
          omega
        · omega
end
end Wh

namespace Wh
open PySem PySem.Spec PyProof.Rows L2 Wf
/-- the classes as the top leaves them -/
structure Tc (K : PySem.W.Frag) (mg : Str → Option Value) (c : Cs) : Prop where
  cH : Cls K c.CH
  cK : Cls K c.CK
  cC : Cls K c.CC
  hKept : NoAttr K c.CH "kept"
  hOrder : NoAttr K c.CH "order"
  hChanges : NoAttr K c.CH "changes"
  kBorn : NoAttr K c.CK "born"
  kLine : NoAttr K c.CK "line"
  kTexts : NoAttr K c.CK "texts"
  kDropped : NoAttr K c.CK "dropped"
  cAuthor : NoAttr K c.CC "author"
  cStands : NoAttr K c.CC "stands"
  cFates : NoAttr K c.CC "fates"
  cPut : NoAttr K c.CC "put"
abbrev sKI : Stmt := inClass (top 20) 0
abbrev sCI : Stmt := inClass (top 21) 0
abbrev sStands : Stmt := inClass (top 22) 1
abbrev sLastT : Stmt := inClass (top 22) 3
abbrev sShown : Stmt := inClass (top 22) 5
abbrev sGiven : Stmt := inClass (top 22) 10
abbrev sPutL : Stmt := top 18
def spKI (c : Cs) : Sp := fun vs H Q _ => ∃ (x dx : Addr) (n : Nat) (v : V), vs = [.ref x, vN n, v] ∧ H x = some (.ins c.CK dx []) ∧
  ∀ H' lt ld, H lt = none → H ld = none → lt ≠ ld → H' x = some (.ins c.CK dx (kf n v lt ld)) → H' lt = some (.lst []) → H' ld = some (.lst []) → (∀ a o, H a = some o → a ≠ x → H' a = some o) → Q .non H'
def spCI (c : Cs) : Sp := fun vs H Q _ => ∃ (x dx fd : Addr) (au : Str), vs = [.ref x, .str au, .ref fd] ∧ H x = some (.ins c.CC dx []) ∧
  ∀ H' pt, H pt = none → H' x = some (.ins c.CC dx (cf au true fd pt)) → H' pt = some (.lst []) → (∀ a o, H a = some o → a ≠ x → H' a = some o) → Q .non H'
def spStands (c : Cs) (P : Addr) : Sp := fun vs H Q _ => ∃ (p : Addr) (ow : Ow) (s : Sh) (M : Nat) (b : B Tx) (es : List (Ev Tx)) (n : Nat), vs = [.ref p, vN n] ∧ HSh c P H ow p s M b es ∧ n ≤ es.length ∧ Q (.bl (stands es n)) H
def spLastT (c : Cs) (P : Addr) : Sp := fun vs H Q _ => ∃ (p : Addr) (ow : Ow) (s : Sh) (M : Nat) (b : B Tx) (es : List (Ev Tx)) (i : Nat), vs = [.ref p, vN i] ∧ HSh c P H ow p s M b es ∧ i < b.kept.length ∧ (∀ q ∈ (b.at i).texts, q.1 ≤ es.length) ∧
  (lastText (stands es) (b.at i) = none → Q .non H) ∧ (∀ t, lastText (stands es) (b.at i) = some t → ∀ H' v, Same H H' → Tp H' v (eTx t) → Q v H')
def spShown (c : Cs) (P : Addr) : Sp := fun vs H Q _ => ∃ (p : Addr) (ow : Ow) (s : Sh) (M : Nat) (b : B Tx) (es : List (Ev Tx)) (i : Nat), vs = [.ref p, vN i] ∧ HSh c P H ow p s M b es ∧ i < b.kept.length ∧ (∀ q ∈ (b.at i).texts, q.1 ≤ es.length) ∧
  ∀ H' v, Same H H' → Tp H' v (eLn (shownLine (stands es) (b.at i))) → Q v H'
def spGiven (c : Cs) (P : Addr) : Sp := fun vs H Q _ => ∃ (p : Addr) (ow : Ow) (s : Sh) (M : Nat) (b : B Tx) (es : List (Ev Tx)) (i : Nat), vs = [.ref p, vN i] ∧ HSh c P H ow p s M b es ∧ i < b.kept.length ∧ (∀ q ∈ (b.at i).texts, q.1 ≤ es.length) ∧
  ∀ H', Same H H' → Q (vN (givenBy (stands es) (b.at i))) H'
def spPutL : Sp := fun vs H Q _ => ∃ (v u : V) (l : Ln) (ts : List Tx), vs = [v, u] ∧ Tp H v (eLn l) ∧ Tp H u (eBh ts) ∧ ts.length ≤ 100 ∧ ∀ H' a, Same H H' → H a = none → Lst H' a (ts.map fun t => eLn ⟨l.kd.behind, t⟩) → Q (.ref a) H'
theorem upd_no {H : Hp} {a z : Addr} {o : HO} (h : upd H a o z = none) : a ≠ z := fun e => by rw [← e, upd_same] at h; cases h
section
variable {P : Program} {w : World} {K : PySem.W.Frag} {mg : Str → Option Value} {base : Heap} {c : Cs} {Pt : Addr}
theorem scKI : FnScope ["self", "born", "line"] ["self", "born", "line"] (defScope sKI) := ⟨rfl, rfl, rfl, by decide +kernel, rfl, by decide +kernel, by decide +kernel⟩
theorem ok_ki {f : Addr} {fd : FuncData} (F : FnD K "__init__" "Kept.__init__" sKI f fd) (C : Tc K mg c) : FnOk P w K mg base CX0 1 f fd ["self", "born", "line"] (spKI c) := by
  refine fok F scKI (fun vs H Q E h => ?_) (fun cdv A outer s H vs Q E hr h => ?_)
  · obtain ⟨x, dx, n, v, rfl, _⟩ := h
    rfl
  · obtain ⟨x, dx, n, v, rfl, hx, q⟩ := h
    refine ⟨_, pss_cons (ps_fld (pv 0) (pv 1) rfl)
      (pss_cons (ps_fld (pv 0) (pv 2) rfl)
      (pss_cons (ps_fld (pv 0) (pe_lst pa_nil) rfl)
      (pss_one (ps_fld (pv 0) (pe_lst pa_nil) rfl)))), ?_⟩
    refine ⟨_, rfl, _, rfl, x, _, dx, _, rfl, hx, C.cK, C.kBorn, (by decide : 0 < 1000), ?_⟩
    refine ⟨_, rfl, _, rfl, x, _, dx, _, rfl, upd_same, C.cK, C.kLine, (by show 1 < 1000; decide), ?_⟩
    rw [upd_upd]
    refine ⟨Nat.zero_le _, fun lt nt => ⟨_, rfl, x, _, dx, _, rfl, (upd_ne (upd_no nt)).trans upd_same, C.cK, C.kTexts, (by show 2 < 1000; decide), ?_⟩⟩
    have n1 : x ≠ lt := fun z => by rw [← z, upd_same] at nt; cases nt
    have h1 : H lt = none := by rw [upd_ne (Ne.symm n1)] at nt; exact nt
    refine ⟨Nat.zero_le _, fun ld nd => ⟨_, rfl, x, _, dx, _, rfl, (upd_ne (upd_no nd)).trans upd_same, C.cK, C.kDropped, (by show 3 < 1000; decide), ?_⟩⟩
    have n2 : x ≠ ld := fun z => by rw [← z, upd_same] at nd; cases nd
    have n3 : ld ≠ lt := fun z => by rw [z, upd_ne (Ne.symm n1), upd_same] at nd; cases nd
    have h2 : H ld = none := by rw [upd_ne (Ne.symm n2), upd_ne n3, upd_ne (Ne.symm n2)] at nd; exact nd
    refine q _ lt ld h1 h2 (Ne.symm n3) upd_same ?_ ?_ fun a o e na => ?_
    · rw [upd_ne (Ne.symm n1), upd_ne (Ne.symm n3), upd_ne (Ne.symm n1)]
      exact upd_same
    · rw [upd_ne (Ne.symm n2)]
      exact upd_same
    · rw [upd_ne na, upd_ne (ne_of_none e h2), upd_ne na, upd_ne (ne_of_none e h1), upd_ne na]
      exact e
theorem scCI : FnScope ["self", "author", "fates"] ["self", "author", "fates"] (defScope sCI) := ⟨rfl, rfl, rfl, by decide +kernel, rfl, by decide +kernel, by decide +kernel⟩
theorem ok_ci {f : Addr} {fd : FuncData} (F : FnD K "__init__" "Change.__init__" sCI f fd) (C : Tc K mg c) : FnOk P w K mg base CX0 1 f fd ["self", "author", "fates"] (spCI c) := by
  refine fok F scCI (fun vs H Q E h => ?_) (fun cdv A outer s H vs Q E hr h => ?_)
  · obtain ⟨x, dx, fd', au, rfl, _⟩ := h
    rfl
  · obtain ⟨x, dx, fd', au, rfl, hx, q⟩ := h
    refine ⟨_, pss_cons (ps_fld (pv 0) (pv 1) rfl)
      (pss_cons (ps_fld (pv 0) pe_bl rfl)
      (pss_cons (ps_fld (pv 0) (pv 2) rfl)
      (pss_one (ps_fld (pv 0) (pe_lst pa_nil) rfl)))), ?_⟩
    refine ⟨_, rfl, _, rfl, x, _, dx, _, rfl, hx, C.cC, C.cAuthor, (by decide : 0 < 1000), ?_⟩
    refine ⟨_, rfl, x, _, dx, _, rfl, upd_same, C.cC, C.cStands, (by show 1 < 1000; decide), ?_⟩
    rw [upd_upd]
    refine ⟨_, rfl, _, rfl, x, _, dx, _, rfl, upd_same, C.cC, C.cFates, (by show 2 < 1000; decide), ?_⟩
    rw [upd_upd]
    refine ⟨Nat.zero_le _, fun pt np => ⟨_, rfl, x, _, dx, _, rfl, (upd_ne (upd_no np)).trans upd_same, C.cC, C.cPut, (by show 3 < 1000; decide), ?_⟩⟩
    have n1 : x ≠ pt := fun z => by rw [← z, upd_same] at np; cases np
    have h1 : H pt = none := by rw [upd_ne (Ne.symm n1)] at np; exact np
    refine q _ pt h1 upd_same ?_ fun a o e na => ?_
    · rw [upd_ne (Ne.symm n1)]
      exact upd_same
    · rw [upd_ne na, upd_ne (ne_of_none e h1), upd_ne na]
      exact e
theorem scStands : FnScope ["self", "number"] ["self", "number"] (defScope sStands) := ⟨rfl, rfl, rfl, by decide +kernel, rfl, by decide +kernel, by decide +kernel⟩
theorem ok_stands {f : Addr} {fd : FuncData} (F : FnD K "stands" "History.stands" sStands f fd) (C : Tc K mg c) (M : Meth K c.CH "stands" f) : Mt P w K mg base CX0 1 c.CH "stands" (spStands c Pt) := by
  refine ⟨f, fd, ["self", "number"], C.cH, M, fok F scStands (fun vs H Q E h => ?_) (fun cdv A outer s0 H vs Q E hr h => ?_), F.bindsN fun _ _ _ _ _ _ us hl => match us, hl with | [_, _], _ => rfl⟩
  · obtain ⟨p, ow, s, M, b, es, n, rfl, _⟩ := h
    rfl
  · obtain ⟨p, ow, s, M, b, es, n, rfl, h, hn, q⟩ := h
    refine ⟨_, pss_one (ps_ret (pe_or (pe_cmpR op_eq (pv 1) pe_int (nomark _)) (pe_one (pe_fld (pe_ix ix_list (pe_fld (pv 0) rfl) (pe_op op_sub (pv 1) pe_int) (fun _ _ => rfl)) rfl)))), ?_⟩
    refine ⟨_, rfl, rfl, _, rfl, ?_⟩
    by_cases e : n = 0
    · have e1 : decide (V.int (n : Int) = V.int 0) = true := decide_eq_true (by rw [e]; rfl)
      rw [e1]
      refine iteT ?_
      have e2 : stands es n = true := by rw [e]; rfl
      rw [e2] at q
      exact q
    · have e1 : decide (V.int (n : Int) = V.int 0) = false := decide_eq_false fun z => by
        have := V.int.inj z
        omega
      rw [e1]
      refine iteF ?_
      have hj : n - 1 < es.length := by omega
      obtain ⟨r, h1, h2⟩ := h.cat (List.getElem?_eq_getElem hj)
      refine ⟨_, rfl, p, _, _, _, _, rfl, h.hp, C.cH, C.hChanges, rfl, _, rfl, _, _, rfl, rfl, s.lc, _, _, _, rfl, rfl, SqL.of h.hc, at_of (j := n - 1) (by omega) (by rw [List.getElem?_map, h1]; rfl), ?_⟩
      refine ⟨r.a, _, _, _, _, rfl, h2.ins, C.cC, C.cStands, rfl, ?_⟩
      have e2 : stands es n = es[n - 1].stands := by
        unfold stands
        have : (n == 0) = false := by simpa using e
        rw [this, List.getElem?_eq_getElem hj]
        rfl
      rw [e2] at q
      exact q
theorem scLastT : FnScope ["self", "which", "number", "text"] ["self", "which"] (defScope sLastT) := ⟨rfl, rfl, rfl, by decide +kernel, rfl, by decide +kernel, by decide +kernel⟩
theorem find_rev {α : Type} {f : α → Bool} : ∀ (l : List α) (i : Nat), i < l.length → (∀ x ∈ l.drop (l.length - i), f x = false) → ∀ x, l[l.length - 1 - i]? = some x → (f x = true → l.reverse.find? f = some x) ∧ (f x = false → ∀ y ∈ l.drop (l.length - (i + 1)), f y = false)
  | l, i, hi, hno, x, hx => by
    have hk : l.length - 1 - i < l.length := by omega
    have e0 : l.drop (l.length - (i + 1)) = x :: l.drop (l.length - i) := by
      have e1 : l.length - (i + 1) = l.length - 1 - i := by omega
      have e2 : l.length - i = l.length - 1 - i + 1 := by omega
      rw [e1, e2, List.drop_eq_getElem_cons hk]
      rw [List.getElem?_eq_getElem hk] at hx
      rw [Option.some.inj hx]
    constructor
    · intro hf
      have e3 : l.reverse = (l.drop (l.length - i)).reverse ++ (x :: (l.take (l.length - (i + 1))).reverse) := by
        have := congrArg List.reverse (List.take_append_drop (l.length - (i + 1)) l)
        rw [e0] at this
        rw [← this, List.reverse_append, List.reverse_cons]
        simp
      rw [e3, List.find?_append]
      have : List.find? f (l.drop (l.length - i)).reverse = none := List.find?_eq_none.mpr fun y hy => by
        rw [hno y (List.mem_reverse.mp hy)]
        simp
      rw [this]
      simp [hf]
    · intro hf y hy
      rw [e0] at hy
      rcases List.mem_cons.mp hy with z | z
      · rw [z]; exact hf
      · exact hno y z
theorem ok_lastT {f : Addr} {fd : FuncData} (F : FnD K "last_text" "History.last_text" sLastT f fd) (T : Bt mg) (C : Tc K mg c) (M : Meth K c.CH "last_text" f) (GS : Mt P w K mg base CX0 1 c.CH "stands" (spStands c Pt)) :
    Mt P w K mg base CX0 2 c.CH "last_text" (spLastT c Pt) := by
  refine ⟨f, fd, ["self", "which"], C.cH, M, fok F scLastT (fun vs H Q E h => ?_) (fun cdv A outer s0 H vs Q E hr h => ?_), F.bindsN fun _ _ _ _ _ _ us hl => match us, hl with | [_, _], _ => rfl⟩
  · obtain ⟨p, ow, s, M, b, es, n, rfl, _⟩ := h
    rfl
  · obtain ⟨p, ow, s, M, b, es, i, rfl, h, hi, ht, q0, q1⟩ := h
    refine ⟨_, pss_cons (ps_for PassesOwn.never rfl (pi_reversed (by rfl) T.reversed (pa_cons (pe_fld (pe_ix ix_list (pe_fld (pv 0) rfl) (pv 1) (fun _ _ => rfl)) rfl) pa_nil)) (pg_tup rfl (pgs_cons (pg_name (i := 2) scLastT.nd rfl (.inl rfl)) (pgs_cons (pg_name (i := 3) scLastT.nd rfl (.inl rfl)) pgs_nil)))
        (pss_one (ps_if (pt_val (pe_mt GS hr (by decide) pass0 (pv 0) (pa_cons (pv 2) pa_nil)))
            (pss_one (ps_ret (pe_tup (pa_cons (pv 2) (pa_cons (pv 3) pa_nil)))))
            (pss_nil))))
      (pss_one (ps_ret pe_non)), ?_⟩
    obtain ⟨r, h1, h2⟩ := h.kat hi
    obtain ⟨xs, hx, tx⟩ := h2.txt
    have hlen : xs.length = (b.at i).texts.length := by rw [tx.len, List.length_map]
    refine ⟨_, rfl, p, _, _, _, _, rfl, h.hp, C.cH, C.hKept, rfl, _, rfl, s.lk, _, _, _, rfl, rfl, SqL.of h.hk, at_of (j := i) rfl (by rw [List.getElem?_map, h1]; rfl), r.a, _, _, _, _, rfl, h2.ins, C.cK, C.kTexts, rfl, r.lt, xs, rfl, SqL.of hx, ?_⟩
    refine for_it walk_rev (fun j σ H' => H' = H ∧ (∃ v u, σ = [some (.ref p), some (vN i), v, u]) ∧ ∀ y ∈ (b.at i).texts.drop ((b.at i).texts.length - j), stands es y.1 = false) ⟨rfl, ⟨_, _, rfl⟩, fun y hy => by rw [Nat.sub_zero, List.drop_length] at hy; cases hy⟩
      (fun _ _ H' _ z => by rw [z.1]; exact SqL.of hx) ?_ ?_
    · rintro j x σ H1 H2 hj ⟨rfl, ⟨v, u, rfl⟩, hno⟩ ⟨rfl, hxj⟩
      obtain ⟨d, hd, tp⟩ := tx.at hxj
      rw [List.getElem?_map, hlen] at hd
      cases hy : (b.at i).texts[(b.at i).texts.length - 1 - j]? with
      | none => rw [hy] at hd; cases hd
      | some t =>
        rw [hy] at hd
        cases hd
        obtain ⟨a, x1, x2, rfl, ha, p1, p2⟩ := tp.two
        obtain rfl := p1.intE
        obtain rfl := p2.strE
        have hmem : t ∈ (b.at i).texts := List.mem_of_getElem? hy
        obtain ⟨f1, f2⟩ := find_rev (f := fun y : Nat × Tx => stands es y.1) (b.at i).texts j (by rw [← hlen]; exact hj) hno t hy
        refine ⟨a, _, rfl, .inl (.of ha), rfl, _, _, rfl, _, _, rfl, rfl, ?_⟩
        refine ⟨_, rfl, p, _, _, rfl, h.hp, rfl, _, rfl, p, ow, s, M, b, es, t.1, rfl, h, ht t hmem, _, rfl, ?_⟩
        refine ite2 (fun y => ?_) (fun y => ?_)
        · refine ⟨_, rfl, _, rfl, szT 2 (by decide), fun z nz => ?_⟩
          exact q1 t (f1 y) _ _ (snew nz) (Tp.mk (ds := [.int (t.1 : Int), .str t.2.s]) nz (.cons (.int _) (.one (.str _))))
        · exact ⟨rfl, ⟨_, _, rfl⟩, f2 (by simpa using y)⟩
    · rintro σ H' ⟨rfl, ⟨v, u, rfl⟩, hno⟩
      refine q0 (List.find?_eq_none.mpr fun y hy => ?_)
      have := hno y (by rw [hlen, Nat.sub_self, List.drop_zero]; exact List.mem_reverse.mp hy)
      rw [this]
      simp
end
end Wh

namespace Wh
open PySem PySem.Spec PyProof.Rows L2 Wf
section
variable {P : Program} {w : World} {K : PySem.W.Frag} {mg : Str → Option Value} {base : Heap} {c : Cs} {Pt : Addr}
theorem scShown : FnScope ["self", "which", "last"] ["self", "which"] (defScope sShown) := ⟨rfl, rfl, rfl, by decide +kernel, rfl, by decide +kernel, by decide +kernel⟩
theorem ok_shown {f : Addr} {fd : FuncData} (F : FnD K "shown" "History.shown" sShown f fd) (T : Bt mg) (C : Tc K mg c) (M : Meth K c.CH "shown" f) (GLT : Mt P w K mg base CX0 2 c.CH "last_text" (spLastT c Pt)) :
    Mt P w K mg base CX0 3 c.CH "shown" (spShown c Pt) := by
  refine ⟨f, fd, ["self", "which"], C.cH, M, fok F scShown (fun vs H Q E h => ?_) (fun cdv A outer s0 H vs Q E hr h => ?_), F.bindsN fun _ _ _ _ _ _ us hl => match us, hl with | [_, _], _ => rfl⟩
  · obtain ⟨p, ow, s, M, b, es, n, rfl, _⟩ := h
    rfl
  · obtain ⟨p, ow, s, M, b, es, i, rfl, h, hi, ht, q⟩ := h
    refine ⟨_, pss_cons (ps_set (i := 2) scShown.nd rfl (.inl rfl) (pe_mt GLT hr (by decide) pass0 (pv 0) (pa_cons (pv 1) pa_nil)))
      (pss_cons (ps_if (pt_cmpR op_isN (pv 2) pe_non (nomark _))
        (pss_one (ps_ret (pe_fld (pe_ix ix_list (pe_fld (pv 0) rfl) (pv 1) (fun _ _ => rfl)) rfl)))
        (pss_nil))
      (pss_one (ps_ret (pe_tup (pa_cons (pe_ix ix_tup (pe_fld (pe_ix ix_list (pe_fld (pv 0) rfl) (pv 1) (fun _ _ => rfl)) rfl) pe_int (fun _ _ => rfl)) (pa_cons (pe_ix ix_tup (pv 2) pe_int (fun _ _ => rfl)) pa_nil)))))), ?_⟩
    obtain ⟨r, h1, h2⟩ := h.kat hi
    refine ⟨_, rfl, p, _, _, rfl, h.hp, rfl, _, rfl, p, ow, s, M, b, es, i, rfl, h, hi, ht, fun e => ?_, fun t e H' v s1 tv => ?_⟩
    · refine ⟨_, rfl, rfl, _, rfl, iteT ?_⟩
      refine ⟨_, rfl, p, _, _, _, _, rfl, h.hp, C.cH, C.hKept, rfl, _, rfl, s.lk, _, _, _, rfl, rfl, SqL.of h.hk, at_of (j := i) rfl (by rw [List.getElem?_map, h1]; rfl), r.a, _, _, _, _, rfl, h2.ins, C.cK, C.kLine, rfl, ?_⟩
      refine q _ _ (Same.refl _) ?_
      unfold shownLine
      rw [e]
      exact h2.line
    · obtain ⟨a, x1, x2, rfl, ha, p1, p2⟩ := tv.two
      obtain rfl := p1.intE
      obtain rfl := p2.strE
      have h' := h.same s1
      obtain ⟨r', h1', h2'⟩ := h'.kat hi
      obtain ⟨a2, y1, y2, ey, ha2, g1, g2⟩ := h2'.line.two
      obtain rfl := g1.strE
      obtain rfl := g2.strE
      refine ⟨_, rfl, rfl, _, rfl, iteF ?_⟩
      refine ⟨_, rfl, p, _, _, _, _, rfl, h'.hp, C.cH, C.hKept, rfl, _, rfl, s.lk, _, _, _, rfl, rfl, SqL.of h'.hk, at_of (j := i) rfl (by rw [List.getElem?_map, h1']; rfl), r'.a, _, _, _, _, rfl, h2'.ins, C.cK, C.kLine, rfl, ?_⟩
      refine ⟨a2, _, 0, _, ey, rfl, .inl (.of ha2), at_of (j := 0) rfl rfl, ?_⟩
      refine ⟨_, rfl, a, _, 1, _, rfl, rfl, .inl (.of ha), at_of (j := 1) rfl rfl, szT 2 (by decide), fun z nz => ?_⟩
      refine q _ _ (s1.trans (snew nz)) ?_
      unfold shownLine
      rw [e]
      exact Tp.mk (ds := [.str (kdS (b.at i).line.kd), .str t.2.s]) nz (.cons (.str _) (.one (.str _)))
theorem scGiven : FnScope ["self", "which", "last"] ["self", "which"] (defScope sGiven) := ⟨rfl, rfl, rfl, by decide +kernel, rfl, by decide +kernel, by decide +kernel⟩
theorem ok_given {f : Addr} {fd : FuncData} (F : FnD K "given_by" "History.given_by" sGiven f fd) (T : Bt mg) (C : Tc K mg c) (M : Meth K c.CH "given_by" f) (GLT : Mt P w K mg base CX0 2 c.CH "last_text" (spLastT c Pt)) :
    Mt P w K mg base CX0 3 c.CH "given_by" (spGiven c Pt) := by
  refine ⟨f, fd, ["self", "which"], C.cH, M, fok F scGiven (fun vs H Q E h => ?_) (fun cdv A outer s0 H vs Q E hr h => ?_), F.bindsN fun _ _ _ _ _ _ us hl => match us, hl with | [_, _], _ => rfl⟩
  · obtain ⟨p, ow, s, M, b, es, n, rfl, _⟩ := h
    rfl
  · obtain ⟨p, ow, s, M, b, es, i, rfl, h, hi, ht, q⟩ := h
    refine ⟨_, pss_cons (ps_set (i := 2) scGiven.nd rfl (.inl rfl) (pe_mt GLT hr (by decide) pass0 (pv 0) (pa_cons (pv 1) pa_nil)))
      (pss_one (ps_ret (pe_ifExp (pt_cmpR op_isN (pv 2) pe_non (nomark _)) (pe_fld (pe_ix ix_list (pe_fld (pv 0) rfl) (pv 1) (fun _ _ => rfl)) rfl) (pe_ix ix_tup (pv 2) pe_int (fun _ _ => rfl))))), ?_⟩
    obtain ⟨r, h1, h2⟩ := h.kat hi
    refine ⟨_, rfl, p, _, _, rfl, h.hp, rfl, _, rfl, p, ow, s, M, b, es, i, rfl, h, hi, ht, fun e => ?_, fun t e H' v s1 tv => ?_⟩
    · refine ⟨_, rfl, rfl, _, rfl, iteT ?_⟩
      refine ⟨_, rfl, p, _, _, _, _, rfl, h.hp, C.cH, C.hKept, rfl, _, rfl, s.lk, _, _, _, rfl, rfl, SqL.of h.hk, at_of (j := i) rfl (by rw [List.getElem?_map, h1]; rfl), r.a, _, _, _, _, rfl, h2.ins, C.cK, C.kBorn, rfl, ?_⟩
      have := q _ (Same.refl _)
      unfold givenBy at this
      rw [e] at this
      exact this
    · obtain ⟨a, x1, x2, rfl, ha, p1, p2⟩ := tv.two
      obtain rfl := p1.intE
      obtain rfl := p2.strE
      refine ⟨_, rfl, rfl, _, rfl, iteF ?_⟩
      refine ⟨_, rfl, a, _, 0, _, rfl, rfl, .inl (.of ha), at_of (j := 0) rfl rfl, ?_⟩
      have := q _ s1
      unfold givenBy at this
      rw [e] at this
      exact this
theorem scPutL : FnScope ["line", "texts", "kind", "text"] ["line", "texts"] (defScope sPutL) := ⟨rfl, rfl, rfl, by decide +kernel, rfl, by decide +kernel, by decide +kernel⟩
theorem kd_behind (k : Kd) : decide (V.str (kdS k) = V.str "prose") = (match k with | .prose => true | _ => false) := by
  cases k <;> decide +kernel
theorem ok_putl {f : Addr} {fd : FuncData} (F : FnD K "put_lines" "put_lines" sPutL f fd) (hm : mg "put_lines" = some (.ref f)) : Fn P w K mg base CX0 1 "put_lines" spPutL := by
  refine ⟨f, fd, ["line", "texts"], fok F scPutL (fun vs H Q E h => ?_) (fun cdv A outer s H vs Q E hr h => ?_), hm, F.kp, F.bindsN fun _ _ _ _ _ _ us hl => match us, hl with | [_, _], _ => rfl⟩
  · obtain ⟨v, u, l, ts, rfl, _⟩ := h
    rfl
  · obtain ⟨v, u, ⟨kd, t⟩, ts, rfl, hl, hu, hts, q⟩ := h
    refine ⟨_, pss_cons (ps_set (i := 2) scPutL.nd rfl (.inr rfl) (pe_ifExp (pt_cmpR op_eq (pe_ix ix_tup (pv 0) pe_int (fun _ _ => rfl)) pe_str (nomark _)) pe_str pe_str))
      (pss_one (ps_ret (pe_lc (own := [("text", 3)]) (g := gName 3) (tt := tYes) rfl scPutL.nd (pi_tup (pv 1)) (blkOk_by (own := [("text", 3)]) (N := ["line", "texts", "kind", "text"]) (sc := defScope sPutL) (by decide +kernel)) (fun _ _ _ _ _ => pg_name (i := 3) scPutL.nd rfl (.inl rfl)) (fun _ _ _ _ _ => pts_nil) (fun _ _ _ _ _ => pe_tup (pa_cons (pv 2) (pa_cons (pv 3) pa_nil)))))), ?_⟩
    obtain ⟨a, x, y, rfl, ha, hx, hy⟩ := hl.two
    obtain rfl := hx.strE
    obtain rfl := hy.strE
    obtain ⟨a2, xs, rfl, ha2, t2⟩ := hu.tupE
    have ex : xs = (ts.map Tx.s).map V.str := Tps.strsE (l := ts.map Tx.s) (by rw [List.map_map]; exact t2)
    refine ⟨_, rfl, a, _, 0, _, rfl, rfl, .inl (.of ha), at_of (j := 0) rfl rfl, rfl, _, rfl, ?_⟩
    have hx2 : xs.length = ts.length := by rw [ex, List.length_map, List.length_map]
    have elt : ∀ {i : Nat} {z : V}, xs[i]? = some z → ∃ u, ts[i]? = some u ∧ z = .str u.s := fun {i z} hz => by
      rw [ex, List.getElem?_map, List.getElem?_map] at hz
      cases hq : ts[i]? with
      | none => rw [hq] at hz; cases hz
      | some u => rw [hq] at hz; exact ⟨u, rfl, (Option.some.inj hz).symm⟩
    obtain ⟨kb, hkb⟩ : ∃ kb, kb = kd.behind := ⟨_, rfl⟩
    have q' : ∀ H' a, Same H H' → H a = none → Lst H' a (ts.map fun t => eLn ⟨kb, t⟩) → Q (.ref a) H' := by rw [hkb]; exact q
    clear q
    cases kd
    case' prose => refine iteT ?_
    case' head => refine iteF ?_
    case' code => refine iteF ?_
    all_goals
      refine ⟨_, rfl, a2, rfl, ⟨_, .inl (.of ha2)⟩, fun D nD => ?_⟩
      refine lc_it (walk_tup (xs := xs)) (fun i H' => Same H H' ∧ Lst H' D ((ts.take i).map fun t => eLn ⟨kb, t⟩)) ⟨snew nD, by rw [List.take_zero]; exact ⟨[], upd_same, .nil⟩⟩ (fun i H' _ h => .inl (.of (h.1 _ _ ha2))) ?_ ?_
      · rintro i x H1 H2 hi ⟨s1, ys, hD, ht⟩ ⟨rfl, hx⟩
        obtain ⟨u, hu, rfl⟩ := elt hx
        have hy : ys.length = i := by rw [ht.len, List.length_map, List.length_take]; omega
        refine ⟨rfl, _, rfl, _, rfl, szT 2 (by decide), fun z nz => ⟨ys, ?_, small1000 (by omega), ?_, ?_⟩⟩
        · exact snew nz _ _ hD
        · exact sat (s1.trans (snew nz)) nD
        · rw [List.take_add_one, hu, List.map_append]
          exact Lst.push (snew nz _ _ hD) (Tps.mono (Tk.new nz) ht) (Tp.mk (ds := [.str (kdS kb), .str u.s]) nz (.cons (by rw [hkb]; exact .str _) (.one (.str _))))
      · rintro H' ⟨s1, hD⟩
        rw [hx2, List.take_length] at hD
        exact q' _ _ s1 nD hD
end
end Wh

/-! A rule of our own: any(self.stands(number) for number in a list). -/
namespace Wh
open PySem PySem.Spec PyProof.Rows L2 Wf
/-- what a number's standing is read from -/
structure StOk (c : Cs) (H : Hp) (p : Addr) (es : List (Ev Tx)) : Prop where
  ex : ∃ (dx lk lo lc : Addr) (xs : List Addr), H p = some (.ins c.CH dx (hf lk lo lc)) ∧ H lc = some (.lst (xs.map V.ref)) ∧ xs.length = es.length ∧
    ∀ (j : Nat) (a : Addr) (e : Ev Tx), xs[j]? = some a → es[j]? = some e → ∃ dy fd pt : Addr, H a = some (.ins c.CC dy (cf e.author.s e.stands fd pt))
theorem HSh.stOk {c : Cs} {P : Addr} {H : Hp} {ow : Ow} {p : Addr} {s : Sh} {M : Nat} {b : B Tx} {es : List (Ev Tx)} (h : HSh c P H ow p s M b es) : StOk c H p es := by
  refine ⟨s.dx, s.lk, s.lo, s.lc, s.ca.map (·.a), h.hp, by rw [h.hc, List.map_map]; rfl, by rw [List.length_map, h.cl], fun j a e h1 h2 => ?_⟩
  obtain ⟨r, q1, q2⟩ := h.cat h2
  rw [List.getElem?_map, q1] at h1
  cases h1
  exact ⟨_, _, _, q2.ins⟩
section
variable {P : Program} {w : World} {K : PySem.W.Frag} {mg : Str → Option Value} {c : Cs}
theorem list_raw {H : Hp} {h : Heap} {a : Addr} {xs : List V} (hok : HOk P w H h) (e : H a = some (.lst xs)) : xs.length ≤ sizeLine ∧ ∃ its : List Value, Vals xs its ∧ h.IsList a its.toArray := by
  obtain ⟨z, its, n, r, o⟩ := (show ObjOk P w H h a (.lst xs) from hok a _ e)
  exact ⟨z, its, r, ⟨_, o, rfl, _, rfl⟩⟩
theorem raw_stands {f : Addr} {fd : FuncData} (F : FnD K "stands" "History.stands" sStands f fd) (C : Tc K mg c) {A : Around} {s : Shared} {H : Hp} {p : Addr} {es : List (Ev Tx)} {n : Nat} {t : Tok} {Q E : Value → Shared → Prop}
    (X : K.In s.heap) (lim : s.heap.NoLimit) (hok : HOk P w H s.heap) (so : StOk c H p es) (hn : n ≤ es.length) (hd : A.depth < recursionLimit)
    (q : ∀ s', Keeps s s' → Q (.bool (stands es n)) s') : wpAny (model P w) A (call (.ref f) [.ref p, .int n t]) Q E s := by
  have hb := (F.bindsN (ps := ["self", "number"]) fun _ _ _ _ _ _ us hl => match us, hl with | [_, _], _ => rfl) s [.ref p, .int n t] X rfl
  obtain ⟨oc, od, dV, kV, doc, pm, an, cdv, ct, osl, rfl, lk, hcd, _, _⟩ := F.ex
  obtain ⟨dx, lk0, lo, lc, xs, hp, hc, hl, hj⟩ := so.ex
  refine wpAny_call (Att.call_fn X lim lk hcd hd hb (by rfl) (fun s₁ ic => ?_) rfl rfl rfl)
  have k1 : ∀ b o, s.heap.get? b = some o → s₁.heap.get? b = some o := ic.toInCall.keep
  have hok1 : HOk P w H s₁.heap := fun a o e => (hok a o e).stay (fun b u _ z => k1 b u z) (fun _ z => z) fun _ _ z => z
  have X1 := X.keeps k1
  have ns := ic.toInCall.ns
  obtain ⟨h1, tk1, e1⟩ := ic.toInCall.same
  subst e1
  obtain ⟨m, hm, ms, mn⟩ : ∃ m : Str → Option Value, h1.Ns s.heap.objs.size m ∧ m "self" = some (.ref p) ∧ m "number" = some (.int n t) := ⟨_, ns, rfl, rfl⟩
  clear ns
  have fin : ∀ tk, Keeps s { s with heap := h1, toks := tk } := fun tk => ⟨h1, tk, rfl, k1⟩
  refine wpAny_execs_cons (wpAny_Return_some (BoolOp_or (wpAny_Compare1 (wpAny_Name (wpAny_loadName_local rfl rfl hm mn ?_) (by decide)) (by rfl))))
  refine wpAny_Constant_int (eq_int (wpAny_truthy_bool ?_))
  by_cases e : n = 0
  · have e3 : ((n : Int) == 0) = true := by rw [e]; rfl
    rw [e3, if_pos rfl]
    have e2 : stands es n = true := by rw [e]; rfl
    rw [e2] at q
    exact q _ (fin _)
  · have e1 : ¬ (((n : Int) == 0) = true) := by
      simp only [beq_iff_eq]
      omega
    rw [if_neg e1]
    have hjn : n - 1 < es.length := by omega
    obtain ⟨mA, O, r, _, _, _⟩ := ins_get hok1 hp
    obtain ⟨u, hu, ru⟩ := RelO.some_of (v := V.ref lc) (o := mA "changes") (show RelO (some (V.ref lc)) (mA "changes") from r "changes")
    cases ru
    refine BoolOp_one (attr_of rfl (Subscript_ (attr_of rfl (wpAny_Name (wpAny_loadName_local rfl rfl hm ms ?_) (by decide)))))
    refine get_map X1 O (C.cH.get "changes") C.cH.hd C.hChanges hu rfl ?_
    refine wpAny_BinOp (wpAny_Name (wpAny_loadName_local rfl rfl hm mn ?_) (by decide))
    refine wpAny_Constant_int (sub_int ?_)
    obtain ⟨zl, its, rv, il⟩ := list_raw hok1 hc
    have n63 := line63
    rw [List.length_map] at zl
    obtain ⟨a, ha⟩ : ∃ a, xs[n - 1]? = some a := ⟨xs[n - 1]'(by omega), List.getElem?_eq_getElem _⟩
    obtain ⟨w1, hw1, rw1⟩ := rv.get (show (xs.map V.ref)[n - 1]? = some (V.ref a) by rw [List.getElem?_map, ha]; rfl)
    cases rw1
    have hnn : ((n : Int) - 1).toNat = n - 1 := by omega
    refine item_listR il (by omega) ?_ (by rw [hnn]; simpa using hw1) ?_
    · have : (n : Int) - 1 < ((sizeLine : Nat) : Int) := by omega
      have h2 : ((sizeLine : Nat) : Int) < 2 ^ 63 := by exact_mod_cast n63
      omega
    obtain ⟨dy, fd, pt, hA⟩ := hj (n - 1) a es[n - 1] ha (List.getElem?_eq_getElem hjn)
    obtain ⟨mB, O2, r2, _, _, _⟩ := ins_get hok1 hA
    obtain ⟨u2, hu2, ru2⟩ := RelO.some_of (v := V.bl es[n - 1].stands) (o := mB "stands") (show RelO (some (V.bl es[n - 1].stands)) (mB "stands") from r2 "stands")
    cases ru2
    refine get_map X1 O2 (C.cC.get "stands") C.cC.hd C.cStands hu2 rfl ?_
    have e2 : stands es n = es[n - 1].stands := by
      unfold stands
      have : (n == 0) = false := by simpa using e
      rw [this, List.getElem?_eq_getElem hjn]
      rfl
    rw [e2] at q
    exact q _ (fin _)
/-- all but the table -/
def noT (Pt : Addr) (H : Hp) : Hp := fun a => if a = Pt then none else H a
theorem noT_ne {Pt a : Addr} {H : Hp} (h : a ≠ Pt) : noT Pt H a = H a := if_neg h
theorem StOk.noT {H : Hp} {Pt p : Addr} {es : List (Ev Tx)} (so : StOk c H p es) (tb : GxR.TabG H Pt) : StOk c (noT Pt H) p es := by
  obtain ⟨dx, lk, lo, lc, xs, h1, h2, h3, h4⟩ := so.ex
  have ne : ∀ {a : Addr} {o : HO}, H a = some o → (∀ q, o ≠ .tbl q) → Wh.noT Pt H a = some o := fun {a o} e q => by
    rw [noT_ne fun z => ?_]
    · exact e
    · obtain ⟨ps, e2, _⟩ := tb
      rw [z, e2] at e
      exact q ps (Option.some.inj e).symm
  refine ⟨dx, lk, lo, lc, xs, ne h1 (fun q z => by cases z), ne h2 (fun q z => by cases z), h3, fun j a e g1 g2 => ?_⟩
  obtain ⟨dy, fd, pt, g⟩ := h4 j a e g1 g2
  exact ⟨dy, fd, pt, ne g (fun q z => by cases z)⟩
theorem hok_noT {H : Hp} {h h' : Heap} {Pt : Addr} (tb : GxR.TabG H Pt) (hok : HOk P w H h) (kp : ∀ b o, b ≠ Pt → h.get? b = some o → h'.get? b = some o) : HOk P w (noT Pt H) h' := by
  intro a o e
  have na : a ≠ Pt := fun z => by
    unfold Wh.noT at e
    rw [if_pos z] at e
    cases e
  rw [noT_ne na] at e
  have nt : ∀ {b : Addr} {u : HO}, H b = some u → (∀ q, u ≠ .tbl q) → b ≠ Pt := fun {b u} e' q z => by
    obtain ⟨ps, e2, _⟩ := tb
    rw [z, e2] at e'
    exact q ps (Option.some.inj e').symm
  refine (hok a o e).stay (fun b u hb q => kp b u ?_ q) (fun b hb => ?_) fun b xs hb => ?_
  · rcases hb with z | z
    · rw [z]; exact na
    · exact nt z fun q z => by cases z
  · rw [noT_ne (nt hb fun q z => by cases z)]; exact hb
  · rw [noT_ne (nt hb fun q z => by cases z)]; exact hb
section
variable {X : Cx} {pins : List (Addr × Obj)} {σ : L2.St} {H1 : Hp} {s1 s2 : Shared} {f Pt p cA : Addr} {fd : FuncData} {es : List (Ev Tx)}
/-- the generator's scope, its element -/
def scG : Scope := ⟨.function, [(".0", .local), ("number", .local), ("self", .free)], true, false, []⟩
def eltG : Expr := .Call (.Attribute (.Name "self" ⟨114, 52, 114, 56⟩) "stands" ⟨114, 52, 114, 63⟩) [.Name "number" ⟨114, 64, 114, 70⟩] [] ⟨114, 52, 114, 71⟩
theorem elt_st (I : Inv X pins σ H1 s1) (F : FnD X.K "stands" "History.stands" sStands f fd) (C : Tc X.K X.mg c) (M : Meth X.K c.CH "stands" f) (tb : GxR.TabG H1 Pt) (so : StOk c H1 p es) {A : Around} {n : Nat} {t : Tok} {E : Value → Shared → Prop}
    {m : Str → Option Value} {L : Addr} {code : Value} {bi : Addr} (hc : X.env.cells.lookup ("self" : Str) = some cA) (hcl : s1.heap.IsCell cA (some (.ref p)))
    (hcn : H1 cA = none)
    (kp : ∀ b o, b ≠ Pt → s1.heap.get? b = some o → s2.heap.get? b = some o) (hd : A.depth < recursionLimit) (hn : n ≤ es.length) (ns : s2.heap.Ns L m) (hm : m "number" = some (.int n t)) :
    wpAny (model X.prog X.w) A (eval eltG (genEnv scG (cloFrom X.env.cells scG.names []) L code bi X.env)) (fun y s3 => y = .bool (stands es n) ∧ Keeps s2 s3) E s2 := by
  have nP : ∀ {b : Addr}, H1 b = none → b ≠ Pt := fun {b} e z => by
    obtain ⟨ps, e2, _⟩ := tb
    rw [z, e2] at e
    cases e
  have kIn : X.K.In s2.heap := I.ok.mod.kin.keeps fun b o e => kp b o (nP (I.bs b o e).2) (I.bs b o e).1
  have lim : s2.heap.NoLimit := I.ok.mod.nolimit.keeps fun b o e => kp b o (nP (I.bs b o e).2) (I.bs b o e).1
  have hok := hok_noT tb I.hok kp
  have so' := so.noT tb
  obtain ⟨dx, lk, lo, lc, xs, h1, _⟩ := so'.ex
  have hcl2 : s2.heap.IsCell cA (some (.ref p)) := by
    obtain ⟨o, e1, e2⟩ := hcl
    exact ⟨o, kp _ _ (nP hcn) e1, e2⟩
  have hc2 : (cloFrom X.env.cells scG.names []).lookup ("self" : Str) = some cA := by
    show some ((X.env.cells.lookup ("self" : Str)).getD 0) = some cA
    rw [hc]; rfl
  refine PySem.W.methodCall_KW (wpAny_Name (wpAny_loadName_free rfl rfl hc2 hcl2 ?_) (by decide)) (by rfl)
  obtain ⟨mA, O, r, _, _, _⟩ := ins_get hok h1
  refine get_meth kIn O (C.cH.get "stands") M.at_ M.fn (RelO.none_of (show RelO none (mA "stands") from r "stands")) ?_
  refine PySem.W.callWith_K (first := [.ref p]) (h₀ := X.base) I.ok.mod.kin M.kp ?_ rfl rfl
  refine Calls.spliced_cons (wpAny_Name (wpAny_loadName_local rfl rfl ns hm ?_) (by decide))
  refine Calls.spliced_nil ⟨kIn, ?_⟩
  exact raw_stands F C kIn lim hok so' hn hd fun s' k => ⟨rfl, k⟩
end
end
end Wh

/-! any(self.stands(number) for number in a list): the generator made and walked. -/
namespace Wh
open PySem PySem.Spec PyProof.Rows L2 Wf
def trS (es : List (Ev Tx)) (ns : List Nat) (i : Nat) : Bool := ((ns[i]?).map (stands es)).getD false
theorem any_trS (es : List (Ev Tx)) (ns : List Nat) : (List.range ns.length).any (trS es ns) = ns.any (stands es) := by
  rw [Bool.eq_iff_iff, List.any_eq_true, List.any_eq_true]
  constructor
  · rintro ⟨i, h1, h2⟩
    have hi := List.mem_range.mp h1
    unfold trS at h2
    rw [List.getElem?_eq_getElem hi] at h2
    exact ⟨ns[i], List.getElem_mem hi, h2⟩
  · rintro ⟨n, h1, h2⟩
    obtain ⟨i, hi, rfl⟩ := List.getElem_of_mem h1
    refine ⟨i, List.mem_range.mpr hi, ?_⟩
    unfold trS
    rw [List.getElem?_eq_getElem hi]
    exact h2
section
variable {c : Cs} {X : Cx} {pins : List (Addr × Obj)} {σ : L2.St} {H : Hp} {s : Shared} {f Pt cd : Addr} {fd : FuncData}
/-- the generator's code: there already, or put into the table -/
theorem code_split {M : Model} {A : Around} {E : Value → Shared → Prop} {env : Env} {pos : Pos} {q : Str} {sc : Scope} {z : Shared} {P : Addr} {ps : Array Value} {Φ : Value → Shared → Prop} (hcode : env.code = .ref cd) (ch : PySem.W.CodeHd z.heap cd P)
    (hP : z.heap.get? P = some { cls := .none, data := .fields ps }) (ht : TriplesOk ps.toList)
    (go : ∀ (code : Value) (h3 : Heap) (tk : Nat) (more : Array Value), Heap.ExtBut P z.heap h3 → z.heap.objs.size ≤ h3.objs.size → h3.get? P = some { cls := .none, data := .fields (ps ++ more) } → TriplesOk (ps ++ more).toList → Φ code { z with heap := h3, toks := tk }) :
    wpAny M A (genexprCode env pos q sc) Φ E z := by
  cases hf : codeAmong pos ps.toList with
  | some cv =>
    refine wpAny_genexprCode_hit hcode (ch.code hP ht) hf ?_
    exact go cv z.heap z.toks #[] (Heap.ExtBut.refl _ _) (Nat.le_refl _) (by simpa using hP) (by simpa using ht)
  | none =>
    refine wpAny_genexprCodeX hcode (ch.code hP ht) (ch.tab hP) hf fun c1 h1 tk e1 e2 e3 e4 _ e5 _ => ?_
    obtain ⟨_, _, _, _, _, _, _, _, _, _, _, _, _, _, _, _, _, _, _, tr, _⟩ := e4
    exact go _ h1 tk _ e1 (Nat.le_trans e2 (Nat.le_of_lt e3)) e5.2 tr
/-- the generator at g, not yet asked -/
def RdyG (X : Cx) (pins : List (Addr × Obj)) (σ : L2.St) (H1 : Hp) (Pt : Addr) (n : Nat) (tr : Nat → Bool) (g : Addr) (z : Shared) : Prop :=
  ∃ (fp wr : List Addr) (G : Array GenState → Array GenState → Prop) (F : Nat → Value → Prop) (St : Nat → Shared → Prop), WalksS X.prog X.w X.A.in1 g fp wr G n F St ∧ St 0 z ∧ TruthOf X.prog X.w X.A.in1 F tr ∧
    ∀ s', Moved wr G z s' → ∃ H2, GxR.Tabbed Pt H1 H2 ∧ Inv X pins σ H2 s'
/-- what the list's numbers are asked of -/
def AskG (c : Cs) (Pt : Addr) (σ : L2.St) (H1 : Hp) (yl : Addr) (ns : List Nat) (es : List (Ev Tx)) : Prop :=
  ∃ p, σ[0]? = some (some (V.ref p)) ∧ H1 yl = some (.lst (ns.map vN)) ∧ StOk c H1 p es ∧ GxR.TabG H1 Pt ∧ ∀ n ∈ ns, n ≤ es.length
theorem gen_st {iter : Expr} {px gpos : Pos} {te : TE} {k : Nat} {Q' : Value → Shared → Prop} {R : List Nat → List (Ev Tx) → Hp → Prop} (hr : Room k X.A) (TB : GxR.TabB X.base X.mg cd Pt) (hcode : X.env.code = .ref cd)
    (F : FnD X.K "stands" "History.stands" sStands f fd) (C : Tc X.K X.mg c) (M : Meth X.K c.CH "stands" f) (hN : X.N[0]? = some ("self" : Str)) (hV : X.env.scope.names.lookup ("self" : Str) = some NameKind.cell) (hcs : ∃ cA, X.env.cells.lookup ("self" : Str) = some cA)
    (hi : PE X iter te) (hs : ∀ v, genFold iter X.env v = pure v) (I : Inv X pins σ H s) (h : te σ H fun v H1 => ∃ (yl : Addr) (ns : List Nat) (es : List (Ev Tx)), v = .ref yl ∧ AskG c Pt σ H1 yl ns es ∧ R ns es H1)
    (hQ : ∀ ns es H1 g z, R ns es H1 → RdyG X pins σ H1 Pt ns.length (trS es ns) g z → Q' (.ref g) z) :
    wpAny (model X.prog X.w) X.A (eval (.GeneratorExp eltG [⟨.Name "number" px, iter, [], 0⟩] scG gpos) X.env) Q' X.xe s := by
  have dp := hr.dp
  have hfree : ∀ y ∈ scG.names, y.2 = .free → ∃ c0, X.env.cells.lookup y.1 = some c0 := fun y hy e => by
    rcases List.mem_cons.mp hy with z | hy
    · rw [z] at e; cases e
    rcases List.mem_cons.mp hy with z | hy
    · rw [z] at e; cases e
    rcases List.mem_cons.mp hy with z | hy
    · rw [z]; exact hcs
    · cases hy
  refine wpAny_GeneratorExp_walksQD hr.hd rfl (closure_ok hfree) (by decide) rfl rfl rfl (by omega) ?_ hs
  refine thn (hi.run pins s σ H _ I h) fun xv s1 hh => ?_
  obtain ⟨v, H1, I1, r1, yl, ns, es, rfl, ⟨p, hp, hyl, so, tb, hle⟩, hR⟩ := hh
  obtain rfl : xv = Value.ref yl := r1
  obtain ⟨ps, hP, ht⟩ := _root_.id tb
  obtain ⟨zl, its, rv, hIL⟩ := list_raw I1.hok hyl
  have hlen : its.length = ns.length := by rw [← rv.length, List.length_map]
  obtain ⟨cA, hcA, hcl⟩ : ∃ cA, X.env.cells.lookup ("self" : Str) = some cA ∧ s1.heap.IsCell cA (some (.ref p)) := by
    obtain ⟨m, _, hl⟩ := I1.loc
    obtain ⟨u, ru, lk⟩ := hl 0 "self" (.ref p) hN hp (.inr (.inl hV))
    obtain rfl : u = Value.ref p := ru
    rcases lk with ⟨a, _⟩ | ⟨_, b⟩
    · rw [show X.env.kindOf ("self" : Str) = X.env.scope.names.lookup ("self" : Str) from rfl, hV] at a
      cases a
    · exact b
  have hcn := I1.freeC _ _ hcA
  refine wpAny_pyIter_list hIL ?_
  generalize ho : ({ cls := .type "list_iterator", data := .fields #[.ref yl, .int 0 0] } : Obj) = oi
  have grow : ∀ {b : Addr} {u : Obj}, s1.heap.get? b = some u → (s1.heap.push oi).get? b = some u := fun e => Heap.get?_push_of_some _ e
  have hit : (s1.heap.push oi).IsListIter s1.heap.objs.size yl 0 := by
    subst ho
    exact ⟨_, Heap.get?_push_size _ rfl, rfl, rfl⟩
  have lyl : yl < s1.heap.objs.size := by
    obtain ⟨_, e, _⟩ := _root_.id hIL
    exact Heap.lt_size e
  have eP : s1.heap.get? Pt = some { cls := .none, data := .fields ps } := I1.hok Pt _ hP
  have lP : Pt < s1.heap.objs.size := Heap.lt_size eP
  have lim2 : (s1.heap.push oi).NoLimit := I1.nolimit.push oi
  have cdh : PySem.W.CodeHd (s1.heap.push oi) cd Pt := TB.code.keeps fun b u e => grow (I1.bk b u e)
  have nylP : yl ≠ Pt := fun z => by
    rw [z, hP] at hyl
    cases hyl
  have szp : (s1.heap.push oi).objs.size = s1.heap.objs.size + 1 := Heap.size_push ..
  refine ⟨lim2, code_split hcode cdh (grow eP) ht fun code h3 tk more hx hge eP3 ht3 => ?_⟩
  have hx' : Heap.ExtBut Pt (s1.heap.push oi) h3 := hx
  have hge' : s1.heap.objs.size + 1 ≤ h3.objs.size := by rw [← szp]; exact hge
  have kp3 : ∀ b u, b ≠ Pt → s1.heap.get? b = some u → h3.get? b = some u := fun b u hb e => hx' b u hb (grow e)
  obtain ⟨bm, ob, e1, e2, e3, e4, e5, e6, e7, e8⟩ := TB.bm
  have nPs : cStatics ≠ Pt := fun e => by
    obtain ⟨_, ⟨o', _, _, g1, g2, _⟩, _⟩ := I1.nolimit
    rw [e, eP] at g1
    cases g1
    cases g2
  have ltS : cStatics < s1.heap.objs.size := by
    obtain ⟨_, g, _⟩ := I1.nolimit
    exact g.lt
  have glob : h3.Ns X.env.globals X.mg := by
    rw [I1.ok.glob]
    exact ((I1.mod.glob.keeps I1.bk).push oi).extBut hx' TB.gP
  refine wpAny_builtinsFor (m := X.mg) glob e1 e2 (kp3 _ _ e4 (I1.bk _ _ e5)) e6 e7 e8 ?_
  have hIL3 : h3.IsList yl its.toArray := by
    obtain ⟨o, g, r⟩ := _root_.id hIL
    exact ⟨o, kp3 _ _ nylP g, r⟩
  have hit3 : h3.IsListIter s1.heap.objs.size yl 0 := hit.at fun u e => hx' _ u (Nat.ne_of_gt lP) e
  have itx : ∀ (i : Nat) (v : Value), its.toArray[i]? = some v → ∃ (n : Nat) (t : Tok), ns[i]? = some n ∧ v = .int n t := fun i v hv => by
    have hv2 : its[i]? = some v := by simpa using hv
    have li : i < ns.length := by
      have := (List.getElem?_eq_some_iff.mp hv2).1
      omega
    obtain ⟨u, hu, ru⟩ := rv.get (show (ns.map vN)[i]? = some (vN ns[i]) by rw [List.getElem?_map, List.getElem?_eq_getElem li]; rfl)
    rw [hv2] at hu
    cases hu
    obtain ⟨t, rfl⟩ := ru
    exact ⟨_, t, List.getElem?_eq_getElem li, rfl⟩
  have tr_of : ∀ {i n : Nat}, ns[i]? = some n → trS es ns i = stands es n := fun {i n} e => by unfold trS; rw [e]; rfl
  refine ⟨s1.heap.objs.size, [s1.heap.objs.size, yl], [s1.heap.objs.size], its.toArray.size, fun i v => its.toArray[i]? = some v, fun i h => h.IsListIter s1.heap.objs.size yl i ∧ h.IsList yl its.toArray, fun _ => true,
    fun i y => ∃ n, ns[i]? = some n ∧ y = .bool (stands es n), rfl, fun A' hA => Walks.list hA _ _ (Nat.ne_of_lt lyl) _, ⟨hit3, hIL3⟩, ?_, lim2.extBut hx' nPs, ?_, ?_, ?_⟩
  · intro b hb
    show b < h3.objs.size
    rcases List.mem_cons.mp hb with z | hb
    · rw [z]; exact hge'
    · rw [List.mem_singleton.mp hb]
      exact Nat.lt_trans lyl hge'
  · intro z
    exact absurd (List.mem_singleton.mp z) (Nat.ne_of_lt ltS)
  · intro href kref
    refine ⟨fun A' E' i v s2 m2 _ _ _ _ _ _ _ => ?_, fun A' E' i v s2 m2 _ hD _ hv _ hn hm kp => ?_⟩
    · rw [List.forIn_nil]
      exact wpAny_pure ⟨rfl, GxR.keeps_refl _⟩
    · obtain ⟨n, t, hni, rfl⟩ := itx i v hv
      refine wpAny_mono (elt_st (c := c) I1 F C M tb so hcA hcl hcn (fun b o nb e => kp b ?_ ?_ o (kref b o (kp3 b o nb e))) (by omega) (hle n (List.mem_of_getElem? hni)) hn hm) (fun y s3 r => ⟨⟨n, hni, r.1⟩, r.2⟩) fun _ _ e => e
      · refine List.mem_range.mpr ?_
        show b < h3.objs.size
        exact Nat.lt_trans (Heap.lt_size e) hge'
      · intro z
        rw [List.mem_singleton.mp z] at e
        exact Nat.lt_irrefl _ (Heap.lt_size e)
  · intro g h5 tk5 gs bare lg sz5 k5 W5 G5
    rw [GxR.passing_true, List.length_range] at W5
    have en : its.toArray.size = ns.length := by rw [List.size_toArray, hlen]
    rw [en] at W5 G5
    refine hQ ns es H1 g _ hR ⟨_, _, _, _, _, W5.in4_1, G5, ?_, fun s' mv => ?_⟩
    · rintro j y sj Qj Ej ⟨i, hij, n, hni, rfl⟩ q
      obtain ⟨lj, ej⟩ := List.getElem?_eq_some_iff.mp hij
      rw [List.getElem_range] at ej
      subst ej
      rw [tr_of hni] at q
      exact wpAny_truthy_bool q
    · have old : ∀ b u, s1.heap.get? b = some u → b ∉ h3.objs.size :: [s1.heap.objs.size] := fun b u e hb => by
        have lb := Heap.lt_size e
        rcases List.mem_cons.mp hb with z | hb
        · rw [z] at lb
          have : h3.objs.size < s1.heap.objs.size := lb
          omega
        · rw [List.mem_singleton.mp hb] at lb
          exact Nat.lt_irrefl _ lb
      have J := GxR.inv_tab (more := more) (h' := s'.heap) (g' := s'.gens) (d' := s'.drawn) (t' := s'.toks) I1 hP (fun b u nb e => mv.heap b u (old b u e) (k5 b u (kp3 b u nb e)))
        (mv.heap Pt _ (old Pt _ eP) (k5 Pt _ eP3)) (AllBare.movedS (I1.bare.push bare) mv)
      rw [GxR.sh_eta s1 s' mv.os] at J
      exact ⟨_, ⟨⟨_, upd_same, ht3⟩, fun b nb => upd_ne nb⟩, J⟩
/-- any(self.stands(number) for number in a list) -/
def tAnySt (c : Cs) (Pt : Addr) (te : TE) : TE := fun σ H Q => te σ H fun v H1 => ∃ (yl : Addr) (ns : List Nat) (es : List (Ev Tx)), v = .ref yl ∧ AskG c Pt σ H1 yl ns es ∧ ∀ H2, GxR.Tabbed Pt H1 H2 → Q (.bl (ns.any (stands es))) H2
theorem pe_anySt {iter : Expr} {px p pos gpos : Pos} {te : TE} {k : Nat} (hr : Room k X.A) (hg : Gl X "any") (hm : X.mg "any" = none) (TB : GxR.TabB X.base X.mg cd Pt) (hcode : X.env.code = .ref cd)
    (F : FnD X.K "stands" "History.stands" sStands f fd) (C : Tc X.K X.mg c) (M : Meth X.K c.CH "stands" f) (hN : X.N[0]? = some ("self" : Str)) (hV : X.env.scope.names.lookup ("self" : Str) = some NameKind.cell) (hcs : ∃ cA, X.env.cells.lookup ("self" : Str) = some cA)
    (hi : PE X iter te) (hs : ∀ v, genFold iter X.env v = pure v)
    (he : starEach [.GeneratorExp eltG [⟨.Name "number" px, iter, [], 0⟩] scG gpos] X.env = (false, eval (.GeneratorExp eltG [⟨.Name "number" px, iter, [], 0⟩] scG gpos) X.env) :: starEach [] X.env := by rfl) :
    PE X (.Call (.Name "any" p) [.GeneratorExp eltG [⟨.Name "number" px, iter, [], 0⟩] scG gpos] [] pos) (tAnySt c Pt te) := by
  constructor
  intro pins s σ H Q I h
  refine wpAny_Call_Name_kw (ld_blt I hg hm boot_any (PyProof.Rows.callWith_builtin1 ?_ he (by rfl)))
  rw [he]
  refine Calls.spliced_cons (gen_st (R := fun ns es H1 => ∀ H2, GxR.Tabbed Pt H1 H2 → Q (.bl (ns.any (stands es))) H2) hr TB hcode F C M hN hV hcs hi hs I h fun ns es H1 g z hR hG => ?_)
  obtain ⟨fp, wr, G, Fv, St, W, st, tr, back⟩ := hG
  refine Calls.spliced_nil (call_any_walkS (W.self 0 _ _ _ st ⟨g, fp, wr, G, _, Fv, St, _, rfl, W, st, tr, fun s' mv => ?_⟩))
  obtain ⟨H2, hT, J⟩ := back s' mv
  refine ⟨.bl (ns.any (stands es)), H2, J, ?_, hR H2 hT⟩
  rw [any_trS]
  rfl
end
end Wh

namespace Wh
open PySem PySem.Spec PyProof.Rows L2 Wf
abbrev sIsThere : Stmt := inClass (top 22) 2
abbrev sPresent : Stmt := inClass (top 22) 4
abbrev sDocm : Stmt := inClass (top 22) 6
abbrev sLog : Stmt := inClass (top 22) 9
abbrev sBlame : Stmt := inClass (top 22) 11
/-- what the numbers of a history keep to -/
structure NumOk (b : B Tx) (es : List (Ev Tx)) : Prop where
  born : ∀ i, i < b.kept.length → (b.at i).born ≤ es.length
  txt : ∀ i, i < b.kept.length → ∀ q ∈ (b.at i).texts, q.1 ≤ es.length
  drp : ∀ i, i < b.kept.length → ∀ d ∈ (b.at i).dropped, d ≤ es.length
  ord : ∀ i ∈ b.order, i < b.kept.length
  len : b.order.length ≤ 400
def spIsThere (c : Cs) (P : Addr) : Sp := fun vs H Q _ => ∃ (p : Addr) (ow : Ow) (s : Sh) (M : Nat) (b : B Tx) (es : List (Ev Tx)) (i : Nat), vs = [.ref p, vN i] ∧ HSh c P H ow p s M b es ∧ NumOk b es ∧ i < b.kept.length ∧
  ∀ H', Ex P H H' → Q (.bl (isThere (stands es) (b.at i))) H'
section
variable {P : Program} {w : World} {K : PySem.W.Frag} {mg : Str → Option Value} {base : Heap} {c : Cs} {Pt : Addr}
/-- fok, with the code object told -/
theorem fokC {x q : Str} {st : Stmt} {f : Addr} {fd : FuncData} {N ps : List Str} {k : Nat} {sp : Sp} (F : FnD K x q st f fd) (S : FnScope N ps (defScope st)) (len : ∀ vs H Q E, sp vs H Q E → vs.length = ps.length)
    (hb : ∀ (A : Around) (outer : List Env) (s : Shared) (H : Hp) (vs : List V) (Q : VK) (E : XK), Room k (A.deeper (envOfC q (defScope st) s.heap.objs.size f fd.code)) → sp vs H Q E →
      ∃ t, PSs (cxOf CX0 P w K mg base N q (defScope st) f fd.code A outer s H E).nox (defBody st) t ∧ t { nx := fun _ H' => Q .non H', rt := Q } (start N vs) H) : FnOk P w K mg base CX0 (k + 1) f fd ps sp := by
  obtain ⟨oc, od, dV, kV, doc, pm, an, cdv, ct, osl, rfl, lk, hcd, _, _⟩ := F.ex
  exact fn_of lk hcd S len fun A outer s H vs Q E hr h =>
    let ⟨t, p, r⟩ := hb A outer s H vs Q E hr h
    ⟨t, p.nox, r⟩
theorem scIsThere : FnScope ["self", "which", "line"] ["self", "which"] (defScope sIsThere) := ⟨rfl, rfl, rfl, by decide +kernel, rfl, by decide +kernel, by decide +kernel⟩
theorem ok_isthere {f f1 : Addr} {fd fd1 : FuncData} (F : FnD K "is_there" "History.is_there" sIsThere f fd) (T : Bt mg) (C : Tc K mg c) (M : Meth K c.CH "is_there" f) (F1 : FnD K "stands" "History.stands" sStands f1 fd1) (M1 : Meth K c.CH "stands" f1) {cd : Addr} (hcd : fd.code = .ref cd) (TB : GxR.TabB base mg cd Pt) (GS : Mt P w K mg base CX0 1 c.CH "stands" (spStands c Pt)) :
    Mt P w K mg base CX0 2 c.CH "is_there" (spIsThere c Pt) := by
  refine ⟨f, fd, ["self", "which"], C.cH, M, fokC F scIsThere (fun vs H Q E h => ?_) (fun A outer s0 H vs Q E hr h => ?_), F.bindsN fun _ _ _ _ _ _ us hl => match us, hl with | [_, _], _ => rfl⟩
  · obtain ⟨p, ow, s, M, b, es, n, rfl, _⟩ := h
    rfl
  · obtain ⟨p, ow, s, M2, b, es, i, rfl, h, no, hi, q⟩ := h
    refine ⟨_, pss_cons (ps_set (i := 2) scIsThere.nd rfl (.inl rfl) (pe_ix ix_list (pe_fld (pv 0) rfl) (pv 1) (fun _ _ => rfl)))
      (pss_one (ps_ret (pe_and (pe_mt GS hr (by decide) pass0 (pv 0) (pa_cons (pe_fld (pv 2) rfl) pa_nil)) (pe_one (pe_not (pe_anySt (c := c) hr rfl T.any TB hcd F1 C M1 rfl rfl ⟨_, rfl⟩ (pe_fld (pv 2) rfl) (fun _ => rfl))))))), ?_⟩
    obtain ⟨r, h1, h2⟩ := h.kat hi
    refine ⟨_, rfl, p, _, _, _, _, rfl, h.hp, C.cH, C.hKept, rfl, _, rfl, s.lk, _, _, _, rfl, rfl, SqL.of h.hk, at_of (j := i) rfl (by rw [List.getElem?_map, h1]; rfl), ?_⟩
    refine ⟨_, rfl, p, _, _, rfl, h.hp, rfl, _, rfl, r.a, _, _, _, _, rfl, h2.ins, C.cK, C.kBorn, rfl, p, ow, s, M2, b, es, (b.at i).born, rfl, h, no.born i hi, ?_⟩
    refine ⟨_, rfl, ?_⟩
    cases e : stands es (b.at i).born with
    | false =>
      have := q H (Ex.refl h.tab)
      unfold isThere at this
      rw [e] at this
      exact this
    | true =>
      refine ⟨_, rfl, r.a, _, _, _, _, rfl, h2.ins, C.cK, C.kDropped, rfl, r.ld, (b.at i).dropped, es, rfl, ⟨p, rfl, h2.drp, h.stOk, h.tab, no.drp i hi⟩, fun H2 tb => ?_⟩
      refine ⟨_, rfl, ?_⟩
      have := q H2 (Ex.tbd tb)
      unfold isThere isUp at this
      rw [e, Bool.true_and] at this
      exact this
theorem Ex.at {H H' : Hp} {a : Addr} {o : HO} (x : Ex Pt H H') (n : H a = none) (t : GxR.TabG H Pt) : Ex Pt H (upd H' a o) := by
  have na : Pt ≠ a := fun z => by
    obtain ⟨ps, e, _⟩ := t
    rw [z, n] at e
    cases e
  refine ⟨fun b u e nb => ?_, ?_⟩
  · rw [upd_ne fun z => by rw [z, n] at e; cases e]
    exact x.1 b u e nb
  · obtain ⟨ps, e, g⟩ := x.2
    exact ⟨ps, by rw [upd_ne na]; exact e, g⟩
theorem Ex.keep {H H' : Hp} {a : Addr} {xs : List V} (x : Ex Pt H H') (t : GxR.TabG H Pt) (e : H a = some (.lst xs)) : H' a = some (.lst xs) := x.1 a _ e fun z => by
  obtain ⟨ps, e2, _⟩ := t
  rw [z, e2] at e
  cases e
theorem Ex.same {H H' : Hp} (t : GxR.TabG H Pt) (s : Same H H') : Ex Pt H H' := .of t s
def spPresent (c : Cs) (P : Addr) : Sp := fun vs H Q _ => ∃ (p : Addr) (ow : Ow) (s : Sh) (M : Nat) (b : B Tx) (es : List (Ev Tx)), vs = [.ref p] ∧ HSh c P H ow p s M b es ∧ NumOk b es ∧
  ∀ H' a, Ex P H H' → H a = none → H' a = some (.lst ((present (stands es) b).map vN)) → Q (.ref a) H'
def spDocm (c : Cs) (P : Addr) : Sp := fun vs H Q _ => ∃ (p : Addr) (ow : Ow) (s : Sh) (M : Nat) (b : B Tx) (es : List (Ev Tx)), vs = [.ref p] ∧ HSh c P H ow p s M b es ∧ NumOk b es ∧
  ∀ H' v, Ex P H H' → Tp H' v (.tuple ((present (stands es) b).map fun i => eLn (shownLine (stands es) (b.at i)))) → Q v H'
def spBlame (c : Cs) (P : Addr) : Sp := fun vs H Q _ => ∃ (p : Addr) (ow : Ow) (s : Sh) (M : Nat) (b : B Tx) (es : List (Ev Tx)), vs = [.ref p] ∧ HSh c P H ow p s M b es ∧ NumOk b es ∧
  ∀ H' a, Ex P H H' → H a = none → H' a = some (.lst ((present (stands es) b).map fun i => vN (givenBy (stands es) (b.at i)))) → Q (.ref a) H'
def spLog (c : Cs) (P : Addr) : Sp := fun vs H Q _ => ∃ (p : Addr) (ow : Ow) (s : Sh) (M : Nat) (b : B Tx) (es : List (Ev Tx)), vs = [.ref p] ∧ HSh c P H ow p s M b es ∧ es.length ≤ 400 ∧
  ∀ H' a, Ex P H H' → H a = none → Lst H' a (es.zipIdx.map fun q => .tuple [.int ((q.2 : Int) + 1), .str q.1.author.s, .bool q.1.stands]) → Q (.ref a) H'
theorem scPresent : FnScope ["self", "which"] ["self"] (defScope sPresent) := ⟨rfl, rfl, rfl, by decide +kernel, rfl, by decide +kernel, by decide +kernel⟩
theorem ok_present {f : Addr} {fd : FuncData} (F : FnD K "present" "History.present" sPresent f fd) (C : Tc K mg c) (M : Meth K c.CH "present" f) (GIT : Mt P w K mg base CX0 2 c.CH "is_there" (spIsThere c Pt)) :
    Mt P w K mg base CX0 3 c.CH "present" (spPresent c Pt) := by
  refine ⟨f, fd, ["self"], C.cH, M, fok F scPresent (fun vs H Q E h => ?_) (fun cdv A outer s0 H vs Q E hr h => ?_), F.bindsN fun _ _ _ _ _ _ us hl => match us, hl with | [_], _ => rfl⟩
  · obtain ⟨p, ow, s, M, b, es, rfl, _⟩ := h
    rfl
  · obtain ⟨p, ow, s, M, b, es, rfl, h, no, q⟩ := h
    refine ⟨_, pss_one (ps_ret (pe_lc (own := [("which", 1)]) (g := gName 1) rfl scPresent.nd (pi_list (pe_fld (pv 0) rfl)) (blkOk_by (own := [("which", 1)]) (N := ["self", "which"]) (sc := defScope sPresent) (by decide +kernel)) (fun _ _ _ _ _ => pg_name (i := 1) scPresent.nd rfl (.inl rfl)) (fun _ _ _ _ _ => pts_one (pt_val (pe_mt GIT hr (by decide) pass0 (pv 0) (pa_cons (pv 1) pa_nil)))) (fun _ _ _ _ _ => pv 1))), ?_⟩
    refine ⟨_, rfl, p, _, _, _, _, rfl, h.hp, C.cH, C.hOrder, rfl, s.lo, rfl, ⟨_, SqL.of h.ho⟩, fun D nD => ?_⟩
    have ln := no.len
    refine lc_it (walk_list (xs := b.order.map vN)) (fun i H' => Ex Pt H H' ∧ H' D = some (.lst (((b.order.take i).filter fun x => isThere (stands es) (b.at x)).map vN))) ⟨(Ex.same h.tab (snew nD)), by rw [List.take_zero]; exact upd_same⟩
      (fun i H' _ x => SqL.of (x.1.keep h.tab h.ho)) ?_ ?_
    · rintro i x H1 H2 hi ⟨x1, hD⟩ ⟨rfl, hx⟩
      rw [List.length_map] at hi
      have hz : b.order[i]? = some b.order[i] := List.getElem?_eq_getElem hi
      rw [List.getElem?_map, hz] at hx
      cases hx
      have h1 := h.ex x1
      refine ⟨rfl, _, rfl, p, _, _, rfl, h1.hp, rfl, _, rfl, p, ow, s, M, b, es, b.order[i], rfl, h1, no, no.ord _ (List.getElem_mem hi), fun H3 x3 => ?_⟩
      have hD3 := x3.keep x1.2 hD
      have et : (b.order.take (i + 1)) = b.order.take i ++ [b.order[i]] := by rw [List.take_add_one, hz]; rfl
      refine ⟨_, rfl, ?_⟩
      refine ite2 (fun y => ?_) (fun y => ?_)
      · refine ⟨_, rfl, _, hD3, small1000 (by rw [List.length_map]; exact Nat.le_trans (List.length_filter_le _ _) (by rw [List.length_take]; omega)), (x1.trans x3).at nD h.tab, ?_⟩
        rw [upd_same, et, List.filter_append, List.filter_cons, if_pos y, List.map_append]
        rfl
      · refine ⟨x1.trans x3, ?_⟩
        rw [et, List.filter_append, List.filter_cons, if_neg (by simpa using y), List.filter_nil, List.append_nil]
        exact hD3
    · rintro H' ⟨x1, hD⟩
      rw [List.length_map, List.take_length] at hD
      exact q H' D x1 nD hD
theorem present_lt {b : B Tx} {es : List (Ev Tx)} (no : NumOk b es) {i : Nat} (h : i ∈ present (stands es) b) : i < b.kept.length := no.ord i (List.mem_filter.mp h).1
theorem present_len {b : B Tx} {es : List (Ev Tx)} (no : NumOk b es) : (present (stands es) b).length ≤ 400 := Nat.le_trans (List.length_filter_le _ _) no.len
theorem scDocm : FnScope ["self", "which"] ["self"] (defScope sDocm) := ⟨rfl, rfl, rfl, by decide +kernel, rfl, by decide +kernel, by decide +kernel⟩
theorem ok_docm {f : Addr} {fd : FuncData} (F : FnD K "document" "History.document" sDocm f fd) (T : Bt mg) (C : Tc K mg c) (M : Meth K c.CH "document" f) (GP : Mt P w K mg base CX0 3 c.CH "present" (spPresent c Pt)) (GSh : Mt P w K mg base CX0 3 c.CH "shown" (spShown c Pt)) :
    Mt P w K mg base CX0 4 c.CH "document" (spDocm c Pt) := by
  refine ⟨f, fd, ["self"], C.cH, M, fok F scDocm (fun vs H Q E h => ?_) (fun cdv A outer s0 H vs Q E hr h => ?_), F.bindsN fun _ _ _ _ _ _ us hl => match us, hl with | [_], _ => rfl⟩
  · obtain ⟨p, ow, s, M, b, es, rfl, _⟩ := h
    rfl
  · obtain ⟨p, ow, s, M, b, es, rfl, h, no, q⟩ := h
    refine ⟨_, pss_one (ps_ret (pe_callTy call_tuple_of (by rfl) T.tuple (by decide +kernel) (pa_cons (pe_lc (own := [("which", 1)]) (g := gName 1) (tt := tYes) rfl scDocm.nd (pi_list (pe_mt0 GP hr (by decide) pass0 (pv 0))) (blkOk_by (own := [("which", 1)]) (N := ["self", "which"]) (sc := defScope sDocm) (by decide +kernel)) (fun _ _ _ _ _ => pg_name (i := 1) scDocm.nd rfl (.inl rfl)) (fun _ _ _ _ _ => pts_nil) (fun _ _ _ _ _ => pe_mt GSh hr (by decide) pass0 (pv 0) (pa_cons (pv 1) pa_nil))) pa_nil))), ?_⟩
    refine ⟨_, rfl, p, _, _, rfl, h.hp, rfl, p, ow, s, M, b, es, rfl, h, no, fun H1 a x1 na ha => ?_⟩
    refine ⟨a, rfl, ⟨_, SqL.of ha⟩, fun D nD => ?_⟩
    have pl := present_len no
    obtain ⟨pr, hpr⟩ : ∃ pr, pr = present (stands es) b := ⟨_, rfl⟩
    rw [← hpr] at ha q pl
    refine lc_it (walk_list (xs := pr.map vN)) (fun i H' => Same H1 H' ∧ Lst H' D ((pr.take i).map fun i => eLn (shownLine (stands es) (b.at i)))) ⟨snew nD, by rw [List.take_zero]; exact ⟨[], upd_same, .nil⟩⟩
      (fun i H' _ x => SqL.of (x.1 _ _ ha)) ?_ ?_
    · rintro i x H2 H3 hi ⟨s2, xs, hD, ht⟩ ⟨rfl, hx⟩
      rw [List.length_map] at hi
      have hz : pr[i]? = some pr[i] := List.getElem?_eq_getElem hi
      rw [List.getElem?_map, hz] at hx
      cases hx
      have hlt : pr[i] < b.kept.length := present_lt no (by rw [← hpr]; exact List.getElem_mem hi)
      have h2 := (h.ex x1).same s2
      have hxl : xs.length = i := by rw [ht.len, List.length_map, List.length_take]; omega
      refine ⟨rfl, _, rfl, p, _, _, rfl, h2.hp, rfl, _, rfl, p, ow, s, M, b, es, pr[i], rfl, h2, hlt, no.txt _ hlt, fun H4 v s4 tv => ?_⟩
      refine ⟨xs, s4 _ _ hD, small1000 (by omega), sat (s2.trans s4) nD, ?_⟩
      rw [List.take_add_one, hz, List.map_append]
      exact Lst.push (s4 _ _ hD) (Tps.mono (Tk.of s4) ht) tv
    · rintro H' ⟨s2, xs, hD, ht⟩
      rw [List.length_map, List.take_length] at ht
      refine ⟨D, _, rfl, .inl ⟨SqL.of hD, fun l nl => ?_⟩⟩
      exact q _ _ (x1.trans (.of x1.2 (s2.trans (snew nl)))) (Tp.mk nl ht)
theorem scBlame : FnScope ["self", "which"] ["self"] (defScope sBlame) := ⟨rfl, rfl, rfl, by decide +kernel, rfl, by decide +kernel, by decide +kernel⟩
theorem ok_blame {f : Addr} {fd : FuncData} (F : FnD K "blame" "History.blame" sBlame f fd) (C : Tc K mg c) (M : Meth K c.CH "blame" f) (GP : Mt P w K mg base CX0 3 c.CH "present" (spPresent c Pt)) (GGB : Mt P w K mg base CX0 3 c.CH "given_by" (spGiven c Pt)) :
    Mt P w K mg base CX0 4 c.CH "blame" (spBlame c Pt) := by
  refine ⟨f, fd, ["self"], C.cH, M, fok F scBlame (fun vs H Q E h => ?_) (fun cdv A outer s0 H vs Q E hr h => ?_), F.bindsN fun _ _ _ _ _ _ us hl => match us, hl with | [_], _ => rfl⟩
  · obtain ⟨p, ow, s, M, b, es, rfl, _⟩ := h
    rfl
  · obtain ⟨p, ow, s, M, b, es, rfl, h, no, q⟩ := h
    refine ⟨_, pss_one (ps_ret (pe_lc (own := [("which", 1)]) (g := gName 1) (tt := tYes) rfl scBlame.nd (pi_list (pe_mt0 GP hr (by decide) pass0 (pv 0))) (blkOk_by (own := [("which", 1)]) (N := ["self", "which"]) (sc := defScope sBlame) (by decide +kernel)) (fun _ _ _ _ _ => pg_name (i := 1) scBlame.nd rfl (.inl rfl)) (fun _ _ _ _ _ => pts_nil) (fun _ _ _ _ _ => pe_mt GGB hr (by decide) pass0 (pv 0) (pa_cons (pv 1) pa_nil)))), ?_⟩
    refine ⟨_, rfl, p, _, _, rfl, h.hp, rfl, p, ow, s, M, b, es, rfl, h, no, fun H1 a x1 na ha => ?_⟩
    refine ⟨a, rfl, ⟨_, SqL.of ha⟩, fun D nD => ?_⟩
    have pl := present_len no
    obtain ⟨pr, hpr⟩ : ∃ pr, pr = present (stands es) b := ⟨_, rfl⟩
    rw [← hpr] at ha q pl
    refine lc_it (walk_list (xs := pr.map vN)) (fun i H' => Same H1 H' ∧ H' D = some (.lst ((pr.take i).map fun i => vN (givenBy (stands es) (b.at i))))) ⟨snew nD, by rw [List.take_zero]; exact upd_same⟩
      (fun i H' _ x => SqL.of (x.1 _ _ ha)) ?_ ?_
    · rintro i x H2 H3 hi ⟨s2, hD⟩ ⟨rfl, hx⟩
      rw [List.length_map] at hi
      have hz : pr[i]? = some pr[i] := List.getElem?_eq_getElem hi
      rw [List.getElem?_map, hz] at hx
      cases hx
      have hlt : pr[i] < b.kept.length := present_lt no (by rw [← hpr]; exact List.getElem_mem hi)
      have h2 := (h.ex x1).same s2
      refine ⟨rfl, _, rfl, p, _, _, rfl, h2.hp, rfl, _, rfl, p, ow, s, M, b, es, pr[i], rfl, h2, hlt, no.txt _ hlt, fun H4 s4 => ?_⟩
      refine ⟨_, s4 _ _ hD, small1000 (by rw [List.length_map, List.length_take]; omega), sat (s2.trans s4) nD, ?_⟩
      rw [upd_same, List.take_add_one, hz, List.map_append]
      rfl
    · rintro H' ⟨s2, hD⟩
      rw [List.length_map, List.take_length] at hD
      exact q _ _ (x1.trans (.of x1.2 s2)) (x1.free h.tab nD) hD
theorem scLog : FnScope ["self", "at", "change"] ["self"] (defScope sLog) := ⟨rfl, rfl, rfl, by decide +kernel, rfl, by decide +kernel, by decide +kernel⟩
theorem ok_log {f : Addr} {fd : FuncData} (F : FnD K "log" "History.log" sLog f fd) (T : Bt mg) (C : Tc K mg c) (M : Meth K c.CH "log" f) : Mt P w K mg base CX0 1 c.CH "log" (spLog c Pt) := by
  refine ⟨f, fd, ["self"], C.cH, M, fok F scLog (fun vs H Q E h => ?_) (fun cdv A outer s0 H vs Q E hr h => ?_), F.bindsN fun _ _ _ _ _ _ us hl => match us, hl with | [_], _ => rfl⟩
  · obtain ⟨p, ow, s, M, b, es, rfl, _⟩ := h
    rfl
  · obtain ⟨p, ow, s, M, b, es, rfl, h, hes, q⟩ := h
    refine ⟨_, pss_one (ps_ret (pe_lc (own := [("at", 1), ("change", 2)]) (g := gTup K 2 (gCons (gName 1) (gCons (gName 2) gNil))) (tt := tYes) (te := tTup (tCons (tOp (rI0 fun i j => .int (i + j)) (tVar 1) (tC (.int 1))) (tCons (tFld K (tVar 2) "author") (tCons (tFld K (tVar 2) "stands") tNil)))) rfl scLog.nd (pi_enum (by rfl) T.enumerate (pa_cons (pe_fld (pv 0) rfl) pa_nil)) (blkOk_by (own := [("at", 1), ("change", 2)]) (N := ["self", "at", "change"]) (sc := defScope sLog) (by decide +kernel)) (fun _ _ _ _ _ => pg_tup rfl (pgs_cons (pg_name (i := 1) scLog.nd rfl (.inl rfl)) (pgs_cons (pg_name (i := 2) scLog.nd rfl (.inl rfl)) pgs_nil))) (fun _ _ _ _ _ => pts_nil) (fun _ _ _ _ _ => pe_tup (pa_cons (pe_op op_add (pv 1) pe_int) (pa_cons (pe_fld (pv 2) rfl) (pa_cons (pe_fld (pv 2) rfl) pa_nil)))))), ?_⟩
    refine ⟨_, rfl, p, _, _, _, _, rfl, h.hp, C.cH, C.hChanges, rfl, s.lc, _, rfl, SqL.of h.hc, fun D nD => ?_⟩
    refine lc_it (walk_enum (xs := s.ca.map fun q => V.ref q.a)) (fun i H' => Same H H' ∧ Lst H' D ((es.take i).zipIdx.map fun q => .tuple [.int ((q.2 : Int) + 1), .str q.1.author.s, .bool q.1.stands])) ⟨snew nD, by rw [List.take_zero]; exact ⟨[], upd_same, .nil⟩⟩
      (fun i H' _ x => SqL.of (x.1 _ _ h.hc)) ?_ ?_
    · rintro i x H1 H2 hi ⟨s1, xs, hD, ht⟩ ⟨T0, z1, z2, rfl, nT, rfl, e1, e2⟩
      cases e1
      rw [List.length_map, h.cl] at hi
      have hz : es[i]? = some es[i] := List.getElem?_eq_getElem hi
      obtain ⟨r, g1, g2⟩ := ((h.same s1).same (snew (o := .tup [.int (i : Nat), z2]) nT)).cat hz
      replace e2 : (s.ca.map fun q => V.ref q.a)[i]? = some z2 := e2
      rw [List.getElem?_map, g1] at e2
      cases e2
      have hl : xs.length = i := by rw [ht.len, List.length_map, List.length_zipIdx, List.length_take]; omega
      refine ⟨T0, _, rfl, .inl (.of upd_same), rfl, _, _, rfl, _, _, rfl, rfl, rfl, ?_⟩
      refine ⟨_, rfl, _, _, rfl, rfl, _, rfl, r.a, _, _, _, _, rfl, g2.ins, C.cC, C.cAuthor, rfl, _, rfl, r.a, _, _, _, _, rfl, g2.ins, C.cC, C.cStands, rfl, szT 3 (by decide), fun z nz => ?_⟩
      have hD2 := snew (o := .tup [.int ((i : Nat) + 1), .str es[i].author.s, .bl es[i].stands]) nz _ _ (snew (o := .tup [.int (i : Nat), .ref r.a]) nT _ _ hD)
      refine ⟨xs, hD2, small1000 (by omega), sat (s1.trans ((snew nT).trans (snew nz))) nD, ?_⟩
      rw [List.take_add_one, hz, Option.toList_some, List.zipIdx_append, List.map_append]
      have e3 : (es.take i).length = i := by rw [List.length_take]; omega
      rw [e3, Nat.zero_add]
      exact Lst.push hD2 (Tps.mono (Tk.of ((snew nT).trans (snew nz))) ht) (Tp.mk (ds := [.int ((i : Int) + 1), .str es[i].author.s, .bool es[i].stands]) nz (.cons (.int _) (.cons (.str _) (.one (.bl _)))))
    · rintro H' ⟨s1, hD⟩
      rw [List.length_map, h.cl, List.take_length] at hD
      exact q H' D (.of h.tab s1) nD hD
end
end Wh

namespace Wh
open PySem PySem.Spec PyProof.Rows L2 Wf
/-- ours grow on free addresses alone; what is not ours stays (but for the table); so do the dicts of fates -/
structure Mv (P : Addr) (H H' : Hp) (ow ow' : Ow) : Prop where
  old : ∀ a t, ow a = some t → ow' a = some t
  rest : ∀ a o, a ≠ P → H a = some o → ow a = none → H' a = some o ∧ ow' a = none
  cfk : ∀ a j, ow a = some (.cf j) → H' a = H a
section
variable {c : Cs} {P : Addr} {p : Addr} {s : Sh} {M : Nat} {b : B Tx} {es : List (Ev Tx)} {H H1 H2 : Hp} {ow ow1 ow2 : Ow}
theorem Mv.refl (P : Addr) (H : Hp) (ow : Ow) : Mv P H H ow ow := ⟨fun _ _ h => h, fun _ _ _ h n => ⟨h, n⟩, fun _ _ _ => rfl⟩
theorem Mv.trans (x : Mv P H H1 ow ow1) (y : Mv P H1 H2 ow1 ow2) : Mv P H H2 ow ow2 :=
  ⟨fun a t h => y.old a t (x.old a t h), fun a o np h n => y.rest a o np (x.rest a o np h n).1 (x.rest a o np h n).2, fun a j h => (y.cfk a j (x.old a _ h)).trans (x.cfk a j h)⟩
theorem Mv.ex (h : HSh c P H ow p s M b es) (x : Ex P H H1) : Mv P H H1 ow ow := ⟨fun _ _ h => h, fun a o np e n => ⟨x.1 a o e np, n⟩, fun a j e => by
  obtain ⟨o, g, _⟩ := h.own a _ e
  rw [g]
  exact x.1 a o g (h.neP e)⟩
theorem Mv.of (h : HSh c P H ow p s M b es) (x : Same H H1) : Mv P H H1 ow ow := Mv.ex h (.of h.tab x)
theorem Mv.upd {a : Addr} {t : Tag} {o : HO} (h : ow a = some t) (n : ∀ j, t ≠ .cf j) : Mv P H (upd H a o) ow ow := ⟨fun _ _ h => h, fun b u _ e n => ⟨by
  rw [upd_ne fun z => by rw [z, h] at n; cases n]
  exact e, n⟩, fun b j e => upd_ne fun z => by
    rw [z, h] at e
    exact n j (Option.some.inj e)⟩
theorem Mv.tk (x : Mv P H H1 ow ow1) (h : HSh c P H ow p s M b es) : Tk H H1 := fun a xs e => (x.rest a _ (fun z => by
  obtain ⟨ps, e2, _⟩ := h.tab
  rw [z, e2] at e
  cases e) e (by
  cases z : ow a with
  | none => rfl
  | some t => exact absurd e (h.notup z xs))).1
theorem tab_ne {H : Hp} {a : Addr} {o : HO} (t : GxR.TabG H P) (e : H a = some o) (n : ∀ q, o ≠ .tbl q) : a ≠ P := fun z => by
  obtain ⟨ps, e2, _⟩ := t
  rw [z, e2] at e
  exact n ps (Option.some.inj e).symm
end
abbrev sAddF : Stmt := inClass (top 22) 7
def spAddF (c : Cs) (P : Addr) : Sp := fun vs H Q _ => ∃ (p : Addr) (ow : Ow) (b : B Tx) (es : List (Ev Tx)) (n i m : Nat) (v : V) (f : Ft), vs = [.ref p, vN n, vN i, v] ∧ HistAt c P H ow p b es ∧ 1 ≤ n ∧ n ≤ es.length ∧ i < b.kept.length ∧ i ∈ b.order ∧
  Bnd m b ∧ m ≤ 100 ∧ f.behind.length ≤ 2 ∧ Tp H v (eFt f) ∧ ∀ H' ow', Mv P H H' ow ow' → HistAt c P H' ow' p (addFate n i f b) es → Q .non H'
section
variable {P : Program} {w : World} {K : PySem.W.Frag} {mg : Str → Option Value} {base : Heap} {c : Cs} {Pt : Addr}
theorem flat_ns (l : List Nat) : (l.map vN).all flatV = true := by
  rw [List.all_eq_true]
  intro x hx
  obtain ⟨n, _, rfl⟩ := List.mem_map.mp hx
  rfl
theorem ins_eq {l1 l2 rg : List Nat} {i k m : Nat} (hk : rg.length = k) :
    ((l1 ++ i :: (rg ++ l2)).map vN).take ((l1.length : Int) + 1 + (k : Int)).toNat ++ [vN m] ++ ((l1 ++ i :: (rg ++ l2)).map vN).drop ((l1.length : Int) + 1 + (k : Int)).toNat = (l1 ++ i :: (rg ++ [m] ++ l2)).map vN := by
  have e : ((l1.length : Int) + 1 + (k : Int)).toNat = (l1 ++ i :: rg).length := by
    rw [List.length_append, List.length_cons, hk]
    omega
  have e2 : l1 ++ i :: (rg ++ l2) = (l1 ++ i :: rg) ++ l2 := by simp
  rw [e, e2, ← List.map_take, ← List.map_drop, List.take_left, List.drop_left]
  simp
theorem at_app_new' (l : List (Kp Tx)) (k : Kp Tx) (o : List Nat) : (B.mk (l ++ [k]) o).at l.length = k := by
  unfold B.at
  simp only [List.getD_eq_getElem?_getD]
  rw [List.getElem?_append_right (Nat.le_refl _)]
  simp
theorem scAddF : FnScope ["self", "number", "which", "fate", "change", "place", "line"] ["self", "number", "which", "fate"] (defScope sAddF) := ⟨rfl, rfl, rfl, by decide +kernel, rfl, by decide +kernel, by decide +kernel⟩
theorem ok_addf {f : Addr} {fd : FuncData} (F : FnD K "add_fate" "History.add_fate" sAddF f fd) (T : Bt mg) (C : Tc K mg c) (M : Meth K c.CH "add_fate" f) (GPL : Fn P w K mg base CX0 1 "put_lines" spPutL) (MK : Mc P w K mg base 1 "Kept" c.CK (spKI c)) :
    Mt P w K mg base CX0 3 c.CH "add_fate" (spAddF c Pt) := by
  refine ⟨f, fd, ["self", "number", "which", "fate"], C.cH, M, fok F scAddF (fun vs H Q E h => ?_) (fun cdv A outer s0 H vs Q E hr h => ?_), F.bindsN fun _ _ _ _ _ _ us hl => match us, hl with | [_, _, _, _], _ => rfl⟩
  · obtain ⟨p, ow, b, es, n, i, m, v, f, rfl, _⟩ := h
    rfl
  · obtain ⟨p, ow, b, es, n, i, m, v, f, rfl, ⟨s, h⟩, hn1, hn, hi, ho, bd, hm, hf, tv, q⟩ := h
    refine ⟨_, pss_cons (ps_set (i := 4) scAddF.nd rfl (.inl rfl) (pe_ix ix_list (pe_fld (pv 0) rfl) (pe_op op_sub (pv 1) pe_int) (fun _ _ => rfl)))
      (pss_cons (ps_if (pt_cmpR op_eq (pe_ix ix_tup (pe_ix ix_tup (pv 3) pe_int (fun _ _ => rfl)) pe_int (fun _ _ => rfl)) pe_str (nomark _))
        (pss_one (ps_expr (pe_bm PySem.F.plainAttrs_list PySem.F.slot_list_append PySem.F.type_list_append mt_append (pe_fld (pe_ix ix_list (pe_fld (pv 0) rfl) (pv 2) (fun _ _ => rfl)) rfl) (pa_cons (pv 1) pa_nil))))
        (pss_one (ps_if (pt_cmpR op_eq (pe_ix ix_tup (pe_ix ix_tup (pv 3) pe_int (fun _ _ => rfl)) pe_int (fun _ _ => rfl)) pe_str (nomark _))
            (pss_one (ps_expr (pe_bm PySem.F.plainAttrs_list PySem.F.slot_list_append PySem.F.type_list_append mt_append (pe_fld (pe_ix ix_list (pe_fld (pv 0) rfl) (pv 2) (fun _ _ => rfl)) rfl) (pa_cons (pe_tup (pa_cons (pv 1) (pa_cons (pe_ix ix_tup (pe_ix ix_tup (pv 3) pe_int (fun _ _ => rfl)) pe_int (fun _ _ => rfl)) pa_nil))) pa_nil))))
            (pss_nil))))
      (pss_cons (ps_set (i := 5) scAddF.nd rfl (.inl rfl) (pe_op op_add (pe_bm PySem.F.plainAttrs_list PySem.F.slot_list_index PySem.F.type_list_index mt_index (pe_fld (pv 0) rfl) (pa_cons (pv 2) pa_nil)) pe_int))
      (pss_one (ps_for PassesOwn.never rfl (pi_list (pe_fn GPL hr (by decide) pass0 (pa_cons (pe_fld (pe_ix ix_list (pe_fld (pv 0) rfl) (pv 2) (fun _ _ => rfl)) rfl) (pa_cons (pe_ix ix_tup (pv 3) pe_int (fun _ _ => rfl)) pa_nil)))) (pg_name (i := 6) scAddF.nd rfl (.inl rfl))
        (pss_cons (ps_expr (pe_bm PySem.F.plainAttrs_list PySem.F.slot_list_append PySem.F.type_list_append mt_append (pe_fld (pv 0) rfl) (pa_cons (pe_mc MK hr (by decide) (pa_cons (pv 1) (pa_cons (pv 6) pa_nil))) pa_nil)))
          (pss_cons (ps_expr (pe_bm PySem.F.plainAttrs_list PySem.F.slot_list_insert PySem.F.type_list_insert mt_insert (pe_fld (pv 0) rfl) (pa_cons (pv 5) (pa_cons (pe_op op_sub (pe_callB call_len_seq (by rfl) T.len PySem.boot_len (pa_cons (pe_fld (pv 0) rfl) pa_nil)) pe_int) pa_nil))))
          (pss_cons (ps_expr (pe_bm PySem.F.plainAttrs_list PySem.F.slot_list_append PySem.F.type_list_append mt_append (pe_fld (pv 4) rfl) (pa_cons (pe_op op_sub (pe_callB call_len_seq (by rfl) T.len PySem.boot_len (pa_cons (pe_fld (pv 0) rfl) pa_nil)) pe_int) pa_nil)))
          (pss_one (ps_set (i := 5) scAddF.nd rfl (.inl rfl) (pe_op op_add (pv 5) pe_int)))))))))), ?_⟩
    obtain ⟨l1, l2, eo, hno⟩ := order_split ho
    have hj : n - 1 < es.length := by omega
    obtain ⟨r, g1, g2⟩ := h.cat (List.getElem?_eq_getElem hj)
    obtain ⟨k0, d1, d2⟩ := h.kat hi
    have en : ((n : Int) - 1) = ((n - 1 : Nat) : Int) := by omega
    obtain ⟨a, x0, y, z, rfl, ha, _, hy, hz⟩ := tv.three
    have T0 : SqT K H a [x0, y, z] := .inl (.of ha)
    refine ⟨_, rfl, p, _, _, _, _, rfl, h.hp, C.cH, C.hChanges, rfl, _, rfl, _, _, rfl, rfl, s.lc, _, _, _, rfl, rfl, SqL.of h.hc, at_of (j := n - 1) en (by rw [List.getElem?_map, g1]; rfl), ?_⟩
    have add0 := addTo_zero n i f b ho
    cases hc : f.chg
    case' keep =>
      rw [hc] at hy
      obtain ⟨a2, xs, rfl, ha2, t2⟩ := hy.tupE
      obtain ⟨x1, xs1, rfl, u1, t3⟩ := t2.consE
      obtain rfl := u1.strE
      obtain rfl := t3.nilE
      refine ⟨_, rfl, a, _, 1, _, rfl, rfl, T0, at_of (j := 1) rfl rfl, a2, _, 0, _, rfl, rfl, .inl (.of ha2), at_of (j := 0) rfl rfl, rfl, _, rfl, iteF ?_⟩
      refine ⟨_, rfl, a, _, 1, _, rfl, rfl, T0, at_of (j := 1) rfl rfl, a2, _, 0, _, rfl, rfl, .inl (.of ha2), at_of (j := 0) rfl rfl, rfl, _, rfl, iteF ?_⟩
      have hs : HSh c Pt H ow p s b.kept.length (addTo n i f 0 b) es := by
        rw [add0]
        unfold B.noted
        rw [hc]
        have : Kp.note n (Chg.keep (τ := Tx)) = id := rfl
        rw [this, List.modify_id]
        exact h
      have mv : Mv Pt H H ow ow := Mv.refl Pt H ow
      obtain ⟨H2, eH, hs, mv⟩ : ∃ H2, H2 = H ∧ HSh c Pt H2 ow p s b.kept.length (addTo n i f 0 b) es ∧ Mv Pt H H2 ow ow := ⟨_, rfl, hs, mv⟩
    case' drop =>
      rw [hc] at hy
      obtain ⟨a2, xs, rfl, ha2, t2⟩ := hy.tupE
      obtain ⟨x1, xs1, rfl, u1, t3⟩ := t2.consE
      obtain rfl := u1.strE
      obtain rfl := t3.nilE
      refine ⟨_, rfl, a, _, 1, _, rfl, rfl, T0, at_of (j := 1) rfl rfl, a2, _, 0, _, rfl, rfl, .inl (.of ha2), at_of (j := 0) rfl rfl, rfl, _, rfl, iteT ?_⟩
      have dl := bd.drp i hi
      refine ⟨_, rfl, p, _, _, _, _, rfl, h.hp, C.cH, C.hKept, rfl, _, rfl, s.lk, _, _, _, rfl, rfl, SqL.of h.hk, at_of (j := i) rfl (by rw [List.getElem?_map, d1]; rfl), k0.a, _, _, _, _, rfl, d2.ins, C.cK, C.kDropped, rfl, .inl ⟨rfl, _, SqL.of d2.drp⟩, _, rfl, k0.ld, _, _, rfl, rfl, d2.drp, small1000 (by rw [List.length_map]; omega), ?_⟩
      have hs : HSh c Pt (L2.upd H k0.ld (.lst ((b.at i).dropped.map vN ++ [vN n]))) ow p s b.kept.length (addTo n i f 0 b) es := by
        rw [add0]
        unfold B.noted
        rw [hc]
        exact h.drop (Nat.le_refl _) d1 n
      have mv : Mv Pt H (L2.upd H k0.ld (.lst ((b.at i).dropped.map vN ++ [vN n]))) ow ow := Mv.upd d2.od fun j z => by cases z
      obtain ⟨H2, eH, hs, mv⟩ : ∃ H2, H2 = (L2.upd H k0.ld (.lst ((b.at i).dropped.map vN ++ [vN n]))) ∧ HSh c Pt H2 ow p s b.kept.length (addTo n i f 0 b) es ∧ Mv Pt H H2 ow ow := ⟨_, rfl, hs, mv⟩
    case' text t =>
      rw [hc] at hy
      obtain ⟨a2, xs, rfl, ha2, t2⟩ := hy.tupE
      obtain ⟨x1, xs1, rfl, u1, t3⟩ := t2.consE
      obtain ⟨x2, xs2, rfl, u2, t4⟩ := t3.consE
      obtain rfl := u1.strE
      obtain rfl := u2.strE
      obtain rfl := t4.nilE
      refine ⟨_, rfl, a, _, 1, _, rfl, rfl, T0, at_of (j := 1) rfl rfl, a2, _, 0, _, rfl, rfl, .inl (.of ha2), at_of (j := 0) rfl rfl, rfl, _, rfl, iteF ?_⟩
      refine ⟨_, rfl, a, _, 1, _, rfl, rfl, T0, at_of (j := 1) rfl rfl, a2, _, 0, _, rfl, rfl, .inl (.of ha2), at_of (j := 0) rfl rfl, rfl, _, rfl, iteT ?_⟩
      have dl := bd.txt i hi
      obtain ⟨ys, hys, tys⟩ := d2.txt
      have yl : ys.length = (b.at i).texts.length := by rw [tys.len, List.length_map]
      refine ⟨_, rfl, p, _, _, _, _, rfl, h.hp, C.cH, C.hKept, rfl, _, rfl, s.lk, _, _, _, rfl, rfl, SqL.of h.hk, at_of (j := i) rfl (by rw [List.getElem?_map, d1]; rfl), k0.a, _, _, _, _, rfl, d2.ins, C.cK, C.kTexts, rfl, .inl ⟨rfl, _, SqL.of hys⟩, _, rfl, _, rfl, a, _, 1, _, rfl, rfl, T0, at_of (j := 1) rfl rfl, a2, _, 1, _, rfl, rfl, .inl (.of ha2), at_of (j := 1) rfl rfl, szT 2 (by decide), fun w0 nw => ⟨k0.lt, ys, _, rfl, rfl, snew nw _ _ hys, small1000 (by omega), ?_⟩⟩
      have tw : Tp (L2.upd H w0 (.tup [vN n, .str t.s])) (.ref w0) (eTx (n, t)) := Tp.mk (ds := [.int (n : Int), .str t.s]) nw (.cons (.int _) (.one (.str _)))
      have hs : HSh c Pt (L2.upd (L2.upd H w0 (.tup [vN n, .str t.s])) k0.lt (.lst (ys ++ [.ref w0]))) ow p s b.kept.length (addTo n i f 0 b) es := by
        rw [add0]
        unfold B.noted
        rw [hc]
        exact (h.same (snew nw)).text (Nat.le_refl _) d1 (snew nw _ _ hys) tw
      have mv : Mv Pt H (L2.upd (L2.upd H w0 (.tup [vN n, .str t.s])) k0.lt (.lst (ys ++ [.ref w0]))) ow ow := (Mv.of h (snew nw)).trans (Mv.upd d2.ot fun j z => by cases z)
      obtain ⟨H2, eH, hs, mv⟩ : ∃ H2, H2 = (L2.upd (L2.upd H w0 (.tup [vN n, .str t.s])) k0.lt (.lst (ys ++ [.ref w0]))) ∧ HSh c Pt H2 ow p s b.kept.length (addTo n i f 0 b) es ∧ Mv Pt H H2 ow ow := ⟨_, rfl, hs, mv⟩
    all_goals
      rw [← eH]
      clear eH
      have L0 : (addTo n i f 0 b).kept.length = b.kept.length := addTo_len (Nat.zero_le _)
      have o0 : (addTo n i f 0 b).order = b.order := by rw [add0]
      have ha' : H2 a = some _ := mv.tk h _ _ ha
      have hz' : Tp H2 z (eBh f.behind) := Tp.mono (mv.tk h) hz
      have hord := hs.ho
      rw [o0, eo] at hord
      obtain ⟨k1, d3, d4⟩ := hs.kat (i := i) (by rw [L0]; exact hi)
      have hline : Tp H2 k1.tv (eLn (b.at i).line) := by
        have := d4.line
        rw [(addTo_at hi).2] at this
        exact this
      refine ⟨_, rfl, p, _, _, _, _, rfl, hs.hp, C.cH, C.hOrder, rfl, .inl ⟨rfl, _, SqL.of hord⟩, _, rfl, s.lo, _, vN i, l1.length, vN i, rfl, rfl, SqL.of hord, rfl, flat_ns _, ?_, by show ((i : Int) == (i : Int)) = true; simp, ?_, _, _, rfl, rfl, ?_⟩
      · rw [List.map_append, List.getElem?_append_right (by rw [List.length_map]; exact Nat.le_refl _), List.length_map, Nat.sub_self]
        rfl
      · intro m' z' hm' hz'
        rw [List.map_append, List.getElem?_append_left (by rw [List.length_map]; exact hm'), List.getElem?_map, List.getElem?_eq_getElem hm'] at hz'
        cases hz'
        show ((l1[m'] : Int) == (i : Int)) = false
        have : l1[m'] ≠ i := fun e => hno (by rw [← e]; exact List.getElem_mem hm')
        rw [beq_eq_false_iff_ne]
        omega
      refine ⟨_, rfl, p, _, _, _, _, rfl, hs.hp, C.cH, C.hKept, rfl, _, rfl, s.lk, _, _, _, rfl, rfl, SqL.of hs.hk, at_of (j := i) rfl (by rw [List.getElem?_map, d3]; rfl), k1.a, _, _, _, _, rfl, d4.ins, C.cK, C.kLine, rfl, _, rfl, a, _, 2, _, rfl, rfl, .inl (.of ha'), at_of (j := 2) rfl rfl, _, _, (b.at i).line, f.behind, rfl, hline, hz', by omega, fun H3 pl s3 npl hpl => ?_⟩
      obtain ⟨ys, hpl, tpl⟩ := hpl
      have hyl : ys.length = f.behind.length := by rw [tpl.len, List.length_map]
      have hs3 := hs.same s3
      have opl : ow pl = none := hs.fresh npl
      have e00 : ((l1.length : Int) + 1 + ((0 : Nat) : Int)) = (l1.length : Int) + 1 := by omega
      refine ⟨pl, rfl, ⟨_, SqL.of hpl⟩, for_it (walk_list (xs := ys)) (fun k σ Hk => ∃ (owk : Ow) (sk : Sh) (u : Option V), σ = [some (.ref p), some (vN n), some (vN i), some (.ref a), some (.ref r.a), some (.int ((l1.length : Int) + 1 + (k : Int))), u] ∧
        HSh c Pt Hk owk p sk (b.kept.length + k) (addTo n i f k b) es ∧ Mv Pt H3 Hk ow owk ∧ sk.ca = s.ca) ⟨ow, s, none, by rw [e00]; rfl, hs3, Mv.refl _ _ _, rfl⟩ (fun k σ Hk _ ⟨owk, sk, u, _, _, v, _⟩ => SqL.of (v.rest _ _ (tab_ne hs3.tab hpl fun q z => by cases z) hpl opl).1) ?_ ?_⟩
      · rintro k x σ Hk0 Hk hk ⟨owk, sk, u, rfl, hh, vv, eca⟩ ⟨rfl, hx⟩
        have hkl : k < f.behind.length := by rw [← hyl]; exact hk
        obtain ⟨t9, ht9⟩ : ∃ t, f.behind[k]? = some t := ⟨_, List.getElem?_eq_getElem hkl⟩
        obtain ⟨oo, st⟩ := addTo_succ (n := n) ht9 eo hno
        have lenk : (addTo n i f k b).kept.length = b.kept.length + k := addTo_len (Nat.le_of_lt hkl)
        obtain ⟨dd, hdd, tx⟩ := tpl.at hx
        rw [List.getElem?_map, ht9] at hdd
        cases hdd
        have bk := bd.kept
        have bo := bd.order
        have lka : sk.ka.length = b.kept.length + k := by rw [hh.kl, lenk]
        refine ⟨_, rfl, p, _, _, _, _, rfl, hh.hp, C.cH, C.hKept, rfl, .inl ⟨rfl, _, SqL.of hh.hk⟩, _, rfl, _, rfl, fun xa dx nx ndx ndn => ⟨xa, dx, n, x, rfl, upd_same, fun H4 lt ld nlt nld ne2 hx4 hlt hld keep => ⟨rfl, ?_⟩⟩⟩
        have nx1 : xa ≠ lt := upd_no nlt
        have nx2 : xa ≠ ld := upd_no nld
        have nlt2 : L2.upd Hk dx (.own xa) lt = none := by rw [upd_ne (Ne.symm nx1)] at nlt; exact nlt
        have nld2 : L2.upd Hk dx (.own xa) ld = none := by rw [upd_ne (Ne.symm nx2)] at nld; exact nld
        have flt : Hk lt = none := by rw [upd_ne (Ne.symm (upd_no nlt2))] at nlt2; exact nlt2
        have fld : Hk ld = none := by rw [upd_ne (Ne.symm (upd_no nld2))] at nld2; exact nld2
        have s4 : Same Hk H4 := fun b0 u0 e0 => keep b0 u0 (by
          rw [upd_ne (ne_of_none e0 nx), upd_ne (ne_of_none e0 ndx)]
          exact e0) (ne_of_none e0 nx)
        have tx4 : Tp H4 x (eLn ⟨(b.at i).line.kd.behind, t9⟩) := Tp.mono ((vv.tk hs3).trans (Tk.of s4)) tx
        have hp5 := hh.pushKept (q := ⟨xa, dx, x, lt, ld⟩) (n := n) (nm := .put n (b.at i).nm k) (by rw [lenk]; exact Nat.le_refl _) s4 nx flt fld hx4 hlt hld ne2 tx4
        have hk4 := s4 _ _ hh.hk
        refine ⟨_, _, _, rfl, rfl, hk4, small1000 (by rw [List.length_map]; omega), ?_⟩
        have mv5 : Mv Pt Hk (L2.upd H4 sk.lk (.lst ((sk.ka.map fun q => V.ref q.a) ++ [.ref xa]))) owk (owK owk (addTo n i f k b).kept.length ⟨xa, dx, x, lt, ld⟩) := by
          have f1 := hh.fresh nx
          have f2 := hh.fresh flt
          have f3 := hh.fresh fld
          refine ⟨fun b0 t0 e0 => owK_old e0 f1 f2 f3, fun b0 u0 _ e0 n0 => ⟨?_, ?_⟩, fun b0 j0 e0 => ?_⟩
          · rw [upd_ne fun z => by rw [z, hh.ok] at n0; cases n0]
            exact s4 _ _ e0
          · unfold owK
            rw [if_neg (ne_of_none e0 nx), if_neg (ne_of_none e0 flt), if_neg (ne_of_none e0 fld)]
            exact n0
          · obtain ⟨o0, g0, _⟩ := hh.own b0 _ e0
            rw [upd_ne (ne_tag e0 hh.ok fun z => by cases z), g0]
            exact s4 _ _ g0
        obtain ⟨H5, e5⟩ : ∃ H5, H5 = L2.upd H4 sk.lk (.lst ((sk.ka.map fun q => V.ref q.a) ++ [.ref xa])) := ⟨_, rfl⟩
        rw [← e5] at mv5 ⊢
        replace hp5 : HSh c Pt H5 (owK owk (addTo n i f k b).kept.length ⟨xa, dx, x, lt, ld⟩) p { sk with ka := sk.ka ++ [⟨xa, dx, x, lt, ld⟩] } (b.kept.length + k) { addTo n i f k b with kept := (addTo n i f k b).kept ++ [⟨n, ⟨(b.at i).line.kd.behind, t9⟩, [], [], .put n (b.at i).nm k⟩] } es := by
          rw [e5]
          exact hp5
        clear e5
        have hord5 : H5 sk.lo = some (.lst ((l1 ++ i :: (List.range' b.kept.length k ++ l2)).map vN)) := by
          have := hp5.ho
          rw [← oo]
          exact this
        have elen : (((sk.ka ++ [(⟨xa, dx, x, lt, ld⟩ : KA)]).map fun q : KA => V.ref q.a).length : Int) - 1 = ((b.kept.length + k : Nat) : Int) := by
          rw [List.length_map, List.length_append, lka]
          show ((b.kept.length + k + 1 : Nat) : Int) - 1 = _
          omega
        have bl : l1.length ≤ 300 := by
          rw [eo, List.length_append, List.length_cons] at bo
          omega
        refine ⟨_, rfl, p, _, _, _, _, rfl, hp5.hp, C.cH, C.hOrder, rfl, .inl ⟨rfl, _, SqL.of hord5⟩, _, rfl, _, rfl, p, _, _, _, _, rfl, hp5.hp, C.cH, C.hKept, rfl, sk.lk, _, rfl, .inl (SqL.of hp5.hk), _, _, rfl, rfl, sk.lo, _, (l1.length : Int) + 1 + (k : Int), vN (b.kept.length + k), rfl, ?_, hord5, ?_, by omega, by omega, ?_⟩
        · exact congrArg (fun z => [V.int _, V.int z]) elen
        · refine small1000 ?_
          rw [List.length_map, List.length_append, List.length_cons, List.length_append, List.length_range']
          rw [eo, List.length_append, List.length_cons] at bo
          omega
        rw [ins_eq (by rw [List.length_range'])]
        have hp6 := hp5.setOrder (l1 ++ i :: (List.range' b.kept.length k ++ [b.kept.length + k] ++ l2))
        obtain ⟨H6, e6⟩ : ∃ H6, H6 = L2.upd H5 sk.lo (.lst ((l1 ++ i :: (List.range' b.kept.length k ++ [b.kept.length + k] ++ l2)).map vN)) := ⟨_, rfl⟩
        have mv6 : Mv Pt H5 H6 (owK owk (addTo n i f k b).kept.length ⟨xa, dx, x, lt, ld⟩) (owK owk (addTo n i f k b).kept.length ⟨xa, dx, x, lt, ld⟩) := by
          rw [e6]
          exact Mv.upd hp5.oo fun j z => by cases z
        rw [← e6]
        replace hp6 : HSh c Pt H6 (owK owk (addTo n i f k b).kept.length ⟨xa, dx, x, lt, ld⟩) p { sk with ka := sk.ka ++ [⟨xa, dx, x, lt, ld⟩] } (b.kept.length + k) (addTo n i f (k + 1) b) es := by
          rw [e6, st]
          exact hp6
        clear e6
        have C6 := hp6.cs (n - 1) r es[n - 1] (by show sk.ca[n - 1]? = some r; rw [eca]; exact g1) (List.getElem?_eq_getElem hj)
        obtain ⟨ids, i1, i2, i3⟩ := C6.put
        refine ⟨_, rfl, r.a, _, _, _, _, rfl, C6.ins, C.cC, C.cPut, rfl, .inl ⟨rfl, _, SqL.of i1⟩, _, rfl, p, _, _, _, _, rfl, hp6.hp, C.cH, C.hKept, rfl, sk.lk, _, rfl, .inl (SqL.of hp6.hk), _, _, rfl, rfl, r.pt, _, vN (b.kept.length + k), rfl, ?_, i1, small1000 (by rw [List.length_map]; omega), ?_⟩
        · exact congrArg (fun z => [V.int z]) elen
        have atn : ((addTo n i f (k + 1) b).at (b.kept.length + k)).born = (n - 1) + 1 := by
          rw [st, ← lenk, at_app_new']
          show n = _
          omega
        have hp7 := hp6.pushPut (by show sk.ca[n - 1]? = some r; rw [eca]; exact g1) (List.getElem?_eq_getElem hj) atn i1
        refine ⟨_, rfl, _, _, rfl, rfl, ?_⟩
        have ek : (l1.length : Int) + 1 + (k : Int) + 1 = (l1.length : Int) + 1 + ((k + 1 : Nat) : Int) := by omega
        exact ⟨_, _, some x, by rw [← ek]; rfl, hp7, vv.trans (mv5.trans (mv6.trans (Mv.upd C6.op fun j z => by cases z))), eca⟩
      · rintro σ Hk ⟨owk, sk, u, rfl, hh, vv, eca⟩
        rw [hyl, addTo_full] at hh
        refine q Hk owk (mv.trans ((Mv.of hs s3).trans vv)) ⟨sk, ?_⟩
        rw [addFate_len]
        exact hh
end
end Wh

/-! dicts of fates by whole numbers -/
namespace Wh
open PySem PySem.Spec PyProof.Rows L2 Wf
def lkF : List (Nat × Ft) → Nat → Option Ft
  | [], _ => none
  | p :: r, n => if p.1 = n then some p.2 else lkF r n
def ptF (l : List (Nat × Ft)) (n : Nat) (f : Ft) : List (Nat × Ft) := if l.any (fun p => decide (p.1 = n)) = true then l.map (fun p => if p.1 = n then (p.1, f) else p) else l ++ [(n, f)]
theorem lkF_mem : ∀ {l : List (Nat × Ft)} {p : Nat × Ft}, (l.map (·.1)).Nodup → p ∈ l → lkF l p.1 = some p.2
  | q :: r, p, hn, h => by
    rw [List.map_cons, List.nodup_cons] at hn
    unfold lkF
    rcases List.mem_cons.mp h with e | h
    · rw [e, if_pos rfl]
    · rw [if_neg fun e => hn.1 (by rw [e]; exact List.mem_map.mpr ⟨p, h, rfl⟩)]
      exact lkF_mem hn.2 h
theorem lkF_none : ∀ {l : List (Nat × Ft)} {n : Nat}, ¬ n ∈ l.map (·.1) → lkF l n = none
  | [], _, _ => rfl
  | q :: r, n, h => by
    rw [List.map_cons, List.mem_cons] at h
    unfold lkF
    rw [if_neg fun e => h (.inl e.symm)]
    exact lkF_none fun z => h (.inr z)
theorem lkF_some : ∀ {l : List (Nat × Ft)} {n : Nat}, n ∈ l.map (·.1) → ∃ f, lkF l n = some f ∧ (n, f) ∈ l
  | q :: r, n, h => by
    unfold lkF
    by_cases e : q.1 = n
    · rw [if_pos e]
      exact ⟨q.2, rfl, by rw [← e]; exact List.mem_cons_self⟩
    · rw [if_neg e]
      rw [List.map_cons, List.mem_cons] at h
      rcases h with z | z
      · exact absurd z.symm e
      · obtain ⟨f, h1, h2⟩ := lkF_some z
        exact ⟨f, h1, List.mem_cons_of_mem _ h2⟩
section
variable {H : Hp}
theorem Fts.nil : Fts H [] [] := ⟨rfl, .nil⟩
theorem inl_eq {a b : Nat} : ((Sum.inl (a : Int) : Key) = Sum.inl (b : Int)) ↔ a = b := by
  constructor
  · intro h
    have := Sum.inl.inj h
    omega
  · intro h
    rw [h]
theorem Fts.uncons {kvs : List (Key × V)} {p : Nat × Ft} {r : List (Nat × Ft)} (h : Fts H kvs (p :: r)) : ∃ v kr, kvs = (.inl (p.1 : Int), v) :: kr ∧ Tp H v (eFt p.2) ∧ Fts H kr r := by
  obtain ⟨h1, h2⟩ := h
  match kvs, h1, h2 with
  | [], h1, _ => cases h1
  | (k, v) :: kr, h1, h2 =>
    rw [List.map_cons, List.map_cons] at h1
    injection h1 with e1 e2
    obtain ⟨v', vs', e3, t1, t2⟩ := h2.consE
    rw [List.map_cons] at e3
    injection e3 with e4 e5
    refine ⟨v, kr, ?_, ?_, e2, ?_⟩
    · rw [show k = Sum.inl (p.1 : Int) from e1]
    · rw [show v = v' from e4]; exact t1
    · rw [show kr.map (·.2) = vs' from e5]; exact t2
theorem Fts.cons {k : Nat} {v : V} {kr : List (Key × V)} {f : Ft} {r : List (Nat × Ft)} (h : Tp H v (eFt f)) (t : Fts H kr r) : Fts H ((.inl (k : Int), v) :: kr) ((k, f) :: r) := by
  refine ⟨?_, .cons h t.2⟩
  rw [List.map_cons, List.map_cons, t.1]
theorem Fts.get : ∀ {l : List (Nat × Ft)} {kvs : List (Key × V)}, Fts H kvs l → ∀ n : Nat, (∀ f, lkF l n = some f → ∃ v, valV kvs (.inl (n : Int)) = some v ∧ Tp H v (eFt f)) ∧ (lkF l n = none → valV kvs (.inl (n : Int)) = none)
  | [], kvs, h, n => by
    have : kvs = [] := by
      have := h.1
      rw [List.map_nil] at this
      exact List.map_eq_nil_iff.mp this
    rw [this]
    exact ⟨fun f e => (by cases e), fun _ => rfl⟩
  | p :: r, kvs, h, n => by
    obtain ⟨v, kr, rfl, h1, h2⟩ := h.uncons
    obtain ⟨g1, g2⟩ := Fts.get h2 n
    unfold lkF
    by_cases e : p.1 = n
    · rw [if_pos e, valV_pos (by rw [e])]
      exact ⟨fun f ef => ⟨v, rfl, by cases ef; exact h1⟩, fun z => by cases z⟩
    · rw [if_neg e, valV_neg (fun z => e (inl_eq.mp z))]
      exact ⟨g1, g2⟩
theorem Fts.app {l : List (Nat × Ft)} {kvs : List (Key × V)} {n : Nat} {v : V} {f : Ft} (h : Fts H kvs l) (hv : Tp H v (eFt f)) : Fts H (kvs ++ [(.inl (n : Int), v)]) (l ++ [(n, f)]) := by
  refine ⟨?_, ?_⟩
  · rw [List.map_append, List.map_append, h.1]
    rfl
  · rw [List.map_append, List.map_append]
    exact h.2.app (.one hv)
theorem Fts.len {l : List (Nat × Ft)} {kvs : List (Key × V)} (h : Fts H kvs l) : kvs.length = l.length := by
  have := congrArg List.length h.1
  rw [List.length_map, List.length_map] at this
  exact this
theorem Fts.any : ∀ {l : List (Nat × Ft)} {kvs : List (Key × V)}, Fts H kvs l → ∀ n : Nat, (kvs.any fun kv => decide (kv.1 = Sum.inl (n : Int))) = l.any fun p => decide (p.1 = n)
  | [], kvs, h, n => by
    have : kvs = [] := by
      have := h.1
      rw [List.map_nil] at this
      exact List.map_eq_nil_iff.mp this
    rw [this]; rfl
  | p :: r, kvs, h, n => by
    obtain ⟨v, kr, rfl, h1, h2⟩ := h.uncons
    rw [List.any_cons, List.any_cons, Fts.any h2 n]
    congr 1
    exact decide_eq_decide.mpr inl_eq
theorem Fts.mapPut : ∀ {l : List (Nat × Ft)} {kvs : List (Key × V)}, Fts H kvs l → ∀ (n : Nat) {v : V} {f : Ft}, Tp H v (eFt f) → Fts H (kvs.map fun kv => if kv.1 = Sum.inl (n : Int) then (kv.1, v) else kv) (l.map fun p => if p.1 = n then (p.1, f) else p)
  | [], kvs, h, n, v, f, hv => by
    have : kvs = [] := by
      have := h.1
      rw [List.map_nil] at this
      exact List.map_eq_nil_iff.mp this
    rw [this]; exact .nil
  | p :: r, kvs, h, n, v, f, hv => by
    obtain ⟨u, kr, rfl, h1, h2⟩ := h.uncons
    rw [List.map_cons, List.map_cons]
    by_cases e : p.1 = n
    · rw [if_pos e, if_pos (by rw [e])]
      exact .cons hv (Fts.mapPut h2 n hv)
    · rw [if_neg e, if_neg (fun z => e (inl_eq.mp z))]
      exact .cons h1 (Fts.mapPut h2 n hv)
theorem Fts.put {l : List (Nat × Ft)} {kvs : List (Key × V)} (h : Fts H kvs l) (n : Nat) {v : V} {f : Ft} (hv : Tp H v (eFt f)) : Fts H (putK kvs (.inl (n : Int)) v) (ptF l n f) := by
  unfold putK ptF
  rw [h.any n]
  by_cases e : (l.any fun p => decide (p.1 = n)) = true
  · rw [if_pos e, if_pos e]
    exact h.mapPut n hv
  · rw [if_neg e, if_neg e]
    exact h.app hv
theorem any_key {l : List (Nat × Ft)} {n : Nat} : (l.any fun p => decide (p.1 = n)) = true ↔ n ∈ l.map (·.1) := by
  rw [List.any_eq_true, List.mem_map]
  constructor
  · rintro ⟨p, h1, h2⟩
    exact ⟨p, h1, of_decide_eq_true h2⟩
  · rintro ⟨p, h1, h2⟩
    exact ⟨p, h1, decide_eq_true h2⟩
theorem ptF_keys (l : List (Nat × Ft)) (n : Nat) (f : Ft) : (ptF l n f).map (·.1) = if n ∈ l.map (·.1) then l.map (·.1) else l.map (·.1) ++ [n] := by
  unfold ptF
  by_cases e : n ∈ l.map (·.1)
  · rw [if_pos (any_key.mpr e), if_pos e, List.map_map]
    refine List.map_congr_left fun p _ => ?_
    show (if p.1 = n then (p.1, f) else p).1 = p.1
    by_cases q : p.1 = n
    · rw [if_pos q]
    · rw [if_neg q]
  · rw [if_neg (fun z => e (any_key.mp z)), if_neg e, List.map_append]
    rfl
theorem ptF_nodup {l : List (Nat × Ft)} (n : Nat) (f : Ft) (h : (l.map (·.1)).Nodup) : ((ptF l n f).map (·.1)).Nodup := by
  rw [ptF_keys]
  by_cases e : n ∈ l.map (·.1)
  · rw [if_pos e]; exact h
  · rw [if_neg e]
    refine List.nodup_append.mpr ⟨h, by simp, fun a ha b hb z => ?_⟩
    rw [List.mem_singleton] at hb
    rw [z, hb] at ha
    exact e ha
theorem ptF_mem {l : List (Nat × Ft)} {n : Nat} {f : Ft} {p : Nat × Ft} (h : p ∈ ptF l n f) : p ∈ l ∨ p = (n, f) := by
  unfold ptF at h
  by_cases e : (l.any fun p => decide (p.1 = n)) = true
  · rw [if_pos e] at h
    obtain ⟨q, h1, h2⟩ := List.mem_map.mp h
    by_cases z : q.1 = n
    · rw [if_pos z, z] at h2
      exact .inr h2.symm
    · rw [if_neg z] at h2
      rw [← h2]
      exact .inl h1
  · rw [if_neg e] at h
    rcases List.mem_append.mp h with z | z
    · exact .inl z
    · exact .inr (List.mem_singleton.mp z)
theorem ptF_len (l : List (Nat × Ft)) (n : Nat) (f : Ft) : (ptF l n f).length ≤ l.length + 1 := by
  have := congrArg List.length (ptF_keys l n f)
  rw [List.length_map] at this
  rw [this]
  split
  · rw [List.length_map]; omega
  · rw [List.length_append, List.length_map]; exact Nat.le_refl _
end
/-! ### by the number -/
structure Srt (l sl : List (Nat × Ft)) : Prop where
  perm : sl.Perm l
  inc : (sl.map (·.1)).Pairwise (· < ·)
theorem Srt.nd {l sl : List (Nat × Ft)} (h : Srt l sl) : (l.map (·.1)).Nodup := by
  have h1 : (sl.map (·.1)).Nodup := h.inc.imp fun a => Nat.ne_of_lt a
  exact (h.perm.map (·.1)).nodup_iff.mp h1
theorem Srt.ex {l : List (Nat × Ft)} (h : (l.map (·.1)).Nodup) : ∃ sl, Srt l sl := by
  refine ⟨l.mergeSort fun a b => decide (a.1 ≤ b.1), List.mergeSort_perm _ _, ?_⟩
  have h1 : (l.mergeSort fun a b => decide (a.1 ≤ b.1)).Pairwise fun a b => a.1 ≤ b.1 := by
    have := List.pairwise_mergeSort (le := fun a b : Nat × Ft => decide (a.1 ≤ b.1)) (fun a b c h1 h2 => by simp at *; omega) (fun a b => by simp; omega) l
    exact this.imp fun h => of_decide_eq_true h
  have h2 : ((l.mergeSort fun a b => decide (a.1 ≤ b.1)).map (·.1)).Nodup := ((List.mergeSort_perm l _).map (·.1)).nodup_iff.mpr h
  have h3 : ((l.mergeSort fun a b => decide (a.1 ≤ b.1)).map (·.1)).Pairwise (· ≤ ·) := List.pairwise_map.mpr h1
  exact (h3.and h2).imp fun h => Nat.lt_of_le_of_ne h.1 h.2
theorem Srt.uniq {l sl : List (Nat × Ft)} (h : Srt l sl) {ys ks : List Int} (hk : ks = l.map fun p => (p.1 : Int)) (hp : ys.Perm ks) (hs : ys.Pairwise (· ≤ ·)) : ys = sl.map fun p => (p.1 : Int) := by
  refine List.Perm.eq_of_pairwise (le := (· ≤ ·)) (fun a b _ _ h1 h2 => Int.le_antisymm h1 h2) hs ?_ ?_
  · have := h.inc
    rw [List.pairwise_map] at this ⊢
    exact this.imp fun h => by omega
  · rw [hk] at hp
    exact hp.trans (h.perm.map _).symm
end Wh

/-! A rule of our own: x = {k: v for t in e}, x a local name that is written past. -/
namespace Wh
open PySem PySem.Spec PyProof.Rows L2
section
variable {X : Cx}
abbrev InBlk (X : Cx) (sc : Scope) (φ : Cx → Prop) : Prop := ∀ (s : Shared) (H : Hp) (C : Addr) (cl : List (Str × Addr)) (fp : List Addr), φ (X.blk s H sc (compEnvC sc cl C X.env) fp)
theorem sw_dc {kx vx : Expr} {gs : List Comprehension} {sc : Scope} {pos py : Pos} {y : Str} {l : Nat} {env : Env} (hk : env.scope.kind = .function) (hy : env.scope.names.lookup y = some .local) (hl : (py.line == pos.line) = true)
    (ha : (sc.names.any fun (n, k) => n == y && (k == .local || k == .cell)) = false) : swapsWith (.DictComp kx vx gs sc pos) (some (.Name y py)) l env = pure true := by
  have k1 : env.kindOf y = some .local := hy
  have k2 : env.blockKind = .function := by
    unfold Env.blockKind
    rw [hk]
    rfl
  unfold swapsWith
  simp only [k2, k1, ha, Expr.pos, hl]
  rfl
theorem ps_setDc {i : Nat} {y : Str} {py pos spos : Pos} {kx vx tg iter : Expr} {ifs : List Expr} {sc : Scope} {own : List (Str × Nat)} {wi : TI} {g : TG} {tt : TT} {tk tv : TE} (hc : X.calm = true) (hN : X.N.Nodup) (hy : X.N[i]? = some y)
    (hyl : X.env.scope.names.lookup y = some .local) (hsw : swapsWith (.DictComp kx vx [⟨tg, iter, ifs, 0⟩] sc pos) (some (.Name y py)) spos.line X.env = pure true) (hi : PI X tg iter wi) (ok : BlkOk X.N X.env.scope sc own)
    (hg : InBlk X sc fun Z => PG Z tg g) (ht : InBlk X sc fun Z => PTs Z ifs tt) (hk : InBlk X sc fun Z => PE Z kx tk) (he : InBlk X sc fun Z => PE Z vx tv) (hs : ∀ x, foldedSetIterable iter X.env x = pure x := by intro _; rfl) :
    PS X (.Assign [.Name y py] (.DictComp kx vx [⟨tg, iter, ifs, 0⟩] sc pos) spos) (tAsg (tDc wi g tt tk tv (own.map (·.2))) (gName i)) := by
  constructor
  intro pins s σ H D I h
  rw [exec_Assign_Name_used _ _ _ _ hsw]
  refine wpAny_bind (wpAny_standAt (wpAny_bind ?_))
  show wpAny _ X.A (comprehension (.DictComp kx vx [⟨tg, iter, ifs, 0⟩] sc pos) sc X.env (firstIterPos [⟨tg, iter, ifs, 0⟩] pos) newDict false (eval iter X.env) (some (assign (.Name y py) X.env)) >>= _) _ _ s
  have h' : tDc wi g tt tk tv (own.map (·.2)) σ H fun x H1 => gName i x σ H1 D.nx := h
  refine wpAny_bind (thn (dc_core (Qf := fun _ z => SP X pins D .next z) hc hN I hi ok hg ht hk he hs h' ?_) fun _ _ q => wpAny_pure (wpAny_pure q))
  intro L C z m H' I' q hn fp
  show wpAny _ _ (assign (.Name y py) X.env (.ref L)) _ _ _
  obtain ⟨f0, f1, f2, f3, f4, f5⟩ := fp
  refine wpAny_assign_Name (store_ok2 (v := V.ref L) I' hN hy (.inl hyl) rfl ?_ (.inr hyl))
  rintro z2 I2 ⟨a, sb, ha⟩
  have hCa : C ≠ a := by
    rcases ha with e | e
    · rw [e]; exact f1
    · intro e2
      exact f4 y a e e2.symm
  exact ⟨m, hn.sameBut sb hCa, fun h3 sb3 => ⟨_, H', I2.turned (t' := z2.toks) (fun b o nb e => (sb3.2 b nb).trans e) f0 f1 f3 f4 f5, q⟩⟩
/-- such a dict over any walk: Pv by the turn and the heap -/
theorem dc_it {J : L2.It} {n : Nat} {G : Hp → Prop} {Y : Nat → Hp → V → Hp → Prop} (wk : Walk J n G Y) {g : TG} {tt : TT} {tk tv : TE} {vs : List Nat} {σ : L2.St} {H1 : Hp} {D : Addr} {Qd : Hp → Prop} (Pv : Nat → Hp → Prop) (h0 : Pv 0 (L2.upd H1 D (.dK [])))
    (hG : ∀ i H, i ≤ n → Pv i H → G H) (hs : ∀ i x H H', i < n → Pv i H → Y i H x H' → g x (wipe σ vs) H' fun σ2 H2 => wipe σ2 vs = wipe σ vs ∧ tt σ2 H2 fun b H3 =>
      if b = true then tk σ2 H3 fun y H4 => tv σ2 H4 fun z H5 => ∃ kvs k, y = kV k ∧ H5 D = some (.dK kvs) ∧ kvs.length < sizeLine ∧ Pv (i + 1) (L2.upd H5 D (.dK (putK kvs k z))) else Pv (i + 1) H3) (hd : ∀ H, Pv n H → Qd H) :
    ∃ W : Nat → Nat → Hp → Prop, (∃ m, W 0 m (L2.upd H1 D (.dK []))) ∧ ∀ i m H, W i m H → (J.stop i H ∧ Qd H) ∨ (J.go i H ∧ ∃ Nx : Hp → Prop, (∀ H', Nx H' → ∃ m', m' < m ∧ W (i + 1) m' H') ∧ ∀ x H', J.yld i H x H' →
      g x (wipe σ vs) H' fun σ2 H2 => wipe σ2 vs = wipe σ vs ∧ tt σ2 H2 fun b H3 =>
        if b = true then tk σ2 H3 fun y H4 => tv σ2 H4 fun z H5 => ∃ kvs k, y = kV k ∧ H5 D = some (.dK kvs) ∧ kvs.length < sizeLine ∧ Nx (L2.upd H5 D (.dK (putK kvs k z))) else Nx H3) := by
  refine ⟨fun i m H => m + i = n ∧ Pv i H, ⟨n, by omega, h0⟩, ?_⟩
  rintro i m H ⟨e, p⟩
  have hGi := hG i H (by omega) p
  rcases Nat.lt_or_ge i n with lt | ge
  · exact .inr ⟨wk.goes i H lt hGi, Pv (i + 1), fun H' p' => ⟨m - 1, by omega, by omega, p'⟩, fun x H' y => hs i x H H' lt p (wk.yields i H x H' lt hGi y)⟩
  · obtain rfl : i = n := by omega
    exact .inl ⟨wk.stops H hGi, hd H p⟩
end
end Wh

namespace Wh
open PySem PySem.Spec PyProof.Rows L2 Wf
abbrev sChange : Stmt := inClass (top 22) 8
def namedOf (es : List (Ev Tx)) (b : B Tx) (sl : List (Nat × Ft)) : List (Nat × Ft) := sl.map fun q => ((present (stands es) b).getD q.1 0, q.2)
def spChange (c : Cs) (P : Addr) : Sp := fun vs H Q _ => ∃ (p : Addr) (ow : Ow) (b : B Tx) (es : List (Ev Tx)) (m : Nat) (au : Tx) (fd : Addr) (kvs : List (Key × V)) (l sl : List (Nat × Ft)), vs = [.ref p, .str au.s, .ref fd] ∧ HistAt c P H ow p b es ∧ NumOk b es ∧ Bnd m b ∧ m + l.length ≤ 90 ∧
  l.length ≤ 50 ∧ es.length ≤ 400 ∧ H fd = some (.dK kvs) ∧ ow fd = none ∧ Fts H kvs l ∧ Srt l sl ∧ (∀ q ∈ l, q.1 < (present (stands es) b).length) ∧ (∀ q ∈ l, q.2.behind.length ≤ 2) ∧ b.order.Nodup ∧
  ∀ H' ow', Mv P H H' ow ow' → HistAt c P H' ow' p (addAll (es.length + 1) (namedOf es b sl) b) (es ++ [⟨au, true, namedOf es b sl⟩]) → Q (vN (es.length + 1)) H'
theorem nd_inj {l : List Nat} (h : l.Nodup) {i j : Nat} (hi : i < l.length) (hj : j < l.length) (e : l[i] = l[j]) : i = j := by
  rcases Nat.lt_trichotomy i j with q | q | q
  · exact absurd e (List.pairwise_iff_getElem.mp h i j hi hj q)
  · exact q
  · exact absurd e.symm (List.pairwise_iff_getElem.mp h j i hj hi q)
section
variable {P : Program} {w : World} {K : PySem.W.Frag} {mg : Str → Option Value} {base : Heap} {c : Cs} {Pt : Addr}
theorem scChange : FnScope ["self", "author", "fates", "lines", "known", "number", "which", "at"] ["self", "author", "fates"] (defScope sChange) := ⟨rfl, rfl, rfl, by decide +kernel, rfl, by decide +kernel, by decide +kernel⟩
theorem ok_change {f : Addr} {fd : FuncData} (F : FnD K "change" "History.change" sChange f fd) (T : Bt mg) (C : Tc K mg c) (M : Meth K c.CH "change" f) (GP : Mt P w K mg base CX0 3 c.CH "present" (spPresent c Pt)) (GAF : Mt P w K mg base CX0 3 c.CH "add_fate" (spAddF c Pt)) (MC : Mc P w K mg base 1 "Change" c.CC (spCI c)) :
    Mt P w K mg base CX0 4 c.CH "change" (spChange c Pt) := by
  refine ⟨f, fd, ["self", "author", "fates"], C.cH, M, fok F scChange (fun vs H Q E h => ?_) (fun cdv A outer s0 H vs Q E hr h => ?_), F.bindsN fun _ _ _ _ _ _ us hl => match us, hl with | [_, _, _], _ => rfl⟩
  · obtain ⟨p, ow, b, es, m, au, fd, kvs, l, sl, rfl, _⟩ := h
    rfl
  · obtain ⟨p, ow, b, es, m, au, fd, kvs, l, sl, rfl, ⟨s, h⟩, no, bd, hm, hl, hes, hfd, ofd, ft, sr, hlt, hbh, hnd, q⟩ := h
    refine ⟨_, pss_cons (ps_set (i := 3) scChange.nd rfl (.inr rfl) (pe_mt0 GP hr (by decide) pass0 (pv 0)))
      (pss_cons (ps_setDc (i := 4) (own := [("at", 7)]) (g := gName 7) (tt := tYes) (tk := tOp (rIxL K) (tVar 3) (tVar 7)) (tv := tDGet (tVar 2) (tVar 7)) rfl scChange.nd rfl rfl (sw_dc rfl rfl rfl (by decide +kernel)) (pi_list (pe_callB (call_sortedDI rfl) (by rfl) T.sorted (by decide +kernel) (pa_cons (pv 2) pa_nil))) (blkOk_by (own := [("at", 7)]) (N := ["self", "author", "fates", "lines", "known", "number", "which", "at"]) (sc := defScope sChange) (by decide +kernel)) (fun _ _ _ _ _ => pg_name (i := 7) scChange.nd rfl (.inl rfl)) (fun _ _ _ _ _ => pts_nil) (fun _ _ _ _ _ => pe_ix ix_list (pv 3) (pv 7) (fun _ _ => rfl)) (fun _ _ _ _ _ => pe_dget (hu_of hr) (pv 2) (pv 7) (fun _ _ => rfl)))
      (pss_cons (ps_expr (pe_bm PySem.F.plainAttrs_list PySem.F.slot_list_append PySem.F.type_list_append mt_append (pe_fld (pv 0) rfl) (pa_cons (pe_mc MC hr (by decide) (pa_cons (pv 1) (pa_cons (pv 4) pa_nil))) pa_nil)))
      (pss_cons (ps_set (i := 5) scChange.nd rfl (.inl rfl) (pe_callB call_len_seq (by rfl) T.len PySem.boot_len (pa_cons (pe_fld (pv 0) rfl) pa_nil)))
      (pss_cons (ps_for PassesOwn.never rfl (pi_list (pe_callTy (call_listD rfl) (by rfl) T.list (by decide +kernel) (pa_cons (pv 4) pa_nil))) (pg_name (i := 6) scChange.nd rfl (.inl rfl))
        (pss_one (ps_expr (pe_mt GAF hr (by decide) pass0 (pv 0) (pa_cons (pv 5) (pa_cons (pv 6) (pa_cons (pe_dget (hu_of hr) (pv 4) (pv 6) (fun _ _ => rfl)) pa_nil)))))))
      (pss_one (ps_ret (pv 5))))))), ?_⟩
    obtain ⟨pr, hpr⟩ : ∃ pr, pr = present (stands es) b := ⟨_, rfl⟩
    have prn : pr.Nodup := by rw [hpr]; exact hnd.filter _
    have fdP : fd ≠ Pt := tab_ne h.tab hfd fun q z => by cases z
    refine ⟨_, rfl, p, _, _, rfl, h.hp, rfl, p, ow, s, _, b, es, rfl, h, no, fun H1 a x1 na ha => ?_⟩
    rw [← hpr] at ha hlt
    have h1 := h.ex x1
    have tk1 : Tk H H1 := x1.tk h.tab
    have hfd1 := x1.1 _ _ hfd fdP
    have nk : namedOf es b sl = sl.map fun q => (pr.getD q.1 0, q.2) := by unfold namedOf; rw [hpr]
    obtain ⟨kn, hkn⟩ : ∃ kn, kn = sl.map fun q => (pr.getD q.1 0, q.2) := ⟨_, rfl⟩
    rw [nk, ← hkn] at q
    have sln : sl.length = l.length := sr.perm.length_eq
    have knl : kn.length = l.length := by rw [hkn, List.length_map, sln]
    have inl : ∀ {q : Nat × Ft}, q ∈ sl → q ∈ l := fun h => sr.perm.mem_iff.mp h
    refine ⟨_, rfl, fd, kvs, l.map fun p => (p.1 : Int), rfl, .of hfd1, ?_, by rw [List.length_map]; omega, fun ys pa pm srt npa => ?_⟩
    · rw [ft.1, List.map_map]
      rfl
    obtain rfl := sr.uniq rfl pm srt
    refine ⟨pa, rfl, ⟨_, SqL.of upd_same⟩, fun D nD => ?_⟩
    have s2 : Same H1 (L2.upd H1 pa (.lst ((sl.map fun p => (p.1 : Int)).map V.int))) := snew npa
    have nD1 : H1 D = none := s2.free nD
    have hslt : ∀ {i : Nat} {q : Nat × Ft}, sl[i]? = some q → q.1 < pr.length := fun h => hlt _ (inl (List.mem_of_getElem? h))
    refine dc_it (walk_list (xs := (sl.map fun p => (p.1 : Int)).map V.int)) (fun i H' => Same H1 H' ∧ H' pa = some (.lst ((sl.map fun p => (p.1 : Int)).map V.int)) ∧ ∃ kv', H' D = some (.dK kv') ∧ Fts H' kv' (kn.take i))
      ⟨s2.trans (snew nD), snew nD _ _ upd_same, [], upd_same, by rw [List.take_zero]; exact .nil⟩ (fun i H' _ x => SqL.of x.2.1) ?_ ?_
    · rintro i x H2 H3 hi ⟨s3, hpa, kv', hD, hF⟩ ⟨rfl, hx⟩
      rw [List.length_map, List.length_map] at hi
      have hz : sl[i]? = some sl[i] := List.getElem?_eq_getElem hi
      rw [List.getElem?_map, List.getElem?_map, hz] at hx
      cases hx
      have hat : sl[i].1 < pr.length := hslt hz
      obtain ⟨g1, _⟩ := (ft.mono (tk1.trans (Tk.of s3))).get sl[i].1
      obtain ⟨vv, e1, t1⟩ := g1 sl[i].2 (lkF_mem sr.nd (inl (List.getElem_mem hi)))
      have hkz : kn[i]? = some (pr.getD sl[i].1 0, sl[i].2) := by rw [hkn, List.getElem?_map, hz]; rfl
      have hpg : pr.getD sl[i].1 0 = pr[sl[i].1] := by rw [List.getD_eq_getElem?_getD, List.getElem?_eq_getElem hat]; rfl
      have newk : valV kv' (.inl ((pr.getD sl[i].1 0 : Nat) : Int)) = none := by
        refine (hF.get _).2 (lkF_none fun hm => ?_)
        rw [List.map_take, List.mem_take_iff_getElem] at hm
        obtain ⟨j, hj, ej⟩ := hm
        rw [List.length_map] at hj
        have hj2 : j < sl.length := by omega
        have hjz : sl[j]? = some sl[j] := List.getElem?_eq_getElem hj2
        have e2 : (kn.map (·.1))[j]? = some (pr.getD sl[j].1 0) := by rw [hkn, List.map_map, List.getElem?_map, hjz]; rfl
        have e3 : pr.getD sl[j].1 0 = pr.getD sl[i].1 0 := by
          have := List.getElem?_eq_some_iff.mp e2
          obtain ⟨_, e4⟩ := this
          rw [← e4, ← ej]
        have hbt : sl[j].1 < pr.length := hslt hjz
        have hpb : pr.getD sl[j].1 0 = pr[sl[j].1] := by rw [List.getD_eq_getElem?_getD, List.getElem?_eq_getElem hbt]; rfl
        rw [hpg, hpb] at e3
        have e5 : sl[j].1 = sl[i].1 := nd_inj prn hbt hat e3
        have e6 := List.pairwise_iff_getElem.mp sr.inc j i (by rw [List.length_map]; exact hj2) (by rw [List.length_map]; exact hi) (by omega)
        rw [List.getElem_map, List.getElem_map] at e6
        omega
      have hD4 : ∀ u, upd H3 D u D = some u := fun u => upd_same
      refine ⟨rfl, _, rfl, _, rfl, a, _, _, _, rfl, rfl, SqL.of (s3 _ _ ha), at_of (j := sl[i].1) rfl (by rw [List.getElem?_map, List.getElem?_eq_getElem hat]; rfl), ?_⟩
      refine ⟨_, rfl, _, rfl, fd, vv, rfl, .inl ⟨kvs, .inl (sl[i].1 : Int), .of (s3 _ _ hfd1), rfl, e1.symm⟩, ?_⟩
      have hkl : kv'.length ≤ 50 := by rw [hF.len, List.length_take]; omega
      refine ⟨kv', .inl ((pr.getD sl[i].1 0 : Nat) : Int), ?_, hD, small1000 (by omega), sat s3 nD1, ?_, ?_⟩
      · rw [hpg]; rfl
      · rw [upd_ne (fun z => by rw [z, hD] at hpa; cases hpa)]
        exact hpa
      · refine ⟨_, upd_same, ?_⟩
        rw [putK_new _ newk, List.take_add_one, hkz]
        have tkD : Tk H3 (upd H3 D (.dK (kv' ++ [(.inl ((pr.getD sl[i].1 0 : Nat) : Int), vv)]))) := Tk.updN fun zs e => by rw [hD] at e; cases e
        exact (hF.mono tkD).app (Tp.mono tkD t1)
    · rintro H2 ⟨s3, hpa, kv', hD, hF⟩
      rw [List.length_map, List.length_map] at hF
      have kfull : kn.take sl.length = kn := List.take_of_length_le (by rw [knl, sln]; exact Nat.le_refl _)
      rw [kfull] at hF
      have h2 := h1.same s3
      have bk := bd.kept
      refine ⟨_, rfl, p, _, _, _, _, rfl, h2.hp, C.cH, C.hChanges, rfl, .inl ⟨rfl, _, SqL.of h2.hc⟩, _, rfl, _, rfl, fun xa dx nx ndx ndn => ⟨xa, dx, D, au.s, rfl, upd_same, fun H4 pt npt hx4 hpt keep => ⟨rfl, ?_⟩⟩⟩
      have npt2 : L2.upd H2 dx (.own xa) pt = none := by rw [upd_ne (Ne.symm (upd_no npt))] at npt; exact npt
      have fpt : H2 pt = none := by rw [upd_ne (Ne.symm (upd_no npt2))] at npt2; exact npt2
      have s4 : Same H2 H4 := fun b0 u0 e0 => keep b0 u0 (by
        rw [upd_ne (ne_of_none e0 nx), upd_ne (ne_of_none e0 ndx)]
        exact e0) (ne_of_none e0 nx)
      have nx1 := s3.free nx
      have npt1 := s3.free fpt
      have hp5 := h1.pushChange (r := ⟨xa, dx, D, pt⟩) (s3.trans s4) (au := au) (l := kn) (fun i hi => by have := no.born i hi; omega) nx1 nD1 npt1 hx4 (s4 _ _ hD) (hF.mono (Tk.of s4)) hpt
      have mv5 : Mv Pt H1 (L2.upd H4 s.lc (.lst ((s.ca.map fun q => V.ref q.a) ++ [.ref xa]))) ow (owC ow es.length ⟨xa, dx, D, pt⟩) := by
        have f1 := h1.fresh nx1
        have f2 := h1.fresh nD1
        have f3 := h1.fresh npt1
        refine ⟨fun b0 t0 e0 => owC_old e0 f1 f2 f3, fun b0 u0 _ e0 n0 => ⟨?_, ?_⟩, fun b0 j0 e0 => ?_⟩
        · rw [upd_ne fun z => by rw [z, h1.oc] at n0; cases n0]
          exact s4 _ _ (s3 _ _ e0)
        · unfold owC
          rw [if_neg (ne_of_none e0 nx1), if_neg (ne_of_none e0 nD1), if_neg (ne_of_none e0 npt1)]
          exact n0
        · obtain ⟨o0, g0, _⟩ := h1.own b0 _ e0
          rw [upd_ne (ne_tag e0 h1.oc fun z => by cases z), g0]
          exact s4 _ _ (s3 _ _ g0)
      have hc4 := s4 _ _ h2.hc
      refine ⟨_, _, _, rfl, rfl, hc4, small1000 (by rw [List.length_map, h.cl]; omega), ?_⟩
      have hD5 : (L2.upd H4 s.lc (.lst ((s.ca.map fun q => V.ref q.a) ++ [.ref xa]))) D = some (.dK kv') := by
        rw [upd_ne fun z => ?_]
        · exact s4 _ _ hD
        · rw [z, h1.hc] at nD1
          cases nD1
      have tk5 : Tk H4 (L2.upd H4 s.lc (.lst ((s.ca.map fun q => V.ref q.a) ++ [.ref xa]))) := Tk.lst hc4
      obtain ⟨H5, e5⟩ : ∃ H5, H5 = L2.upd H4 s.lc (.lst ((s.ca.map fun q => V.ref q.a) ++ [.ref xa])) := ⟨_, rfl⟩
      rw [← e5] at mv5 hD5 tk5 ⊢
      replace hp5 : HSh c Pt H5 (owC ow es.length ⟨xa, dx, D, pt⟩) p { s with ca := s.ca ++ [⟨xa, dx, D, pt⟩] } b.kept.length b (es ++ [⟨au, true, kn⟩]) := by
        rw [e5]
        exact hp5
      clear e5
      have oD : owC ow es.length ⟨xa, dx, D, pt⟩ D = some (.cf es.length) := by
        unfold owC
        rw [if_neg (fun z => ?_), if_pos rfl]
        have e1 := s4 _ _ hD
        rw [show D = xa from z, hx4] at e1
        cases e1
      have hF5 : Fts H5 kv' kn := (hF.mono (Tk.of s4)).mono tk5
      have elen : ((s.ca ++ [(⟨xa, dx, D, pt⟩ : CA)]).map fun q : CA => V.ref q.a).length = es.length + 1 := by
        rw [List.length_map, List.length_append, h.cl]
        rfl
      refine ⟨_, rfl, p, _, _, _, _, rfl, hp5.hp, C.cH, C.hChanges, rfl, s.lc, _, rfl, .inl (SqL.of hp5.hc), ?_⟩
      rw [elen]
      have hord : ∀ q ∈ kn, q.1 ∈ b.order := by
        intro q hq
        rw [hkn] at hq
        obtain ⟨z, hz, rfl⟩ := List.mem_map.mp hq
        have hat : z.1 < pr.length := hlt z (inl hz)
        have e1 : pr.getD z.1 0 = pr[z.1] := by rw [List.getD_eq_getElem?_getD, List.getElem?_eq_getElem hat]; rfl
        show pr.getD z.1 0 ∈ b.order
        rw [e1]
        have : pr[z.1] ∈ present (stands es) b := by rw [← hpr]; exact List.getElem_mem hat
        exact (List.mem_filter.mp this).1
      have hbk : ∀ q ∈ kn, q.2.behind.length ≤ 2 := by
        intro q hq
        rw [hkn] at hq
        obtain ⟨z, hz, rfl⟩ := List.mem_map.mp hq
        exact hbh z (inl hz)
      have keys : (kv'.map fun kv => kV kv.1) = kn.map fun q => vN q.1 := by
        have := congrArg (List.map kV) hF5.1
        rw [List.map_map, List.map_map] at this
        exact this
      have knd : (kn.map (·.1)).Nodup := by
        rw [hkn, List.map_map]
        refine List.pairwise_iff_getElem.mpr fun i j hi hj lt e => ?_
        rw [List.length_map] at hi hj
        rw [List.getElem_map, List.getElem_map] at e
        have hi' : sl[i].1 < pr.length := hslt (List.getElem?_eq_getElem hi)
        have hj' : sl[j].1 < pr.length := hslt (List.getElem?_eq_getElem hj)
        have e1 : pr.getD sl[i].1 0 = pr[sl[i].1] := by rw [List.getD_eq_getElem?_getD, List.getElem?_eq_getElem hi']; rfl
        have e2 : pr.getD sl[j].1 0 = pr[sl[j].1] := by rw [List.getD_eq_getElem?_getD, List.getElem?_eq_getElem hj']; rfl
        have e3 : pr.getD sl[i].1 0 = pr.getD sl[j].1 0 := e
        rw [e1, e2] at e3
        have e4 := nd_inj prn hi' hj' e3
        have e6 := List.pairwise_iff_getElem.mp sr.inc i j (by rw [List.length_map]; exact hi) (by rw [List.length_map]; exact hj) lt
        rw [List.getElem_map, List.getElem_map] at e6
        omega
      refine ⟨_, rfl, D, kv', rfl, .of hD5, fun lp nlp => ?_⟩
      rw [keys]
      have s6 : Same H5 (L2.upd H5 lp (.lst (kn.map fun q => vN q.1))) := snew nlp
      have h6 := hp5.same s6
      have olp := hp5.fresh nlp
      refine ⟨lp, rfl, ⟨_, SqL.of upd_same⟩, for_it (walk_list (xs := kn.map fun q => vN q.1)) (fun k σ Hk => ∃ (owk : Ow) (u v : Option V), σ = [some (.ref p), some (.str au.s), some (.ref fd), some (.ref a), some (.ref D), some (vN (es.length + 1)), u, v] ∧
        HistAt c Pt Hk owk p (addAll (es.length + 1) (kn.take k) b) (es ++ [⟨au, true, kn⟩]) ∧ Mv Pt (L2.upd H5 lp (.lst (kn.map fun q => vN q.1))) Hk (owC ow es.length ⟨xa, dx, D, pt⟩) owk)
        ⟨_, none, none, rfl, ⟨_, by rw [List.take_zero]; exact h6⟩, Mv.refl _ _ _⟩ (fun k σ Hk _ ⟨owk, u, v, _, _, x⟩ => SqL.of (x.rest _ _ (tab_ne h6.tab upd_same fun q z => by cases z) upd_same olp).1) ?_ ?_⟩
      · rintro k x σ Hk0 Hk hk ⟨owk, u, v, rfl, ⟨sk, hh⟩, vv⟩ ⟨rfl, hx⟩
        rw [List.length_map] at hk
        have hz : kn[k]? = some kn[k] := List.getElem?_eq_getElem hk
        rw [List.getElem?_map, hz] at hx
        cases hx
        have hmem : kn[k] ∈ kn := List.getElem_mem hk
        have hDk : Hk D = some (.dK kv') := by
          rw [vv.cfk D _ oD]
          exact s6 _ _ hD5
        have hFk : Fts Hk kv' kn := hF5.mono ((Tk.of s6).trans (vv.tk h6))
        obtain ⟨v9, e9, t9⟩ := (hFk.get kn[k].1).1 kn[k].2 (lkF_mem knd hmem)
        have tko : ∀ q ∈ kn.take k, q.1 ∈ b.order := fun q hq => hord q (List.mem_of_mem_take hq)
        have gr := addAll_grow (es.length + 1) (kn.take k) b tko
        have bdk := Bnd.all (n := es.length + 1) (kn.take k) bd tko fun q hq => hbk q (List.mem_of_mem_take hq)
        refine ⟨_, rfl, p, _, _, rfl, hh.hp, rfl, _, rfl, _, rfl, _, rfl, _, rfl, D, v9, rfl, .inl ⟨kv', .inl (kn[k].1 : Int), .of hDk, rfl, e9.symm⟩, p, owk, addAll (es.length + 1) (kn.take k) b, es ++ [⟨au, true, kn⟩], es.length + 1, kn[k].1, _, v9, kn[k].2, rfl, ⟨sk, hh⟩, by omega, ?_, ?_, gr.1 _ (hord _ hmem), bdk, ?_, hbk _ hmem, t9, fun H' ow' mv' hist' => ?_⟩
        · rw [List.length_append]
          exact Nat.le_refl _
        · exact Nat.lt_of_lt_of_le (no.ord _ (hord _ hmem)) gr.2
        · rw [List.length_take]
          omega
        · refine ⟨ow', _, _, rfl, ?_, vv.trans mv'⟩
          rw [List.take_add_one, hz, Option.toList_some, addAll_snoc]
          exact hist'
      · rintro σ Hk ⟨owk, u, v, rfl, hist, vv⟩
        rw [List.length_map, List.take_length] at hist
        refine ⟨_, rfl, ?_⟩
        exact q Hk owk (((Mv.ex h x1).trans mv5).trans ((Mv.of hp5 s6).trans vv)) hist
end
end Wh

namespace Wh
open PySem PySem.Spec PyProof.Rows L2 Wf
abbrev sHeldBy : Stmt := inClass (top 22) 13
def isKeep : Chg Tx → Bool
  | .keep => true
  | _ => false
def isTxt : Chg Tx → Bool
  | .text _ => true
  | _ => false
def txtAt (l : List (Nat × Ft)) (n : Nat) : Bool := match lkF l n with
  | some f => isTxt f.chg
  | none => false
def heldQ (ids : List Nat) (l1 : List (Nat × Ft)) (q : Nat × Ft) : Bool := decide (q.1 ∈ ids) || (!isKeep q.2.chg && txtAt l1 q.1)
def spHeldBy (c : Cs) : Sp := fun vs H Q _ => ∃ (x : V) (a1 a2 d1 d2 f1 f2 p1 p2 : Addr) (u1 u2 : Str) (b1 b2 : Bool) (k1 k2 : List (Key × V)) (l1 l2 : List (Nat × Ft)) (ids : List Nat), vs = [x, .ref a1, .ref a2] ∧ H a1 = some (.ins c.CC d1 (cf u1 b1 f1 p1)) ∧ H a2 = some (.ins c.CC d2 (cf u2 b2 f2 p2)) ∧
  H f1 = some (.dK k1) ∧ Fts H k1 l1 ∧ H f2 = some (.dK k2) ∧ Fts H k2 l2 ∧ f1 ≠ f2 ∧ H p1 = some (.lst (ids.map vN)) ∧ (l2.map (·.1)).Nodup ∧ Q (.bl (l2.any (heldQ ids l1))) H
section
variable {P : Program} {w : World} {K : PySem.W.Frag} {mg : Str → Option Value} {base : Heap} {c : Cs} {Pt : Addr}
theorem ch_str (x : Chg Tx) : ∃ z : Str, (∃ r, eCh x = .tuple (.str z :: r)) ∧ decide (V.str z = V.str "keep") = isKeep x ∧ decide (V.str z = V.str "text") = isTxt x ∧ decide (V.str z = V.str "drop") = (match x with | .drop => true | _ => false) := by
  cases x with
  | keep => exact ⟨_, ⟨_, rfl⟩, by decide +kernel, by decide +kernel, by decide +kernel⟩
  | drop => exact ⟨_, ⟨_, rfl⟩, by decide +kernel, by decide +kernel, by decide +kernel⟩
  | text t => exact ⟨"text", ⟨[.str t.s], rfl⟩, (by decide +kernel : decide (V.str "text" = V.str "keep") = false), (by decide +kernel : decide (V.str "text" = V.str "text") = true), (by decide +kernel : decide (V.str "text" = V.str "drop") = false)⟩
theorem ft_read {H : Hp} {v : V} {f : Ft} (h : Tp H v (eFt f)) : ∃ (a x2 : Addr) (x0 x3 : V) (z : Str) (r : List V), v = .ref a ∧ H a = some (.tup [x0, .ref x2, x3]) ∧ H x2 = some (.tup (.str z :: r)) ∧ Tp H x3 (eBh f.behind) ∧
    decide (V.str z = V.str "keep") = isKeep f.chg ∧ decide (V.str z = V.str "text") = isTxt f.chg ∧ decide (V.str z = V.str "drop") = (match f.chg with | .drop => true | _ => false) := by
  obtain ⟨a, x0, y, x3, rfl, ha, _, hy, hz⟩ := h.three
  obtain ⟨z, ⟨r, er⟩, e1, e2, e3⟩ := ch_str f.chg
  rw [er] at hy
  obtain ⟨a2, xs, rfl, ha2, t2⟩ := hy.tupE
  obtain ⟨x1, xs1, rfl, u1, t3⟩ := t2.consE
  obtain rfl := u1.strE
  exact ⟨a, a2, x0, x3, z, xs1, rfl, ha, ha2, hz, e1, e2, e3⟩
theorem inV_ns (n : Nat) : ∀ ids : List Nat, inV (vN n) (ids.map vN) = decide (n ∈ ids)
  | [] => rfl
  | m :: r => by
    have e1 : inV (vN n) ((m :: r).map vN) = (((m : Int) == (n : Int)) || inV (vN n) (r.map vN)) := rfl
    rw [e1, inV_ns n r]
    by_cases e : m = n
    · rw [e]
      simp
    · have e2 : ((m : Int) == (n : Int)) = false := beq_eq_false_iff_ne.mpr (by omega)
      have e3 : ¬ n = m := fun z => e z.symm
      rw [e2, Bool.false_or]
      exact decide_eq_decide.mpr (by rw [List.mem_cons]; exact ⟨.inr, fun z => z.elim (fun y => absurd y e3) id⟩)
theorem upd_id {H : Hp} {a : Addr} {o : HO} (h : H a = some o) : L2.upd H a o = H := by
  funext b
  by_cases e : b = a
  · rw [e, upd_same, h]
  · rw [upd_ne e]
theorem scHeldBy : FnScope ["self", "change", "later", "which"] ["self", "change", "later"] (defScope sHeldBy) := ⟨rfl, rfl, rfl, by decide +kernel, rfl, by decide +kernel, by decide +kernel⟩
theorem ok_heldby {f : Addr} {fd : FuncData} (F : FnD K "is_held_by" "History.is_held_by" sHeldBy f fd) (C : Tc K mg c) (M : Meth K c.CH "is_held_by" f) : Mt P w K mg base CX0 1 c.CH "is_held_by" (spHeldBy c) := by
  refine ⟨f, fd, ["self", "change", "later"], C.cH, M, fok F scHeldBy (fun vs H Q E h => ?_) (fun cdv A outer s0 H vs Q E hr h => ?_), F.bindsN fun _ _ _ _ _ _ us hl => match us, hl with | [_, _, _], _ => rfl⟩
  · obtain ⟨x, a1, a2, d1, d2, f1, f2, p1, p2, u1, u2, b1, b2, k1, k2, l1, l2, ids, rfl, _⟩ := h
    rfl
  · obtain ⟨x, a1, a2, d1, d2, f1, f2, p1, p2, u1, u2, b1, b2, k1, k2, l1, l2, ids, rfl, h1, h2, h3, ft1, h4, ft2, nf, hp, nd, q⟩ := h
    refine ⟨_, pss_cons (ps_lock (ps_for PassesOwn.never rfl (pi_keys (pe_fld (pv 2) rfl)) (pg_name (i := 3) scHeldBy.nd rfl (.inl rfl))
        (pss_cons (ps_if (pt_cmpR op_in_seq (pv 3) (pe_fld (pv 1) rfl) (by rfl))
            (pss_one (ps_ret pe_bl))
            (pss_nil))
          (pss_one (ps_if (PW.pt (pw_and (pt_cmpR op_ne (pe_ix ix_tup (pe_ix ix_tup (pe_dget (hu_of hr) (pe_fld (pv 2) rfl) (pv 3) (fun _ _ => rfl)) pe_int (fun _ _ => rfl)) pe_int (fun _ _ => rfl)) pe_str (nomark _)) (pw_and (pt_cmp (pc_din (hu_of hr) (pv 3) (pe_fld (pv 1) rfl))) (pw_and1 (pt_cmpR op_eq (pe_ix ix_tup (pe_ix ix_tup (pe_dget (hu_of hr) (pe_fld (pv 1) rfl) (pv 3) (fun _ _ => rfl)) pe_int (fun _ _ => rfl)) pe_int (fun _ _ => rfl)) pe_str (nomark _))))))
            (pss_one (ps_ret pe_bl))
            (pss_nil))))))
      (pss_one (ps_ret pe_bl)), ?_⟩
    refine ⟨f2, _, h4, trivial, fun od => ?_⟩
    have ne : ∀ {a : Addr} {o : HO}, H a = some o → o ≠ .dK k2 → a ≠ f2 := fun {a o} e n z => by rw [z, h4] at e; exact n (Option.some.inj e).symm
    have h1' : L2.upd H f2 (.frz od (.dK k2)) a1 = _ := (upd_ne (ne h1 fun z => by cases z)).trans h1
    have h2' : L2.upd H f2 (.frz od (.dK k2)) a2 = _ := (upd_ne (ne h2 fun z => by cases z)).trans h2
    have h3' : L2.upd H f2 (.frz od (.dK k2)) f1 = _ := (upd_ne nf).trans h3
    have hp' : L2.upd H f2 (.frz od (.dK k2)) p1 = _ := (upd_ne (ne hp fun z => by cases z)).trans hp
    have tk : Tk H (L2.upd H f2 (.frz od (.dK k2))) := Tk.updN fun zs e => by rw [h4] at e; cases e
    have back : L2.upd (L2.upd H f2 (.frz od (.dK k2))) f2 (.dK k2) = H := by rw [upd_upd, upd_id h4]
    have ft1' := ft1.mono tk
    have ft2' := ft2.mono tk
    obtain ⟨H1, e1⟩ : ∃ H1, H1 = L2.upd H f2 (.frz od (.dK k2)) := ⟨_, rfl⟩
    have h4' : H1 f2 = some (.frz od (.dK k2)) := by rw [e1]; exact upd_same
    rw [← e1] at h1' h2' h3' hp' ft1' ft2' back ⊢
    clear e1 tk
    have kl := ft2.len
    refine ⟨_, rfl, a2, _, _, _, _, rfl, h2', C.cC, C.cFates, rfl, f2, od, rfl, .inl ⟨k2, h4', for_it walk_keys (fun i σ H' => H' = H1 ∧ (∃ u, σ = [some x, some (.ref a1), some (.ref a2), u]) ∧ ∀ q ∈ l2.take i, heldQ ids l1 q = false) ⟨rfl, ⟨_, rfl⟩, fun q hq => by rw [List.take_zero] at hq; cases hq⟩
      (fun _ _ H' _ z => by rw [z.1]; exact h4') ?_ ?_⟩⟩
    · rintro i y σ H2 H3 hi ⟨rfl, ⟨u, rfl⟩, hno⟩ ⟨rfl, k, v, hk, rfl⟩
      have hil : i < l2.length := by rw [← kl]; exact hi
      have hz : l2[i]? = some l2[i] := List.getElem?_eq_getElem hil
      obtain rfl : k = .inl (l2[i].1 : Int) := by
        have e1 := congrArg (fun l => l[i]?) ft2.1
        simp only [List.getElem?_map, hk, hz] at e1
        exact Option.some.inj e1
      obtain ⟨v2, e2, t2⟩ := (ft2'.get l2[i].1).1 _ (lkF_mem nd (List.getElem_mem hil))
      obtain ⟨b0, b2', y0, y3, z, r, rfl, hb0, hb2, _, z1, z2, _⟩ := ft_read t2
      have yes : heldQ ids l1 l2[i] = true → l2.any (heldQ ids l1) = true := fun h => List.any_eq_true.mpr ⟨_, List.getElem_mem hil, h⟩
      refine ⟨_, rfl, _, rfl, a1, _, _, _, _, rfl, h1', C.cC, C.cPut, rfl, p1, _, rfl, .inl (SqL.of hp'), rfl, flat_ns ids, _, rfl, ?_⟩
      have e0 : inV (vN l2[i].1) (ids.map vN) = decide (l2[i].1 ∈ ids) := inV_ns _ _
      refine ite2 (fun y => ?_) (fun y => ?_)
      · refine ⟨h4', ?_⟩
        rw [back]
        rw [yes (by unfold heldQ; rw [← e0]; rw [show inV (vN l2[i].1) (ids.map vN) = true from y]; rfl)] at q
        exact q
      have y' : decide (l2[i].1 ∈ ids) = false := by rw [← e0]; exact Bool.not_eq_true _ ▸ y
      have no1 : heldQ ids l1 l2[i] = (!isKeep l2[i].2.chg && txtAt l1 l2[i].1) := by
        unfold heldQ
        rw [y', Bool.false_or]
      have go : heldQ ids l1 l2[i] = false → ∀ q ∈ l2.take (i + 1), heldQ ids l1 q = false := fun h q hq => by
        rw [List.take_add_one, hz, List.mem_append] at hq
        rcases hq with hq | hq
        · exact hno q hq
        · rw [Option.toList_some, List.mem_singleton] at hq
          rw [hq]; exact h
      refine ⟨_, rfl, a2, _, _, _, _, rfl, h2', C.cC, C.cFates, rfl, _, rfl, f2, .ref b0, rfl, .inl ⟨k2, .inl (l2[i].1 : Int), .inr ⟨od, h4'⟩, rfl, e2.symm⟩, ?_⟩
      refine ⟨b0, _, 1, _, rfl, rfl, .inl (.of hb0), at_of (j := 1) rfl rfl, b2', _, 0, _, rfl, rfl, .inl (.of hb2), at_of (j := 0) rfl rfl, rfl, _, rfl, ?_⟩
      rw [z1]
      cases hkp : isKeep l2[i].2.chg with
      | true =>
        refine iteF (iteF ⟨rfl, ⟨_, rfl⟩, go ?_⟩)
        rw [no1, hkp]
        rfl
      | false =>
        refine iteT ?_
        cases hlk : lkF l1 l2[i].1 with
        | none =>
          have e3 := (ft1'.get l2[i].1).2 hlk
          refine ⟨_, rfl, _, rfl, a1, _, _, _, _, rfl, h1', C.cC, C.cFates, rfl, f1, none, rfl, .inl ⟨k1, .inl (l2[i].1 : Int), .of h3', rfl, e3.symm⟩, _, rfl, iteF (iteF ⟨rfl, ⟨_, rfl⟩, go ?_⟩)⟩
          rw [no1, hkp]
          unfold txtAt
          rw [hlk]
          rfl
        | some g =>
          obtain ⟨v3, e3, t3⟩ := (ft1'.get l2[i].1).1 g hlk
          obtain ⟨c0, c2, w0, w3, zz, r3, rfl, hc0, hc2, _, _, z5, _⟩ := ft_read t3
          refine ⟨_, rfl, _, rfl, a1, _, _, _, _, rfl, h1', C.cC, C.cFates, rfl, f1, some (.ref c0), rfl, .inl ⟨k1, .inl (l2[i].1 : Int), .of h3', rfl, e3.symm⟩, _, rfl, iteT ?_⟩
          refine ⟨_, rfl, a1, _, _, _, _, rfl, h1', C.cC, C.cFates, rfl, _, rfl, f1, .ref c0, rfl, .inl ⟨k1, .inl (l2[i].1 : Int), .of h3', rfl, e3.symm⟩, ?_⟩
          refine ⟨c0, _, 1, _, rfl, rfl, .inl (.of hc0), at_of (j := 1) rfl rfl, c2, _, 0, _, rfl, rfl, .inl (.of hc2), at_of (j := 0) rfl rfl, rfl, _, rfl, ?_⟩
          rw [z5]
          cases htx : isTxt g.chg with
          | true =>
            refine iteT ⟨h4', ?_⟩
            rw [back]
            rw [yes (by rw [no1, hkp]; unfold txtAt; rw [hlk]; exact htx)] at q
            exact q
          | false =>
            refine iteF ⟨rfl, ⟨_, rfl⟩, go ?_⟩
            rw [no1, hkp]
            unfold txtAt
            rw [hlk]
            exact htx
    · rintro σ H2 ⟨rfl, ⟨u, rfl⟩, hno⟩
      rw [kl, List.take_length] at hno
      refine ⟨h4', ?_⟩
      rw [back]
      have e2 : l2.any (heldQ ids l1) = false := by
        rw [List.any_eq_false]
        intro q hq
        rw [hno q hq]
        simp
      rw [e2] at q
      exact q
end
end Wh

namespace Wh
open PySem PySem.Spec PyProof.Rows L2 Wf
abbrev sHI : Stmt := inClass (top 22) 0
def spHI (c : Cs) (P : Addr) : Sp := fun vs H Q _ => ∃ (x dx : Addr) (d : List Ln), vs = [.ref x, .str (docText d)] ∧ H x = some (.ins c.CH dx []) ∧ DocOk d ∧ d ≠ [] ∧ d.length ≤ 100 ∧ GxR.TabG H P ∧
  ∀ H' ow', HistAt c P H' ow' x (init d) [] → (∀ a o, H a = some o → a ≠ x → H' a = some o ∧ ow' a = none) → Q .non H'
theorem init_at (d : List Ln) {j : Nat} {l : Ln} (h : d[j]? = some l) : (init d).at j = ⟨0, l, [], [], .start j⟩ := by
  unfold B.at init
  simp only [List.getD_eq_getElem?_getD]
  rw [List.getElem?_map, List.getElem?_zipIdx, h]
  simp
theorem init_len (d : List Ln) : (init d).kept.length = d.length := by
  unfold init
  simp
/-- the lines as far as they are made -/
structure KS (CK : Addr) (H1 H' : Hp) (D : Addr) (ow : Ow) (d : List Ln) (i : Nat) (ka : List KA) : Prop where
  len : ka.length = i
  same : Same H1 H'
  lst : H' D = some (.lst (ka.map fun q => V.ref q.a))
  ks : ∀ j q, ka[j]? = some q → ∃ l, d[j]? = some l ∧ KAt CK H' ow j q ⟨0, l, [], [], .start j⟩
  own : ∀ a t, ow a = some t → H1 a = none ∧ (∃ o, H' a = some o ∧ isOwn o) ∧ (∃ j, j < i ∧ (t = .ki j ∨ t = .kt j ∨ t = .kd j)) ∧ a ≠ D
theorem KS.push {CK : Addr} {H1 H3 H4 : Hp} {D : Addr} {ow : Ow} {d : List Ln} {i : Nat} {ka : List KA} (h : KS CK H1 H3 D ow d i ka) (nD : H1 D = none) (s4 : Same H3 H4) {q : KA} {l : Ln} (hl : d[i]? = some l) (na : H3 q.a = none) (nt : H3 q.lt = none) (nd : H3 q.ld = none)
    (hi : H4 q.a = some (.ins CK q.dx (kf 0 q.tv q.lt q.ld))) (ht : H4 q.lt = some (.lst [])) (hd : H4 q.ld = some (.lst [])) (ne : q.lt ≠ q.ld) (tl : Tp H4 q.tv (eLn l)) :
    KS CK H1 (L2.upd H4 D (.lst ((ka.map fun q => V.ref q.a) ++ [.ref q.a]))) D (owK ow i q) d (i + 1) (ka ++ [q]) := by
  have hD4 := s4 _ _ h.lst
  have fr : ∀ {a : Addr}, H3 a = none → ow a = none := fun {a} n => by
    cases e : ow a with
    | none => rfl
    | some t =>
      obtain ⟨_, ⟨o, g, _⟩, _⟩ := h.own a t e
      rw [n] at g
      cases g
  have neD : ∀ {a : Addr}, H3 a = none → a ≠ D := fun {a} n z => by
    rw [z, h.lst] at n
    cases n
  have o1 := fr na
  have o2 := fr nt
  have o3 := fr nd
  have e1 : q.a ≠ q.lt := ne_of hi ht (fun z => by cases z)
  have e2 : q.a ≠ q.ld := ne_of hi hd (fun z => by cases z)
  have tg1 : owK ow i q q.a = some (.ki i) := by unfold owK; rw [if_pos rfl]
  have tg2 : owK ow i q q.lt = some (.kt i) := by unfold owK; rw [if_neg (Ne.symm e1), if_pos rfl]
  have tg3 : owK ow i q q.ld = some (.kd i) := by unfold owK; rw [if_neg (Ne.symm e2), if_neg (Ne.symm ne), if_pos rfl]
  have tk : Tk H4 (L2.upd H4 D (.lst ((ka.map fun q => V.ref q.a) ++ [.ref q.a]))) := Tk.lst hD4
  refine ⟨by rw [List.length_append, h.len]; rfl, sat (h.same.trans s4) nD, by rw [upd_same, List.map_append]; rfl, fun j q' hq => ?_, fun a t ha => ?_⟩
  · by_cases lt : j < ka.length
    · rw [List.getElem?_append_left lt] at hq
      obtain ⟨l', h1, h2⟩ := h.ks j q' hq
      refine ⟨l', h1, h2.mono ((Tk.of s4).trans tk) fun a u ha _ => ⟨?_, (owK_old ha o1 o2 o3).trans ha.symm⟩⟩
      obtain ⟨_, ⟨o, g, _⟩, _, nd2⟩ := h.own a u ha
      rw [upd_ne nd2, g]
      exact s4 _ _ g
    · have hq2 := hq
      rw [List.getElem?_append_right (Nat.le_of_not_lt lt)] at hq2
      have j0 : j = ka.length := by
        have := (List.getElem?_eq_some_iff.mp hq2).1
        rw [List.length_singleton] at this; omega
      rw [j0, Nat.sub_self] at hq2
      cases hq2
      rw [j0, h.len]
      exact ⟨l, hl, by rw [upd_ne (neD na)]; exact hi, Tp.mono tk tl, ⟨[], by rw [upd_ne (neD nt)]; exact ht, .nil⟩, by rw [upd_ne (neD nd)]; exact hd, tg1, tg2, tg3⟩
  · by_cases z1 : a = q.a
    · rw [z1, tg1] at ha
      cases ha
      rw [z1]
      exact ⟨h.same.free na, ⟨_, by rw [upd_ne (neD na)]; exact hi, by trivial⟩, ⟨i, Nat.lt_succ_self _, .inl rfl⟩, neD na⟩
    · by_cases z2 : a = q.lt
      · rw [z2, tg2] at ha
        cases ha
        rw [z2]
        exact ⟨h.same.free nt, ⟨_, by rw [upd_ne (neD nt)]; exact ht, by trivial⟩, ⟨i, Nat.lt_succ_self _, .inr (.inl rfl)⟩, neD nt⟩
      · by_cases z3 : a = q.ld
        · rw [z3, tg3] at ha
          cases ha
          rw [z3]
          exact ⟨h.same.free nd, ⟨_, by rw [upd_ne (neD nd)]; exact hd, by trivial⟩, ⟨i, Nat.lt_succ_self _, .inr (.inr rfl)⟩, neD nd⟩
        · unfold owK at ha
          rw [if_neg z1, if_neg z2, if_neg z3] at ha
          obtain ⟨g1, ⟨o, g2, g3⟩, ⟨j, g4, g5⟩, g6⟩ := h.own a t ha
          exact ⟨g1, ⟨o, by rw [upd_ne g6]; exact s4 _ _ g2, g3⟩, ⟨j, by omega, g5⟩, g6⟩
theorem rg_ns (n : Nat) : rgV 0 (n : Int) = (List.range n).map vN := by
  unfold rgV
  rw [show ((n : Int) - 0).toNat = n by omega]
  refine List.map_congr_left fun i _ => ?_
  show V.int (0 + (i : Int)) = V.int (i : Int)
  rw [Int.zero_add]
section
variable {P : Program} {w : World} {K : PySem.W.Frag} {mg : Str → Option Value} {base : Heap} {c : Cs} {Pt : Addr}
theorem scHI : FnScope ["self", "text", "line"] ["self", "text"] (defScope sHI) := ⟨rfl, rfl, rfl, by decide +kernel, rfl, by decide +kernel, by decide +kernel⟩
theorem ok_hi {f : Addr} {fd : FuncData} (F : FnD K "__init__" "History.__init__" sHI f fd) (T : Bt mg) (C : Tc K mg c) (MK : Mc P w K mg base 1 "Kept" c.CK (spKI c)) (GR : Fn P w K mg base CX0 3 "read" spRead) : FnOk P w K mg base CX0 4 f fd ["self", "text"] (spHI c Pt) := by
  refine fok F scHI (fun vs H Q E h => ?_) (fun cdv A outer s0 H vs Q E hr h => ?_)
  · obtain ⟨x, dx, d, rfl, _⟩ := h
    rfl
  · obtain ⟨x, dx, d, rfl, hx, hd, hne, hlen, tb, q⟩ := h
    refine ⟨_, pss_cons (ps_fld (pv 0) (pe_lc (own := [("line", 2)]) (g := gName 2) (tt := tYes) rfl scHI.nd (pi_tup (pe_fn GR hr (by decide) pass0 (pa_cons (pv 1) pa_nil))) (blkOk_by (own := [("line", 2)]) (N := ["self", "text", "line"]) (sc := defScope sHI) (by decide +kernel)) (fun _ _ _ _ _ => pg_name (i := 2) scHI.nd rfl (.inl rfl)) (fun _ _ _ _ _ => pts_nil) (fun _ _ _ _ _ => pe_mc MK hr (by decide) (pa_cons pe_int (pa_cons (pv 2) pa_nil)))) rfl)
      (pss_cons (ps_fld (pv 0) (pe_listRg rfl rfl T.list (prg_1 rfl T.range (pe_callB call_len_seq (by rfl) T.len PySem.boot_len (pa_cons (pe_fld (pv 0) rfl) pa_nil)))) rfl)
      (pss_one (ps_fld (pv 0) (pe_lst pa_nil) rfl))), ?_⟩
    refine ⟨_, rfl, d, rfl, hd, hne, hlen, fun H1 tp s1 ht => ?_⟩
    obtain ⟨tp', xs, e0, htp, tx⟩ := ht.tupE
    cases e0
    have hxl : xs.length = d.length := by rw [tx.len, List.length_map]
    refine ⟨tp, rfl, ⟨_, .inl (.of htp)⟩, fun D nD => ?_⟩
    refine lc_it (walk_tup (xs := xs)) (fun i H' => ∃ (ow : Ow) (ka : List KA), KS c.CK H1 H' D ow d i ka) ⟨fun _ => none, [], rfl, snew nD, upd_same, fun j q e => by simp at e, fun a t e => by cases e⟩
      (fun i H' _ ⟨ow, ka, z⟩ => .inl (.of (z.same _ _ htp))) ?_ ?_
    · rintro i y H2 H3 hi ⟨ow, ka, ks⟩ ⟨rfl, hy⟩
      have hil : i < d.length := by omega
      have hz : d[i]? = some d[i] := List.getElem?_eq_getElem hil
      obtain ⟨dd, hdd, ty⟩ := tx.at hy
      rw [List.getElem?_map, hz] at hdd
      cases hdd
      refine ⟨rfl, _, rfl, fun xa xd nx nxd ne => ⟨xa, xd, 0, y, rfl, upd_same, fun H4 lt ld nlt nld ne2 hx4 hlt hld keep => ⟨rfl, ?_⟩⟩⟩
      have nx1 : xa ≠ lt := upd_no nlt
      have nx2 : xa ≠ ld := upd_no nld
      have nlt2 : L2.upd H3 xd (.own xa) lt = none := by rw [upd_ne (Ne.symm nx1)] at nlt; exact nlt
      have nld2 : L2.upd H3 xd (.own xa) ld = none := by rw [upd_ne (Ne.symm nx2)] at nld; exact nld
      have flt : H3 lt = none := by rw [upd_ne (Ne.symm (upd_no nlt2))] at nlt2; exact nlt2
      have fld : H3 ld = none := by rw [upd_ne (Ne.symm (upd_no nld2))] at nld2; exact nld2
      have s4 : Same H3 H4 := fun b0 u0 e0 => keep b0 u0 (by
        rw [upd_ne (ne_of_none e0 nx), upd_ne (ne_of_none e0 nxd)]
        exact e0) (ne_of_none e0 nx)
      refine ⟨_, s4 _ _ ks.lst, small1000 (by rw [List.length_map, ks.len]; omega), _, _, ks.push (q := ⟨xa, xd, y, lt, ld⟩) nD s4 hz nx flt fld hx4 hlt hld ne2 (Tp.mono (Tk.of (ks.same.trans s4)) ty)⟩
    · rintro H2 ⟨ow, ka, ks⟩
      have kal : ka.length = d.length := by rw [ks.len, hxl]
      have hx2 := ks.same _ _ (s1 _ _ hx)
      have tb2 : GxR.TabG H2 Pt := by
        obtain ⟨ps, e, g⟩ := tb
        exact ⟨ps, ks.same _ _ (s1 _ _ e), g⟩
      have xP : x ≠ Pt := tab_ne tb2 hx2 fun q z => by cases z
      refine ⟨_, rfl, x, _, dx, _, rfl, hx2, C.cH, C.hKept, (by decide : 0 < 1000), ?_⟩
      have xD : x ≠ D := ne_of hx2 ks.lst fun z => by cases z
      have hD3 : L2.upd H2 x (.ins c.CH dx (putF "kept" (.ref D) [])) D = some (.lst (ka.map fun q => V.ref q.a)) := (upd_ne (Ne.symm xD)).trans ks.lst
      refine ⟨_, rfl, x, _, dx, _, _, rfl, upd_same, C.cH, C.hKept, rfl, D, _, rfl, .inl (SqL.of hD3), _, rfl, RgOk.of_le (Int.le_refl _) (by rw [List.length_map]; omega) (by decide) (by omega), fun lo nlo => ⟨_, rfl, x, _, dx, _, rfl, (upd_ne (upd_no nlo)).trans upd_same, C.cH, C.hOrder, (by show 1 < 1000; decide), ?_⟩⟩
      refine ⟨Nat.zero_le _, fun lc nlc => ⟨_, rfl, x, _, dx, _, rfl, (upd_ne (upd_no nlc)).trans upd_same, C.cH, C.hChanges, (by show 2 < 1000; decide), ?_⟩⟩
      have xlo : x ≠ lo := upd_no nlo
      have xlc : x ≠ lc := upd_no nlc
      have flo : H2 lo = none := by rw [upd_ne (Ne.symm xlo)] at nlo; exact nlo
      have nlc2 := nlc
      rw [upd_ne (Ne.symm xlc)] at nlc2
      have lolc : lo ≠ lc := upd_no nlc2
      have flc : H2 lc = none := by
        rw [upd_ne (Ne.symm lolc), upd_ne (Ne.symm xlc)] at nlc2
        exact nlc2
      have kl9 : ((ka.map fun q => V.ref q.a).length : Int) = (d.length : Int) := by rw [List.length_map, kal]
      rw [kl9, rg_ns]
      generalize hH9 : L2.upd (L2.upd (L2.upd (L2.upd (L2.upd H2 x (.ins c.CH dx (putF "kept" (.ref D) []))) lo (.lst ((List.range d.length).map vN))) x (.ins c.CH dx (putF "order" (.ref lo) (putF "kept" (.ref D) [])))) lc (.lst [])) x
        (.ins c.CH dx (putF "changes" (.ref lc) (putF "order" (.ref lo) (putF "kept" (.ref D) [])))) = H9
      have rest : ∀ {a : Addr}, a ≠ x → a ≠ lo → a ≠ lc → H9 a = H2 a := fun {a} n1 n2 n3 => by
        rw [← hH9, upd_ne n1, upd_ne n3, upd_ne n1, upd_ne n2, upd_ne n1]
      have a1 : H9 x = some (.ins c.CH dx (hf D lo lc)) := by rw [← hH9]; exact upd_same
      have a2 : H9 lo = some (.lst ((List.range d.length).map vN)) := by rw [← hH9, upd_ne (Ne.symm xlo), upd_ne lolc, upd_ne (Ne.symm xlo)]; exact upd_same
      have a3 : H9 lc = some (.lst []) := by rw [← hH9, upd_ne (Ne.symm xlc)]; exact upd_same
      have old : ∀ {a : Addr} {o : HO}, H2 a = some o → a ≠ x → H9 a = some o := fun {a o} e n => by rw [rest n (ne_of_none e flo) (ne_of_none e flc), e]
      have a4 : H9 D = some (.lst (ka.map fun q => V.ref q.a)) := old ks.lst (Ne.symm xD)
      clear hH9
      have tk9 : Tk H2 H9 := fun a ys e => old e fun z => by rw [z, hx2] at e; cases e
      have owx : ∀ {a : Addr} {t : Tag}, ow a = some t → a ≠ x ∧ a ≠ D ∧ a ≠ lo ∧ a ≠ lc ∧ H9 a = H2 a := fun {a t} e => by
        obtain ⟨g1, ⟨o, g2, g3⟩, _, g4⟩ := ks.own a t e
        have n1 : a ≠ x := fun z => by rw [z, s1 _ _ hx] at g1; cases g1
        exact ⟨n1, g4, ne_of_none g2 flo, ne_of_none g2 flc, by rw [g2]; exact old g2 n1⟩
      have tag : ∀ {a : Addr} {t : Tag}, ow a = some t → (if a = x then some Tag.hist else if a = D then some .kept else if a = lo then some .order else if a = lc then some .changes else ow a) = some t := fun {a t} e => by
        obtain ⟨n1, n2, n3, n4, _⟩ := owx e
        rw [if_neg n1, if_neg n2, if_neg n3, if_neg n4]
        exact e
      have Dlo : D ≠ lo := ne_of_none ks.lst flo
      have Dlc : D ≠ lc := ne_of_none ks.lst flc
      refine q H9 (fun a => if a = x then some .hist else if a = D then some .kept else if a = lo then some .order else if a = lc then some .changes else ow a) ⟨⟨dx, D, lo, lc, ka, []⟩, ?_⟩ ?_
      · refine ⟨a1, if_pos rfl, a4, ?_, a2, ?_, a3, ?_, by rw [init_len]; exact kal, fun j q' hq => ?_, rfl, fun j r e _ z => (by cases z), fun a t e => ?_, ?_⟩
        · show (if D = x then _ else _) = _
          rw [if_neg (Ne.symm xD), if_pos rfl]
        · show (if lo = x then _ else _) = _
          rw [if_neg (Ne.symm xlo), if_neg (Ne.symm Dlo), if_pos rfl]
        · show (if lc = x then _ else _) = _
          rw [if_neg (Ne.symm xlc), if_neg (Ne.symm Dlc), if_neg (Ne.symm lolc), if_pos rfl]
        · obtain ⟨l, h1, h2⟩ := ks.ks j q' hq
          rw [init_at d h1]
          exact h2.mono tk9 fun a u ha _ => ⟨(owx ha).2.2.2.2, (tag ha).trans ha.symm⟩
        · by_cases z1 : a = x
          · exact ⟨_, by rw [z1]; exact a1, by trivial⟩
          · by_cases z2 : a = D
            · exact ⟨_, by rw [z2]; exact a4, by trivial⟩
            · by_cases z3 : a = lo
              · exact ⟨_, by rw [z3]; exact a2, by trivial⟩
              · by_cases z4 : a = lc
                · exact ⟨_, by rw [z4]; exact a3, by trivial⟩
                · have e' : (if a = x then some Tag.hist else if a = D then some .kept else if a = lo then some .order else if a = lc then some .changes else ow a) = some t := e
                  rw [if_neg z1, if_neg z2, if_neg z3, if_neg z4] at e'
                  obtain ⟨_, ⟨o, g2, g3⟩, _⟩ := ks.own a t e'
                  exact ⟨o, by rw [(owx e').2.2.2.2]; exact g2, g3⟩
        · obtain ⟨ps, e, g⟩ := tb2
          exact ⟨ps, old e (Ne.symm xP), g⟩
      · intro a o e n
        have e2 := ks.same _ _ (s1 _ _ e)
        refine ⟨old e2 n, ?_⟩
        show (if a = x then some Tag.hist else if a = D then some .kept else if a = lo then some .order else if a = lc then some .changes else ow a) = none
        rw [if_neg n, if_neg (ne_of_none (s1 _ _ e) nD), if_neg (ne_of_none e2 flo), if_neg (ne_of_none e2 flc)]
        cases z : ow a with
        | none => rfl
        | some t =>
          obtain ⟨g1, _⟩ := ks.own a t z
          rw [s1 _ _ e] at g1
          cases g1
end
end Wh

/-! Own errors whose __init__ says super().__init__(a text). -/
namespace Wh
open PySem PySem.Spec PyProof.Rows L2 Wf
/-- the class' __init__ as the text has it, its class cell, its code object -/
structure SupD (P : Program) (K : PySem.W.Frag) (mg : Str → Option Value) (C : Addr) (q : Str) (st : Stmt) (f cc cda : Addr) (fd : FuncData) : Prop where
  ex : ∃ (oc : Value) (od : Option Addr) (kV doc pm : Value) (an : Option Addr) (ct : Value) (osl : Array (Option Value)), fd = PySem.W.ksFn "__init__" q (defArgs st) (defBody st) (defScope st) .none kV doc pm an (.ref cda) ct cc ∧ K.lookup f = some ⟨oc, od, .func fd, osl⟩
  cd : PySem.W.codeIn K (.ref cda) q = true
  cell : ∃ cl cld csl, K.lookup cc = some ⟨cl, cld, .cell (some (.ref C)), csl⟩
  file : ∃ ccl cdd vs ccs file tf, K.lookup cda = some ⟨ccl, cdd, .fields vs, ccs⟩ ∧ vs[2]? = some (.str file tf) ∧ ((P.main.file : Str) == file) = true
  top : (P.main.scope.names.lookup ("super" : Str)).isSome = false
  cls : OexC K C
  sub : PySem.W.mroIn K C (.ref C) = some true
  subV : PySem.W.subIn K (.ref C) (.type "ValueError") = some true
  opq : PySem.W.nsIn K cStatics "thirdparty.any" = some none
  sup : PySem.W.ks_superIn K C C "__init__" = some (some (.builtin "ValueError.__init__"))
  gl : mg "super" = none
abbrev eS (q : Str) (sc : Scope) (L f cda cc : Addr) : Env := PySem.W.ksEnv q sc L f (.ref cda) cc
/-- such a def running -/
def cxS (P : Program) (w : World) (K : PySem.W.Frag) (mg : Str → Option Value) (base : Heap) (N : List Str) (q : Str) (sc : Scope) (f cda cc : Addr) (A : Around) (outer : List Env) (s : Shared) (H : Hp) : Cx where
  prog := P
  w := w
  K := K
  mg := mg
  base := base
  A := A.deeper (eS q sc s.heap.objs.size f cda cc)
  N := N
  s_0 := s
  H_0 := H
  env := eS q sc s.heap.objs.size f cda cc
  outer := outer
  stack := eS q sc s.heap.objs.size f cda cc :: outer
  ex := []
  calm := true
  fn := fun _ => false
  pn := []
  xe := fun _ _ => False
section
variable {P : Program} {w : World} {K : PySem.W.Frag} {mg : Str → Option Value} {base : Heap} {C : Addr} {q : Str} {st : Stmt} {f cc cda : Addr} {fd : FuncData} {outer : List Env} {A : Around} {H : Hp} {N ps : List Str}
theorem lk_mem {α : Type} : ∀ {l : List (Str × α)} {x : Str} {u : α}, (l.map (·.1)).Nodup → (x, u) ∈ l → l.lookup x = some u
  | (y, v) :: r, x, u, hn, h => by
    rw [List.map_cons, List.nodup_cons] at hn
    rw [List.lookup_cons]
    rcases List.mem_cons.mp h with e | h
    · cases e
      simp
    · have : (x == y) = false := by
        rw [beq_eq_false_iff_ne]
        intro e
        exact hn.1 (by rw [← e]; exact List.mem_map.mpr ⟨(x, u), h, rfl⟩)
      rw [this]
      exact lk_mem hn.2 h
theorem zip_lk {ps : List Str} {us : List Value} (hn : ps.Nodup) (hl : ps.length = us.length) {i : Nat} {x : Str} {u : Value} (hp : ps[i]? = some x) (hu : us[i]? = some u) : (ps.zip us).reverse.lookup x = some u := by
  refine lk_mem ?_ ?_
  · rw [List.map_reverse]
    refine (List.reverse_perm _).nodup_iff.mpr ?_
    have : (ps.zip us).map (·.1) = ps := List.map_fst_zip (Nat.le_of_eq hl)
    rw [this]
    exact hn
  · rw [List.mem_reverse]
    refine List.mem_of_getElem? (i := i) ?_
    rw [List.getElem?_zip_eq_some]
    exact ⟨hp, hu⟩
theorem inv_startS {us : List Value} {vs : List V} {s : Shared} {h0 : Heap} {tk : Nat} (S : SupD P K mg C q st f cc cda fd) (kind : (defScope st).kind = .function) (nd : N.Nodup) (pre : N.take ps.length = ps) (loc : ∀ x ∈ ps, (defScope st).names.lookup x = some .local)
    (fr : ∀ y ∈ (defScope st).names, y.2 ≠ .cell ∧ (y.2 = .free → y.1 = "__class__")) (hd : A.handled = none) (e0 : Env0 P w K mg base A outer s H) (hl : vs.length = ps.length) (r : Vals vs us)
    (hns : h0.Ns s.heap.objs.size (fun x => (ps.zip us).reverse.lookup x)) (hk : ∀ b o, s.heap.get? b = some o → h0.get? b = some o) :
    Inv (cxS P w K mg base N q (defScope st) f cda cc A outer s H) [] (start N vs) H { s with heap := h0, toks := tk } := by
  have hpl : ps.length ≤ N.length := by
    have := congrArg List.length pre
    rw [List.length_take] at this
    omega
  have kIn : K.In s.heap := e0.mod.kin.keeps fun b o e => (e0.bs b o e).1
  obtain ⟨cl, cld, csl, hcl⟩ := S.cell
  have cellx : ∀ {x : Str} {c : Addr}, (eS q (defScope st) s.heap.objs.size f cda cc).cells.lookup x = some c → x = "__class__" ∧ c = cc := fun {x c} e => by
    have e1 : ([(("__class__" : Str), cc)] : List (Str × Addr)).lookup x = some c := e
    rw [List.lookup_cons] at e1
    cases hb : x == ("__class__" : Str) with
    | true =>
      rw [hb] at e1
      exact ⟨beq_iff_eq.mp hb, (Option.some.inj e1).symm⟩
    | false =>
      rw [hb] at e1
      cases e1
  have ncc : H cc = none := (e0.bs cc _ (e0.mod.kin _ _ hcl)).2
  have noA : ∀ b : Addr, b ∉ (cxS P w K mg base N q (defScope st) f cda cc A outer s H).ex := fun b z => by cases z
  refine ⟨⟨e0.mod, kind, rfl, rfl, Nat.le_refl _, fun y z c h1 h2 => ?_, fun y hy => ?_, fun y c z _ => ?_, fun _ => hd, Around.frames_deeper e0.frames, .inr ⟨rfl, rfl⟩, fun b z => absurd z (noA b), e0.bs, e0.bsz, fun b _ _ => noA b, fun b z => absurd z (noA b), e0.funs, e0.frf⟩,
    rfl, e0.bare, Un.kept hk, ⟨_, hns, fun i y v h1 h2 h3 => ?_⟩, fun y c h => ?_, e0.hok.fresh (Nat.le_refl _), fun y c h => ?_, fun p hp => (by cases hp), e0.hok.kept hk, ?_⟩
  · rw [(cellx h1).1, (cellx h2).1]
  · have hy' : (defScope st).names.lookup y = some .cell ∨ (defScope st).names.lookup y = some .free := hy
    rcases hy' with e | e
    · exact absurd rfl (fr _ (PySem.mem_of_lookup e)).1
    · have := (fr _ (PySem.mem_of_lookup e)).2 rfl
      have e2 : y = "__class__" := this
      rw [e2]
      exact ⟨cc, rfl⟩
  · cases z
  · have hi : i < vs.length := by
      unfold L2.start at h2
      by_cases hi : i < vs.length
      · exact hi
      · rw [List.getElem?_append_right (by simpa using hi), List.getElem?_replicate] at h2
        split at h2 <;> cases h2
    have ha : vs[i]? = some v := by
      unfold L2.start at h2
      rw [List.getElem?_append_left (by simpa using hi), List.getElem?_map] at h2
      cases e : vs[i]? with
      | none => rw [e] at h2; cases h2
      | some a => rw [e] at h2; cases h2; rfl
    obtain ⟨u, hu, rv⟩ := r.get ha
    have hp : ps[i]? = some y := by
      rw [← pre, List.getElem?_take_of_lt (by omega)]
      exact h1
    have ndP : ps.Nodup := by
      rw [← pre]
      exact nd.sublist (List.take_sublist _ _)
    exact ⟨u, rv, .inl ⟨loc y (List.mem_of_getElem? hp), zip_lk ndP (by rw [← hl]; exact r.length) hp hu⟩⟩
  · obtain ⟨_, rfl⟩ := cellx h
    exact ⟨_, _, hk _ _ (kIn _ _ hcl), rfl⟩
  · obtain ⟨_, rfl⟩ := cellx h
    exact ncc
  · unfold L2.start
    show _ = N.length
    rw [List.length_append, List.length_map, List.length_replicate]
    omega
/-- super() within such a def -/
theorem super_line {s : Shared} {L a : Addr} {oe : Obj} {m : Str → Option Value} {body : List Stmt} {p0 p1 : Pos} {whole : Sem Value} {B : Around} {Q E : Value → Shared → Prop} (S : SupD P K mg C q st f cc cda fd) (kind : (defScope st).kind = .function)
    (hks : (defScope st).names.lookup ("super" : Str) = some NameKind.globalImplicit) (hkc : (defScope st).names.lookup ("__class__" : Str) = some NameKind.free) (hka : (defScope st).names.lookup ("self" : Str) = some NameKind.local)
    (hp : ∃ ar, ((defArgs st).posonlyargs ++ (defArgs st).args).head? = some ar ∧ ar.arg = "self") (M : Mod K mg base) (kb : ∀ b o, base.get? b = some o → s.heap.get? b = some o)
    (hns : s.heap.Ns L m) (hv : m "self" = some (.ref a)) (ho : s.heap.get? a = some oe) (hcls : oe.cls = .ref C) (hnc : ∀ c, oe.data ≠ .cls c)
    (h : ∀ h', h'.get? s.heap.objs.size = some (PySem.W.ks_superObj C a C) → (∀ y o, s.heap.get? y = some o → h'.get? y = some o) → Q (.ref s.heap.objs.size) { s with heap := h' }) :
    _root_.PySem.wpAt (model P w) B (.func body (eS q (defScope st) L f cda cc)) (attributeBase (.Call (.Name "super" p0) [] [] p1) "__init__" (eS q (defScope st) L f cda cc) whole) Q E s := by
  obtain ⟨ar, hp1, hp2⟩ := hp
  obtain ⟨oc, od, kV, doc, pm, an, ct, osl, rfl, lk⟩ := S.ex
  obtain ⟨cl, cld, csl, hcl⟩ := S.cell
  obtain ⟨ccl, cdd, vs, ccs, file, tf, hcode, hvs, hfile⟩ := S.file
  obtain ⟨nm, q2, Nn, bs, bm, sn, sub, ab, col, dd, k0, k1, k2, k3, k5, hC, hbm⟩ := S.cls.cls
  have kIn : K.In s.heap := M.kin.keeps kb
  obtain ⟨mb, hb1, hb2⟩ := M.blt
  obtain ⟨hh, g, d, t, os⟩ := s
  refine PySem.ks_wpAt_super_base (env := eS q (defScope st) L f cda cc) hks hkc (by decide) rfl (kIn _ _ lk) rfl hp1 rfl (kIn _ _ hcode) rfl hvs hfile S.top ?_
  refine PySem.W.ks_loadName_global kind hks (Calls.loadGlobal_builtin (M.glob.keeps kb) S.gl (hb1.keeps kb) ((hb2 "super" (by decide)).trans (by decide +kernel : bootBuiltins "super" = some (.type "super"))) ⟨rfl, ?_⟩)
  refine wpAny_loadName_free kind hkc rfl ⟨_, kIn _ _ hcl, rfl⟩ ?_
  rw [hp2]
  refine wpAny_loadName_local kind hka hns hv ?_
  refine PySem.ks_wpAny_isType_cls (kIn _ _ hC) rfl ⟨rfl, ?_⟩
  refine PySem.ks_wpAny_call_super (kIn _ _ hC) rfl ho hcls hnc (PySem.W.looks_mroIn kIn S.sub) fun h' e k => ?_
  exact h h' e k
/-- ValueError.__init__ bound to an error that is being made -/
theorem bound_call {X : Cx} {pins : List (Addr × Obj)} {σ : L2.St} {H : Hp} {s : Shared} {a u C : Addr} {us : List Value} {Q E : Value → Shared → Prop} (T : OexC X.K C) (I : Inv X pins σ H s) (e : H a = some (exo a C none)) (hu : s.heap.get? u = some (PySem.W.kxs_mw "ValueError.__init__" a))
    (hl : us.length ≤ sizeLine) (h : ∀ s', Inv X pins σ H s' → Q .none s') : wpAny (model X.prog X.w) X.A (call (.ref u) us) Q E s := by
  obtain ⟨nm, q, Nn, bs, bm, sn, sub, ab, col, dd, k0, k1, k2, k3, k5, hC, hbm⟩ := T.cls
  have hC' := I.kIn _ _ hC
  obtain ⟨t1, ho⟩ := exo_at I.hok e
  obtain ⟨hp, g, d, t, os⟩ := s
  refine wpAny_call (codeAny_of_tree ?_)
  show wpAny _ X.A.in1 (callAny (.ref u) ⟨us, []⟩) _ _ _
  simp only [callAny]
  refine wpAny_bind (wpAny_load hu ?_)
  simp only [PySem.W.kxs_mw, show (Value.type "method-wrapper" == Value.type "method" || Value.type "method-wrapper" == Value.type "builtin_function_or_method" || Value.type "method-wrapper" == Value.type "method-wrapper") = true by decide, if_true]
  refine PySem.W.KFB.if_so (by decide) ?_
  refine wpAny_bind (PySem.W.check_bound_init F.excBase_ValueError.toExcCallFacts hC' ho rfl ?_)
  refine wpAny_bind (wpAny_pure (wpAny_pure ?_))
  refine ⟨plainId_quiet F.excBase_ValueError.init.plain _, codeAny_builtin F.excBase_ValueError.initEntry ?_⟩
  refine PySem.W.exc_init_tree (cls := .ref C) (t0 := t1) (dv := none) (c2 := .none) (c3 := .none) (b4 := .bool false) ho hl fun h' kp hx _ => ?_
  have J := I.write (t' := t) (x := a) (e := a) (o := exo a C none) (by rw [e]; exact True.intro) (.inl rfl) kp ⟨_, hx⟩ (exo_ok hx)
  rw [upd_id e] at J
  exact h _ J
/-- THE RULE: such an __init__, by its one text and what stands behind it -/
theorem sup_ok {k : Nat} {sp : Sp} {e : Expr} {rest : List Stmt} {p0 p1 p2 p3 p4 : Pos} (S : SupD P K mg C q st f cc cda fd) (kind : (defScope st).kind = .function) (co : (defScope st).isCoroutine = false) (gen : (defScope st).isGenerator = false)
    (hks : (defScope st).names.lookup ("super" : Str) = some NameKind.globalImplicit) (hkc : (defScope st).names.lookup ("__class__" : Str) = some NameKind.free)
    (hp : ∃ ar, ((defArgs st).posonlyargs ++ (defArgs st).args).head? = some ar ∧ ar.arg = "self") (fr : ∀ y ∈ (defScope st).names, y.2 ≠ .cell ∧ (y.2 = .free → y.1 = "__class__"))
    (nd : N.Nodup) (pre : N.take ps.length = ps) (loc : ∀ x ∈ ps, (defScope st).names.lookup x = some NameKind.local) (h0 : ps[0]? = some ("self" : Str)) (body : defBody st = .Expr (.Call (.Attribute (.Call (.Name "super" p0) [] [] p1) "__init__" p2) [e] [] p3) p4 :: rest)
    (len : ∀ vs H Q E, sp vs H Q E → vs.length = ps.length)
    (hcall : ∀ L, ∃ pl : Sem Bool, eval (.Call (.Attribute (.Call (.Name "super" p0) [] [] p1) "__init__" p2) [e] [] p3) (eS q (defScope st) L f cda cc) = (do
      let ov ← attributeBase (.Call (.Name "super" p0) [] [] p1) "__init__" (eS q (defScope st) L f cda cc) (eval (.Call (.Name "super" p0) [] [] p1) (eS q (defScope st) L f cda cc))
      standAt p2.atName
      let (g, first) ← holding [ov] (getMethod ov "__init__" pl)
      callWith p3 g first (backTo p3 (starEach [e] (eS q (defScope st) L f cda cc))) []))
    (hst : ∀ L, starEach [e] (eS q (defScope st) L f cda cc) = (false, eval e (eS q (defScope st) L f cda cc)) :: starEach [] (eS q (defScope st) L f cda cc))
    (run : ∀ (A : Around) (outer : List Env) (s : Shared) (H : Hp) (vs : List V) (Q : VK) (E : XK), sp vs H Q E → ∃ (a : Addr) (te : TE) (tr : TS), vs[0]? = some (.ref a) ∧ H a = some (exo a C none) ∧
      PE (cxS P w K mg base N q (defScope st) f cda cc A outer s H) e te ∧ PSs (cxS P w K mg base N q (defScope st) f cda cc A outer s H) rest tr ∧
      te (start N vs) H fun _ H1 => H1 a = some (exo a C none) ∧ tr { nx := fun _ H' => Q .non H', rt := Q } (start N vs) H1) : FnOk P w K mg base CX0 (k + 1) f fd ps sp := by
  refine ⟨len, fun A outer s H args us vs Q E hr e0 hb r hsp => ?_⟩
  have hl := len _ _ _ _ hsp
  have hul : ps.length = us.length := by rw [← hl]; exact r.length
  obtain ⟨a, te, tr, hv0, ha, pe, pss, hq⟩ := run A outer s H vs Q E hsp
  have kIn : K.In s.heap := e0.mod.kin.keeps fun b o z => (e0.bs b o z).1
  have lim : s.heap.NoLimit := e0.mod.nolimit.keeps fun b o z => (e0.bs b o z).1
  obtain ⟨oc, od, kV, doc, pm, an, ct, osl, efd, lk⟩ := S.ex
  have ndP : ps.Nodup := by
    rw [← pre]
    exact nd.sublist (List.take_sublist _ _)
  obtain ⟨u0, hu0, ru0⟩ := r.get hv0
  obtain rfl : u0 = Value.ref a := ru0
  subst efd
  refine PySem.ks_codeAny_call_defAt (fd := PySem.W.ksFn "__init__" q (defArgs st) (defBody st) (defScope st) .none kV doc pm an (.ref cda) ct cc) (body := defBody st) (binds := ps.zip us) hr.depth (kIn _ _ lk) rfl lim (PySem.W.codeRec_of kIn S.cd) rfl hb
    (fun y hy => (fr y hy).1) (fun y hy => loc y.1 (List.of_mem_zip hy).1) (fun h1 hns hk => ?_) co gen kind
  have I0 := inv_startS (tk := s.toks + (ps.zip us).length) S kind nd pre loc fr hr.hd e0 hl r hns hk
  have em : (fun x => (ps.zip us).reverse.lookup x) ("self" : Str) = some (.ref a) := zip_lk ndP hul h0 hu0
  show _root_.PySem.wpAt _ _ (.func (defBody st) (eS q (defScope st) s.heap.objs.size f cda cc)) (execs (defBody st) (eS q (defScope st) s.heap.objs.size f cda cc)) _ _ _
  rw [body]
  obtain ⟨pl, ec⟩ := hcall s.heap.objs.size
  obtain ⟨t1, ho⟩ := exo_at I0.hok ha
  refine PySem.ks_wpAt_execs_cons (PySem.ks_wpAt_Expr_any (hi := I0.quiet) (PySem.ks_wpAt_MethodCall (pl := pl) ?_ ec))
  have kb : ∀ b o, base.get? b = some o → h1.get? b = some o := fun b o z => hk b o (e0.bs b o z).1
  refine super_line (s := { s with heap := h1, toks := s.toks + (ps.zip us).length }) S kind hks hkc (loc _ (List.mem_of_getElem? h0)) hp e0.mod kb hns em ho rfl (fun c z => by cases z) fun h2 eso k2 => ?_
  have I2 := I0.kept (h' := h2) (t' := s.toks + (ps.zip us).length) k2
  obtain ⟨nm, q2, Nn, bs, bm, sn, sub, ab, col, dd, k0, k1, k3, k4, k5, hC, hbm⟩ := S.cls.cls
  have hcl : PySem.W.clsIn K C = some { name := nm, bases := bs, mro := .ref C :: bm, ns := Nn, qualname := q2, hasDict := true, slotNames := sn, subclasses := sub, abstract := ab, collection := col, hasDel := false } := by
    unfold PySem.W.clsIn
    rw [hC] <;> rfl
  have hsup := S.sup
  unfold PySem.W.ks_superIn at hsup
  rw [hcl] at hsup
  have kIn2 : K.In h2 := kIn.keeps fun b o z => k2 b o (hk b o z)
  have ho2 := k2 _ _ ho
  have isI : PySem.W.Looks (model P w) h2 (isInstance (.ref a) (.type "ValueError")) true := by
    have J : PySem.W.InstAt h2 a { cls := .ref C, dict := none, data := .fields #[.ref t1, .none, .none, .none, .bool false, .none] } C none := ⟨ho2, rfl, rfl, trivial⟩
    exact J.type.andThen (PySem.W.looks_subIn kIn2 S.subV)
  have hne : a ≠ C := fun z => by
    have := kIn2 _ _ hC
    rw [← z, ho2] at this
    cases this
  obtain ⟨hh, g, d, t, os⟩ := s
  refine PySem.W.kxs_getMethod PySem.W.kxs_ValueError eso (PySem.W.looks_opaque kIn2 S.opq) (l₀ := Value.ref C :: bm) (fun A Q E s kp q => wpAny_bind ((PySem.W.looks_clsIn kIn2 hcl) A _ E s kp (wpAny_pure q))) rfl kIn2 hsup isI hne (by decide) ?_
  have I3 : Inv (cxS P w K mg base N q (defScope st) f cda cc A outer ⟨hh, g, d, t, os⟩ H) [] (start N vs) H ⟨h2.push (PySem.W.kxs_mw "ValueError.__init__" a), g, d, t + (ps.zip us).length + 1, os⟩ :=
    I2.kept (h' := h2.push (PySem.W.kxs_mw "ValueError.__init__" a)) (t' := t + (ps.zip us).length + 1) fun b o z => Heap.get?_push_of_some _ z
  have I4 : Inv (cxS P w K mg base N q (defScope st) f cda cc A outer ⟨hh, g, d, t, os⟩ H) [(h2.objs.size, PySem.W.kxs_mw "ValueError.__init__" a)] (start N vs) H ⟨h2.push (PySem.W.kxs_mw "ValueError.__init__" a), g, d, t + (ps.zip us).length + 1, os⟩ := by
    refine I3.pins_of fun p hp => ?_
    rw [List.mem_singleton.mp hp]
    refine ⟨Heap.get?_push_size _ rfl, I2.hok.fresh (Nat.le_refl _), ?_, I2.nofs (Nat.le_refl _), fun v z => by cases z⟩
    exact Nat.ne_of_gt I2.lt
  rw [hst]
  refine PySem.W.kxs_callWith (i := "ValueError.__init__") (x := a) (by rfl) (Calls.evalArgs_plain ?_)
  refine Calls.spliced_cons (wpAny_mono (pe.run _ _ (start N vs) H _ I4 hq) (fun v s4 hv => ?_) fun _ _ z => z.elim)
  obtain ⟨x, H1, I5, r1, ha1, hq1⟩ := hv
  have mw := (I5.pin (h2.objs.size, PySem.W.kxs_mw "ValueError.__init__" a) (List.mem_append_right _ List.mem_cons_self)).1
  refine Calls.spliced_nil ⟨mw, ?_⟩
  refine bound_call (X := cxS P w K mg base N q (defScope st) f cda cc A outer ⟨hh, g, d, t, os⟩ H) S.cls I5 ha1 mw (by show 1 ≤ sizeLine; decide) fun s5 I6 => ?_
  refine _root_.PySem.wpAt_of_wpAny (wpAny_mono (pss.run _ s5 (start N vs) H1 _ I6 hq1) (fun fl s' hs => ?_) fun e s' hs => hs.elim)
  have fin : ∀ {σ' : L2.St} {H' : Hp} {v : V} {u : Value}, Inv (cxS P w K mg base N q (defScope st) f cda cc A outer ⟨hh, g, d, t, os⟩ H) [(h2.objs.size, PySem.W.kxs_mw "ValueError.__init__" a)] σ' H' s' → RelV v u → Q v H' → CE outer P w H ⟨hh, g, d, t, os⟩ Q u s' :=
    fun {σ' H' v u} J rv qq => ⟨v, H', J.os, J.bare, J.base, J.hok, rv, qq⟩
  cases fl with
  | ret u =>
    obtain ⟨v, σ', H', J, rv, qq⟩ := hs
    exact fin J rv qq
  | next =>
    obtain ⟨σ', H', J, qq⟩ := hs
    exact fin (v := V.non) (u := Value.none) J rfl qq
  | brk =>
    obtain ⟨_, _, _, qq⟩ := hs
    exact qq.elim
  | cont =>
    obtain ⟨_, _, _, qq⟩ := hs
    exact qq.elim
end
end Wh

namespace Wh
open PySem PySem.Spec PyProof.Rows L2 Wf
abbrev sNoI : Stmt := inClass (top 4) 0
abbrev sHeI : Stmt := inClass (top 5) 0
def spNo (C : Addr) : Sp := fun vs H Q _ => ∃ (a : Addr) (n : Nat), vs = [.ref a, vN n] ∧ n ≤ 1000 ∧ H a = some (exo a C none) ∧ ∀ dx, H dx = none → dx ≠ a → Q .non (upd (upd H dx (exd dx [("number", vN n)])) a (exo a C (some dx)))
def spHe (C : Addr) : Sp := fun vs H Q _ => ∃ (a : Addr) (n m : Nat), vs = [.ref a, vN n, vN m] ∧ n ≤ 1000 ∧ m ≤ 1000 ∧ H a = some (exo a C none) ∧ ∀ dx, H dx = none → dx ≠ a →
  Q .non (upd (upd (upd H dx (exd dx [("number", vN n)])) a (exo a C (some dx))) dx (exd dx [("by", vN m), ("number", vN n)]))
theorem log_n {n : Nat} (h : n ≤ 1000) : ((n : Int)).natAbs.log2 < 1920 := by
  have h2 : ((n : Int)).natAbs < 2 ^ 1920 := Nat.lt_of_lt_of_le (show ((n : Int)).natAbs < 1024 by omega) (by
    have : (2 : Nat) ^ 10 ≤ 2 ^ 1920 := Nat.pow_le_pow_right (by decide) (by decide)
    exact this)
  by_cases h3 : ((n : Int)).natAbs = 0
  · rw [h3]; decide
  · exact (Nat.log2_lt h3).mpr h2
theorem txt_small {n : Nat} (h : n ≤ 1000) : (toString (n : Int) : Str).length ≤ 1921 := int_text_len_1921 (log_n h)
section
variable {P : Program} {w : World} {K : PySem.W.Frag} {mg : Str → Option Value} {base : Heap} {C : Addr}
theorem ok_noI {f cc cda : Addr} {fd : FuncData} (S : SupD P K mg C "NoChange.__init__" sNoI f cc cda fd) (hn : PySem.W.findIn K (.ref C) "number" = some none) : FnOk P w K mg base CX0 1 f fd ["self", "number"] (spNo C) := by
  refine sup_ok (N := ["self", "number"]) S rfl rfl rfl rfl rfl ⟨_, rfl, rfl⟩ (by decide +kernel) (by decide +kernel) rfl (by decide +kernel) rfl rfl (fun vs H Q E h => ?_) (fun L => ⟨_, rfl⟩) (fun L => rfl) fun A outer s H vs Q E h => ?_
  · obtain ⟨a, n, rfl, _⟩ := h
    rfl
  · obtain ⟨a, n, rfl, hz, ha, q⟩ := h
    refine ⟨a, _, _, rfl, ha, pe_joined (.cons pe_str (.cons (pe_fmt (pv 1)) .nil)), pss_one (ps_ost (pv 0) (pv 1)), ?_⟩
    have e1 := txt_small hz
    have e2 : (Str.empty ++ ("there is no change " : Str)).length = 19 := by decide +kernel
    have e3 : (Str.empty : Str) ++ ("there is no change " : Str) = ("there is no change " : Str) := by decide +kernel
    refine ⟨_, rfl, by rw [e2]; decide, _, rfl, .inr ⟨_, rfl, log_n hz, _, rfl, ?_, ha, ?_⟩⟩
    · rw [Str.length_append, e2, sizeLine_eq]
      omega
    · exact ⟨_, rfl, _, rfl, a, C, rfl, S.cls, hn, .inl ⟨ha, q⟩⟩
theorem ok_heI {f cc cda : Addr} {fd : FuncData} (S : SupD P K mg C "Held.__init__" sHeI f cc cda fd) (hn : PySem.W.findIn K (.ref C) "number" = some none) (hb : PySem.W.findIn K (.ref C) "by" = some none) : FnOk P w K mg base CX0 1 f fd ["self", "number", "by"] (spHe C) := by
  refine sup_ok (N := ["self", "number", "by"]) S rfl rfl rfl rfl rfl ⟨_, rfl, rfl⟩ (by decide +kernel) (by decide +kernel) rfl (by decide +kernel) rfl rfl (fun vs H Q E h => ?_) (fun L => ⟨_, rfl⟩) (fun L => rfl) fun A outer s H vs Q E h => ?_
  · obtain ⟨a, n, m, rfl, _⟩ := h
    rfl
  · obtain ⟨a, n, m, rfl, hz, hm, ha, q⟩ := h
    refine ⟨a, _, _, rfl, ha, pe_joined (.cons pe_str (.cons (pe_fmt (pv 1)) (.cons pe_str (.cons (pe_fmt (pv 2)) .nil)))), pss_cons (ps_ost (pv 0) (pv 1)) (pss_one (ps_ost (pv 0) (pv 2))), ?_⟩
    have e1 := txt_small hz
    have e4 := txt_small hm
    have e2 : (Str.empty ++ ("change " : Str)).length = 7 := by decide +kernel
    have e5 : (" is held by change " : Str).length = 19 := by decide +kernel
    refine ⟨_, rfl, by rw [e2]; decide, _, rfl, .inr ⟨_, rfl, log_n hz, _, rfl, ?_, ?_⟩⟩
    · rw [Str.length_append, e2, sizeLine_eq]
      omega
    refine ⟨_, rfl, ?_, _, rfl, .inr ⟨_, rfl, log_n hm, _, rfl, ?_, ha, ?_⟩⟩
    · rw [Str.length_append, Str.length_append, e2, e5, sizeLine_eq]
      omega
    · rw [Str.length_append, Str.length_append, Str.length_append, e2, e5, sizeLine_eq]
      omega
    · refine ⟨_, rfl, _, rfl, a, C, rfl, S.cls, hn, .inl ⟨ha, fun dx n1 n2 => ?_⟩⟩
      exact ⟨_, rfl, _, rfl, a, C, rfl, S.cls, hb, .inr ⟨dx, _, upd_same, (upd_ne n2).trans upd_same, (by show 1 ≤ 900; decide), q dx n1 n2⟩⟩
end
end Wh

namespace Wh
open PySem PySem.Spec PyProof.Rows L2 Wf
/-- an own error by its name -/
structure Er (P : Program) (w : World) (K : PySem.W.Frag) (mg : Str → Option Value) (base : Heap) (k : Nat) (x : Str) (C : Addr) (sp : Sp) : Prop where
  ex : ∃ (fI : Addr) (fd : FuncData) (ps : List Str), OexC K C ∧ PySem.W.findIn K (.ref C) "__init__" = some (some (.ref fI)) ∧ PySem.W.typeIn K (.ref fI) = some (.type "function") ∧ FnOk P w K mg base CX0 k fI fd ps sp ∧ Binds K fd ps [] ∧ mg x = some (.ref C)
theorem pmk_er {X : Cx} {k j : Nat} {C : Addr} {x : Str} {sp : Sp} {p pos : Pos} {e : Expr} {es : List Expr} {t : TA} (c : Er X.prog X.w X.K X.mg X.base k x C sp) (hr : Room j X.A) (hk : k + 1 ≤ j) (ha : PA X (e :: es) t) (hg : Gl X x := by rfl)
    (hdb : (x == ("__debug__" : Str)) = false := by decide) (he : starEach (e :: es) X.env = (false, eval e X.env) :: starEach es X.env := by rfl) (hpl : (backTo pos (starEach es X.env)).any (·.1) = false := by rfl) :
    PMk X (.Call (.Name x p) (e :: es) [] pos) (tMkO C sp [] t) := by
  obtain ⟨fI, fd, ps, T, iC, tI, F, b, hm⟩ := c.ex
  exact pmk_oex T iC tI F (hr.mono hk) b .nil pass0 hg hm ha hdb he hpl
abbrev sTake : Stmt := inClass (top 22) 14
def heldP (b : B Tx) (n : Nat) (e1 e2 : Ev Tx) : Bool := e2.fates.any fun q => decide (q.1 < b.kept.length ∧ (b.at q.1).born = n) || (!isKeep q.2.chg && txtAt e1.fates q.1)
def holdFrom (b : B Tx) (n : Nat) (e1 : Ev Tx) : Nat → List (Ev Tx) → Nat
  | _, [] => 0
  | k, e2 :: r => if (e2.stands && heldP b n e1 e2) = true then k else holdFrom b n e1 (k + 1) r
def spTake (c : Cs) (P CN CHd : Addr) : Sp := fun vs H Q E => ∃ (p : Addr) (ow : Ow) (b : B Tx) (es : List (Ev Tx)) (n : Nat), vs = [.ref p, vN n] ∧ HistAt c P H ow p b es ∧ es.length ≤ 400 ∧ n ≤ 900 ∧ (∀ e ∈ es, (e.fates.map (·.1)).Nodup) ∧
  ((n = 0 ∨ es.length < n ∨ stands es n = false) → ∀ H' d, Same H H' → H' d = some (.xd [("number", vN n)]) → E (.ref CN) (some d) H') ∧
  (∀ e1, 1 ≤ n → es[n - 1]? = some e1 → stands es n = true → (holdFrom b n e1 (n + 1) (es.drop n) ≠ 0 → ∀ H' d, Same H H' → H' d = some (.xd [("by", vN (holdFrom b n e1 (n + 1) (es.drop n))), ("number", vN n)]) → E (.ref CHd) (some d) H') ∧
    (holdFrom b n e1 (n + 1) (es.drop n) = 0 → ∀ H' ow', Mv P H H' ow ow' → HistAt c P H' ow' p b (es.set (n - 1) { e1 with stands := false }) → Q .non H'))
theorem cutV_drop {xs : List V} {n : Nat} (h : n ≤ xs.length) : cutV xs (some (n : Int)) none = xs.drop n := by
  have e1 : HT.sIx xs.length 0 (some (n : Int)) = n := by
    rw [HT.sIx_nat]
    exact Nat.min_eq_left h
  have e2 : HT.sIx xs.length xs.length none = xs.length := rfl
  unfold cutV
  rw [e1, e2]
  exact List.take_of_length_le (by rw [List.length_drop]; exact Nat.le_refl _)
theorem holdFrom_step {b : B Tx} {n : Nat} {e1 e2 : Ev Tx} {k m : Nat} {es : List (Ev Tx)} (h : es[m]? = some e2) : holdFrom b n e1 k (es.drop m) = if (e2.stands && heldP b n e1 e2) = true then k else holdFrom b n e1 (k + 1) (es.drop (m + 1)) := by
  obtain ⟨lt, e⟩ := List.getElem?_eq_some_iff.mp h
  rw [List.drop_eq_getElem_cons lt, e]
  rfl
section
variable {P : Program} {w : World} {K : PySem.W.Frag} {mg : Str → Option Value} {base : Heap} {c : Cs} {Pt CN CHd : Addr}
theorem fokX {x q : Str} {st : Stmt} {f : Addr} {fd : FuncData} {N ps : List Str} {k : Nat} {sp : Sp} (F : FnD K x q st f fd) (S : FnScope N ps (defScope st)) (len : ∀ vs H Q E, sp vs H Q E → vs.length = ps.length)
    (hb : ∀ (cdv : Value) (A : Around) (outer : List Env) (s : Shared) (H : Hp) (vs : List V) (Q : VK) (E : XK), Room k (A.deeper (envOfC q (defScope st) s.heap.objs.size f cdv)) → sp vs H Q E →
      ∃ t, PSs (cxOf (L2.CX P w) P w K mg base N q (defScope st) f cdv A outer s H E) (defBody st) t ∧ t { nx := fun _ H' => Q .non H', rt := Q } (start N vs) H) : FnOk P w K mg base (L2.CX P w) (k + 1) f fd ps sp :=
  FunD.ok F S len hb
theorem scTake : FnScope ["self", "number", "change", "at", "later"] ["self", "number"] (defScope sTake) := ⟨rfl, rfl, rfl, by decide +kernel, rfl, by decide +kernel, by decide +kernel⟩
theorem ok_take {f : Addr} {fd : FuncData} (F : FnD K "take_back" "History.take_back" sTake f fd) (T : Bt mg) (C : Tc K mg c) (M : Meth K c.CH "take_back" f) (GS : Mt P w K mg base CX0 1 c.CH "stands" (spStands c Pt)) (GHB : Mt P w K mg base CX0 1 c.CH "is_held_by" (spHeldBy c))
    (EN : Er P w K mg base 1 "NoChange" CN (spNo CN)) (EH : Er P w K mg base 1 "Held" CHd (spHe CHd)) : Mt P w K mg base (L2.CX P w) 3 c.CH "take_back" (spTake c Pt CN CHd) := by
  refine ⟨f, fd, ["self", "number"], C.cH, M, fokX F scTake (fun vs H Q E h => ?_) (fun cdv A outer s0 H vs Q E hr h => ?_), F.bindsN fun _ _ _ _ _ _ us hl => match us, hl with | [_, _], _ => rfl⟩
  · obtain ⟨p, ow, b, es, n, rfl, _⟩ := h
    rfl
  · obtain ⟨p, ow, b, es, n, rfl, ⟨s, h⟩, hes, hn, hnd, q1, q2⟩ := h
    refine ⟨_, pss_cons (ps_if (PW.pt (pw_or (pt_not (pt_chain op_le op_le pe_int (pv 1) (pe_callB call_len_seq (by rfl) T.len PySem.boot_len (pa_cons (pe_fld (pv 0) rfl) pa_nil)))) (pw_or1 (pt_not (pt_val (pe_mt GS hr (by decide) pass0 (pv 0) (pa_cons (pv 1) pa_nil)))))))
        (pss_one (ps_raise rfl (takes_of rfl rfl rfl rfl) (pmk_er EN hr (by decide) (pa_cons (pv 1) pa_nil))))
        (pss_nil))
      (pss_cons (ps_set (i := 2) scTake.nd rfl (.inl rfl) (pe_ix ix_list (pe_fld (pv 0) rfl) (pe_op op_sub (pv 1) pe_int) (fun _ _ => rfl)))
      (pss_cons (ps_for (passes_of rfl) rfl (pi_enum (by rfl) T.enumerate (pa_cons (pe_slice sl_list (pe_fld (pv 0) rfl) (po_some (pv 1)) po_none) pa_nil)) (pg_tup rfl (pgs_cons (pg_name (i := 3) scTake.nd rfl (.inl rfl)) (pgs_cons (pg_name (i := 4) scTake.nd rfl (.inl rfl)) pgs_nil)))
        (pss_one (ps_if (PW.pt (pw_and (pt_val (pe_fld (pv 4) rfl)) (pw_and1 (pt_val (pe_mt GHB hr (by decide) pass0 (pv 0) (pa_cons (pv 2) (pa_cons (pv 4) pa_nil)))))))
            (pss_one (ps_raise rfl (takes_of rfl rfl rfl rfl) (pmk_er EH hr (by decide) (pa_cons (pv 1) (pa_cons (pe_op op_add (pe_op op_add (pv 1) (pv 3)) pe_int) pa_nil)))))
            (pss_nil))))
      (pss_one (ps_fld (pv 2) pe_bl rfl)))), ?_⟩
    have raiseN : (n = 0 ∨ es.length < n ∨ stands es n = false) → ∀ v u z : Option V, tMkO CN (spNo CN) [] (tCons (tVar 1) tNil) [some (.ref p), some (vN n), v, u, z] H E := by
      intro cond v u z
      refine ⟨_, rfl, (by show 1 ≤ 1000; decide), fun a na => ⟨a, n, rfl, by omega, upd_same, fun dx ndx nda => ⟨rfl, dx, _, upd_same, (upd_ne nda).trans upd_same, by rw [upd_ne nda] at ndx; exact ndx, ?_⟩⟩⟩
      have fdx : H dx = none := by rw [upd_ne nda] at ndx; exact ndx
      refine q1 cond _ dx (fun b0 o e0 => ?_) upd_same
      have n1 := ne_of_none e0 na
      have n2 := ne_of_none e0 fdx
      rw [upd_ne n2, del_ne n1, upd_ne n1, upd_ne n2, upd_ne n1]
      exact e0
    have el : (s.ca.map fun q => V.ref q.a).length = es.length := by rw [List.length_map, h.cl]
    refine ⟨_, rfl, 1, (n : Int), rfl, rfl, _, rfl, ?_⟩
    by_cases n0 : n = 0
    · have e1 : decide ((1 : Int) ≤ (n : Int)) = false := decide_eq_false (by omega)
      rw [e1]
      exact ⟨_, rfl, raiseN (.inl n0) _ _ _⟩
    have e1 : decide ((1 : Int) ≤ (n : Int)) = true := decide_eq_true (by omega)
    rw [e1]
    refine ⟨_, rfl, p, _, _, _, _, rfl, h.hp, C.cH, C.hChanges, rfl, s.lc, _, rfl, .inl (SqL.of h.hc), (n : Int), (es.length : Int), rfl, by rw [el], _, rfl, ?_⟩
    by_cases n1 : es.length < n
    · have e2 : decide ((n : Int) ≤ (es.length : Int)) = false := decide_eq_false (by omega)
      rw [e2]
      exact raiseN (.inr (.inl n1)) _ _ _
    have e2 : decide ((n : Int) ≤ (es.length : Int)) = true := decide_eq_true (by omega)
    rw [e2]
    refine ⟨_, rfl, p, _, _, rfl, h.hp, rfl, _, rfl, p, ow, s, _, b, es, n, rfl, h, by omega, _, rfl, ?_⟩
    cases st : stands es n with
    | false => exact raiseN (.inr (.inr st)) _ _ _
    | true =>
      have hj : n - 1 < es.length := by omega
      have hz1 : es[n - 1]? = some es[n - 1] := List.getElem?_eq_getElem hj
      obtain ⟨q3, q4⟩ := q2 _ (by omega) hz1 st
      obtain ⟨r1, g1, g2⟩ := h.cat hz1
      have en : ((n : Int) - 1) = ((n - 1 : Nat) : Int) := by omega
      refine ⟨_, rfl, p, _, _, _, _, rfl, h.hp, C.cH, C.hChanges, rfl, _, rfl, _, _, rfl, rfl, s.lc, _, _, _, rfl, rfl, SqL.of h.hc, at_of (j := n - 1) en (by rw [List.getElem?_map, g1]; rfl), ?_⟩
      refine ⟨_, rfl, p, _, _, _, _, rfl, h.hp, C.cH, C.hChanges, rfl, _, rfl, n, rfl, s.lc, _, rfl, SqL.of h.hc, fun sl nsl => ?_⟩
      rw [cutV_drop (by rw [el]; omega)]
      have s1 : Same H (L2.upd H sl (.lst ((s.ca.map fun q => V.ref q.a).drop n))) := snew nsl
      have dl : ((s.ca.map fun q => V.ref q.a).drop n).length = es.length - n := by rw [List.length_drop, el]
      obtain ⟨ids, i1, i2, i3⟩ := g2.put
      obtain ⟨kv1, f1, f2⟩ := g2.fts
      refine ⟨sl, _, rfl, SqL.of upd_same, for_it (walk_enum (xs := (s.ca.map fun q => V.ref q.a).drop n)) (fun i σ H' => ∃ u v : Option V, σ = [some (.ref p), some (vN n), some (.ref r1.a), u, v] ∧ Same H H' ∧ H' sl = some (.lst ((s.ca.map fun q => V.ref q.a).drop n)) ∧
        holdFrom b n es[n - 1] (n + 1) (es.drop n) = holdFrom b n es[n - 1] (n + 1 + i) (es.drop (n + i))) ⟨none, none, rfl, s1, upd_same, rfl⟩ (fun i σ H' _ ⟨u, v, _, _, z, _⟩ => SqL.of z) ?_ ?_⟩
      · rintro i x σ H1 H2 hi ⟨u, v, rfl, s2, hsl, hold⟩ ⟨T0, z1, z2, rfl, nT, rfl, e3, e4⟩
        cases e3
        rw [dl] at hi
        have hk : n + i < es.length := by omega
        have hz2 : es[n + i]? = some es[n + i] := List.getElem?_eq_getElem hk
        have sT : Same H (L2.upd H1 T0 (.tup [.int (i : Nat), z2])) := s2.trans (snew nT)
        have h2 := h.same sT
        obtain ⟨r2, d1, d2⟩ := h2.cat hz2
        replace e4 : ((s.ca.map fun q => V.ref q.a).drop n)[i]? = some z2 := e4
        rw [List.getElem?_drop, List.getElem?_map, d1] at e4
        cases e4
        rw [holdFrom_step hz2] at hold
        refine ⟨T0, _, rfl, .inl (.of upd_same), rfl, _, _, rfl, _, _, rfl, rfl, ?_⟩
        refine ⟨_, rfl, r2.a, _, _, _, _, rfl, d2.ins, C.cC, C.cStands, rfl, _, rfl, ?_⟩
        have nexti : holdFrom b n es[n - 1] (n + 1 + i + 1) (es.drop (n + i + 1)) = holdFrom b n es[n - 1] (n + 1 + (i + 1)) (es.drop (n + (i + 1))) := rfl
        cases st2 : es[n + i].stands with
        | false =>
          rw [st2, Bool.false_and, if_neg (by decide)] at hold
          exact iteF (iteF ⟨_, _, rfl, sT, snew nT _ _ hsl, hold⟩)
        | true =>
          refine iteT ?_
          have C1 := h2.cs (n - 1) r1 es[n - 1] g1 hz1
          obtain ⟨kv2, t1, t2⟩ := d2.fts
          have nf : r1.fd ≠ r2.fd := ne_tag C1.of_ d2.of_ fun z => by
            have : n - 1 = n + i := Tag.cf.inj z
            omega
          refine ⟨_, rfl, p, _, _, rfl, h2.hp, rfl, _, rfl, _, rfl, _, r1.a, r2.a, _, _, r1.fd, r2.fd, r1.pt, r2.pt, _, _, _, _, kv1, kv2, es[n - 1].fates, es[n + i].fates, ids, rfl, C1.ins, d2.ins, sT _ _ f1, f2.mono (Tk.of sT), t1, t2, nf, sT _ _ i1, hnd _ (List.getElem_mem hk), _, rfl, ?_⟩
          have hp : es[n + i].fates.any (heldQ ids es[n - 1].fates) = heldP b n es[n - 1] es[n + i] := by
            unfold heldP heldQ
            refine congrArg (List.any es[n + i].fates) (funext fun q => ?_)
            have e9 : decide (q.1 ∈ ids) = decide (q.1 < b.kept.length ∧ (b.at q.1).born = n) := decide_eq_decide.mpr (by rw [i2 q.1, show n - 1 + 1 = n by omega])
            rw [e9]
          rw [hp]
          rw [st2, Bool.true_and] at hold
          cases hh : heldP b n es[n - 1] es[n + i] with
          | false =>
            rw [hh, if_neg (by decide)] at hold
            exact iteF ⟨_, _, rfl, sT, snew nT _ _ hsl, hold⟩
          | true =>
            rw [hh, if_pos rfl] at hold
            refine iteT ?_
            have eb : ((n : Int) + ((i : Nat) : Int) + 1) = ((n + 1 + i : Nat) : Int) := by omega
            refine ⟨_, rfl, _, rfl, _, rfl, _, _, rfl, rfl, _, _, rfl, rfl, (by show 2 ≤ 1000; decide), fun a na => ⟨a, n, n + 1 + i, ?_, by omega, by omega, upd_same, fun dx ndx nda => ⟨rfl, dx, _, (upd_ne (Ne.symm nda)).trans upd_same, upd_same, by rw [upd_ne nda] at ndx; exact ndx, ?_⟩⟩⟩
            · exact congrArg (fun z => [V.ref a, V.int _, V.int z]) eb
            have fdx : (L2.upd H1 T0 (.tup [.int (i : Nat), .ref r2.a])) dx = none := by rw [upd_ne nda] at ndx; exact ndx
            refine q3 (by rw [hold]; omega) _ dx (fun b0 o e0 => ?_) (by rw [hold]; exact upd_same)
            have e0' := sT _ _ e0
            have n1 := ne_of_none e0' na
            have n2 := ne_of_none e0' fdx
            rw [upd_ne n2, del_ne n1, upd_ne n2, upd_ne n1, upd_ne n2, upd_ne n1]
            exact e0'
      · rintro σ H1 ⟨u, v, rfl, s2, hsl, hold⟩
        rw [dl] at hold
        have e5 : es.drop (n + (es.length - n)) = [] := List.drop_of_length_le (by omega)
        rw [e5] at hold
        have h2 := h.same s2
        have C1 := h2.cs (n - 1) r1 es[n - 1] g1 hz1
        refine ⟨_, rfl, r1.a, _, _, _, rfl, C1.ins, C.cC, C.cStands, (by show 4 < 1000; decide), ?_⟩
        have hu := h2.unstand g1 hz1
        exact q4 hold _ ow ((Mv.of h s2).trans (Mv.upd C1.oi fun j z => by cases z)) ⟨s, hu⟩
end
end Wh

namespace Wh
open PySem PySem.Spec PyProof.Rows L2 Wf
abbrev sPlace : Stmt := top 28
abbrev sApplyN : Stmt := top 29
def eNF (p : Nm × Ft) : PyData := .tuple [eNm p.1, eFt p.2]
theorem nm_depth : ∀ n : Nm, (eNm n).depth ≤ dN n
  | .start k => by show (PyData.tuple [.int 0, .tuple [], .int k]).depth ≤ 2; simp [PyData.depth, PyData.depthAll]
  | .put n o k => by
    have := nm_depth o
    show (PyData.tuple [.int n, eNm o, .int k]).depth ≤ dN o + 1
    simp [PyData.depth, PyData.depthAll]
    omega
theorem nm_shaped {n : Nm} (h : dN n ≤ 60) : SeqAt.shaped (eNm n) = true := by
  unfold SeqAt.shaped
  rw [nm_ok n, Bool.true_and]
  exact decide_eq_true (Nat.le_trans (nm_depth n) (by omega))
def placeOf : List (Row Tx) → Nm → Nat
  | [], _ => 0
  | r :: rs, n => if r.nm = n then 0 else placeOf rs n + 1
theorem placeOf_at : ∀ {rs : List (Row Tx)} {n : Nm}, (∃ r ∈ rs, r.nm = n) → ∃ r l m, rs = l ++ r :: m ∧ l.length = placeOf rs n ∧ r.nm = n ∧ ∀ x ∈ l, x.nm ≠ n
  | [], n, h => by obtain ⟨r, hr, _⟩ := h; cases hr
  | r :: rs, n, h => by
    unfold placeOf
    by_cases e : r.nm = n
    · rw [if_pos e]
      exact ⟨r, [], rs, rfl, rfl, e, fun x hx => by cases hx⟩
    · rw [if_neg e]
      obtain ⟨r', hr, e'⟩ := h
      have h' : ∃ r ∈ rs, r.nm = n := by
        rcases List.mem_cons.mp hr with z | z
        · rw [z] at e'; exact absurd e' e
        · exact ⟨r', z, e'⟩
      obtain ⟨r2, l, m, e1, e2, e3, e4⟩ := placeOf_at h'
      refine ⟨r2, r :: l, m, by rw [e1]; rfl, by rw [List.length_cons, e2], e3, fun x hx => ?_⟩
      rcases List.mem_cons.mp hx with z | z
      · rw [z]; exact e
      · exact e4 x z
theorem applyFate_split {n : Nat} {nm : Nm} {f : Ft} {r : Row Tx} {m : List (Row Tx)} : ∀ {l : List (Row Tx)}, r.nm = nm → (∀ x ∈ l, x.nm ≠ nm) → applyFate n nm f (l ++ r :: m) = l ++ r.turn n f.chg :: (newRows n nm r.line.kd.behind 0 f.behind ++ m)
  | [], e, _ => by
    show applyFate n nm f (r :: m) = _
    unfold applyFate
    rw [if_pos e]
    rfl
  | x :: l, e, h => by
    show applyFate n nm f (x :: (l ++ r :: m)) = _
    unfold applyFate
    rw [if_neg (h x List.mem_cons_self), applyFate_split e fun y hy => h y (List.mem_cons_of_mem _ hy)]
    rfl
def spPlace : Sp := fun vs H Q _ => ∃ (a : Addr) (v : V) (rs : List (Row Tx)) (n : Nm), vs = [.ref a, v] ∧ Lst H a (rs.map eRow) ∧ Tp H v (eNm n) ∧ (∀ r ∈ rs, dN r.nm ≤ 60) ∧ dN n ≤ 60 ∧ rs.length ≤ 900 ∧ (∃ r ∈ rs, r.nm = n) ∧ Q (vN (placeOf rs n)) H
/-- all but a stays -/
def KeepA (a : Addr) (H H' : Hp) : Prop := ∀ b o, H b = some o → b ≠ a → H' b = some o
theorem KeepA.refl (a : Addr) (H : Hp) : KeepA a H H := fun _ _ h _ => h
theorem KeepA.trans {a : Addr} {H H1 H2 : Hp} (x : KeepA a H H1) (y : KeepA a H1 H2) : KeepA a H H2 := fun b o h n => y b o (x b o h n) n
theorem KeepA.of {a : Addr} {H H1 : Hp} (s : Same H H1) : KeepA a H H1 := fun b o h _ => s b o h
theorem KeepA.upd {a : Addr} {H : Hp} {o : HO} : KeepA a H (L2.upd H a o) := fun b u h n => by rw [upd_ne n]; exact h
theorem KeepA.tk {a : Addr} {H H1 : Hp} {ds : List PyData} (x : KeepA a H H1) (h : Lst H a ds) : Tk H H1 := fun b xs e => x b _ e fun z => by
  obtain ⟨ys, h1, _⟩ := h
  rw [z, h1] at e
  cases e
theorem newRows_nm {n : Nat} {of : Nm} {kd : Kd} : ∀ {k : Nat} {ts : List Tx} {r : Row Tx}, r ∈ newRows n of kd k ts → ∃ j, r.nm = .put n of j
  | _, [], _, h => by cases h
  | k, t :: ts, r, h => by
    unfold newRows at h
    rcases List.mem_cons.mp h with z | z
    · rw [z]; exact ⟨k, rfl⟩
    · exact newRows_nm z
theorem newRows_len {n : Nat} {of : Nm} {kd : Kd} : ∀ {k : Nat} {ts : List Tx}, (newRows n of kd k ts).length = ts.length
  | _, [] => rfl
  | k, t :: ts => by rw [newRows, List.length_cons, List.length_cons, newRows_len]
theorem turn_nm (n : Nat) (c : Chg Tx) (r : Row Tx) : (r.turn n c).nm = r.nm := by cases c <;> rfl
theorem applyFate_props {n : Nat} {nm : Nm} {f : Ft} {rs : List (Row Tx)} (h : ∃ r ∈ rs, r.nm = nm) (hd : ∀ r ∈ rs, dN r.nm ≤ 60) (hn : dN nm ≤ 59) : (∀ x ∈ rs, ∃ r ∈ applyFate n nm f rs, r.nm = x.nm) ∧ (∀ r ∈ applyFate n nm f rs, dN r.nm ≤ 60) ∧
    (applyFate n nm f rs).length = rs.length + f.behind.length := by
  obtain ⟨r, l, m, e1, e2, e3, e4⟩ := placeOf_at h
  rw [e1] at hd ⊢
  rw [applyFate_split e3 e4]
  refine ⟨fun x hx => ?_, fun x hx => ?_, ?_⟩
  · rcases List.mem_append.mp hx with z | z
    · exact ⟨x, List.mem_append_left _ z, rfl⟩
    · rcases List.mem_cons.mp z with z | z
      · exact ⟨_, List.mem_append_right _ List.mem_cons_self, by rw [turn_nm, z]⟩
      · exact ⟨x, List.mem_append_right _ (List.mem_cons_of_mem _ (List.mem_append_right _ z)), rfl⟩
  · rcases List.mem_append.mp hx with z | z
    · exact hd x (List.mem_append_left _ z)
    · rcases List.mem_cons.mp z with z | z
      · rw [z, turn_nm, e3]; omega
      · rcases List.mem_append.mp z with z | z
        · obtain ⟨j, e⟩ := newRows_nm z
          rw [e]
          show dN nm + 1 ≤ 60
          omega
        · exact hd x (List.mem_append_right _ (List.mem_cons_of_mem _ z))
  · simp only [List.length_append, List.length_cons, newRows_len]
    omega
theorem applyNamed_props {n : Nat} : ∀ {nm : List (Nm × Ft)} {rs : List (Row Tx)}, (∀ p ∈ nm, ∃ r ∈ rs, r.nm = p.1) → (∀ r ∈ rs, dN r.nm ≤ 60) → (∀ p ∈ nm, dN p.1 ≤ 59) → (∀ p ∈ nm, p.2.behind.length ≤ 2) →
    (∀ x ∈ rs, ∃ r ∈ applyNamed n nm rs, r.nm = x.nm) ∧ (∀ r ∈ applyNamed n nm rs, dN r.nm ≤ 60) ∧ (applyNamed n nm rs).length ≤ rs.length + 2 * nm.length
  | [], rs, _, h2, _, _ => ⟨fun x hx => ⟨x, hx, rfl⟩, h2, Nat.le_add_right _ _⟩
  | p :: nm, rs, h1, h2, h3, h4 => by
    obtain ⟨a1, a2, a3⟩ := applyFate_props (n := n) (f := p.2) (h1 p List.mem_cons_self) h2 (h3 p List.mem_cons_self)
    have ih := applyNamed_props (n := n) (nm := nm) (rs := applyFate n p.1 p.2 rs) (fun q hq => by
      obtain ⟨r, hr, er⟩ := h1 q (List.mem_cons_of_mem _ hq)
      obtain ⟨r', hr', er'⟩ := a1 r hr
      exact ⟨r', hr', er'.trans er⟩) a2 (fun q hq => h3 q (List.mem_cons_of_mem _ hq)) fun q hq => h4 q (List.mem_cons_of_mem _ hq)
    obtain ⟨b1, b2, b3⟩ := ih
    refine ⟨fun x hx => ?_, b2, ?_⟩
    · obtain ⟨r, hr, er⟩ := a1 x hx
      obtain ⟨r', hr', er'⟩ := b1 r hr
      exact ⟨r', hr', er'.trans er⟩
    · have e1 : applyNamed n (p :: nm) rs = applyNamed n nm (applyFate n p.1 p.2 rs) := rfl
      have := h4 p List.mem_cons_self
      rw [e1, List.length_cons]
      omega
theorem applyNamed_snoc (n : Nat) (l : List (Nm × Ft)) (p : Nm × Ft) (rs : List (Row Tx)) : applyNamed n (l ++ [p]) rs = applyFate n p.1 p.2 (applyNamed n l rs) := by
  unfold applyNamed
  rw [List.foldl_append]
  rfl
def spApplyN : Sp := fun vs H Q _ => ∃ (a : Addr) (n : Nat) (nl : Addr) (rs : List (Row Tx)) (nm : List (Nm × Ft)), vs = [.ref a, vN n, .ref nl] ∧ Lst H a (rs.map eRow) ∧ Lst H nl (nm.map eNF) ∧ a ≠ nl ∧ (∀ p ∈ nm, ∃ r ∈ rs, r.nm = p.1) ∧ (∀ r ∈ rs, dN r.nm ≤ 60) ∧ (∀ p ∈ nm, dN p.1 ≤ 59) ∧
  rs.length + 2 * nm.length ≤ 800 ∧ (∀ p ∈ nm, p.2.behind.length ≤ 2) ∧ ∀ H', KeepA a H H' → Lst H' a ((applyNamed n nm rs).map eRow) → Q .non H'
section
variable {P : Program} {w : World} {K : PySem.W.Frag} {mg : Str → Option Value} {base : Heap}
theorem row_read {H : Hp} {v : V} {r : Row Tx} (h : Tp H v (eRow r)) : ∃ (a x y : Addr) (xs : List V), v = .ref a ∧ H a = some (.tup [.ref x, .bl r.up, .ref y, .int r.from_]) ∧ Tp H (.ref x) (eNm r.nm) ∧ Tp H (.ref y) (eLn r.line) ∧ H y = some (.tup [.str (kdS r.line.kd), .str r.line.tx.s]) := by
  obtain ⟨a, x, u, y, z, rfl, ha, hx, hu, hy, hz⟩ := h.four
  obtain rfl := hu.blE
  obtain rfl := hz.intE
  obtain ⟨b, y1, y2, rfl, hb, g1, g2⟩ := (show Tp H y (.tuple [.str (kdS r.line.kd), .str r.line.tx.s]) from hy).two
  obtain rfl := g1.strE
  obtain rfl := g2.strE
  have : ∃ c, x = .ref c := by
    cases hn : r.nm with
    | start k => rw [hn] at hx; obtain ⟨c, _, rfl, _⟩ := Tp.tupE (ds := [.int 0, .tuple [], .int k]) hx; exact ⟨c, rfl⟩
    | put m o k => rw [hn] at hx; obtain ⟨c, _, rfl, _⟩ := Tp.tupE (ds := [.int m, eNm o, .int k]) hx; exact ⟨c, rfl⟩
  obtain ⟨c, rfl⟩ := this
  exact ⟨a, c, b, [], rfl, ha, hx, hy, hb⟩
theorem ixN_ok {n j : Nat} (h : j < n) : ixN n (j : Int) = some j := by
  unfold ixN
  rw [if_pos (by omega), if_pos (by omega)]
  simp
theorem lst_set {H : Hp} {a : Addr} {ys : List V} {ds m : List (Row Tx)} {r y : Row Tx} {v : V} (ha : H a = some (.lst ys)) (t : Tps H ys ((ds ++ r :: m).map eRow)) (hv : Tp H v (eRow y)) : Lst (L2.upd H a (.lst (ys.set ds.length v))) a ((ds ++ y :: m).map eRow) := by
  refine ⟨_, upd_same, ?_⟩
  have e : ((ds ++ r :: m).map eRow).set ds.length (eRow y) = (ds ++ y :: m).map eRow := by
    rw [List.map_append, List.set_append_right _ _ (by rw [List.length_map]; exact Nat.le_refl _), List.length_map, Nat.sub_self, List.map_append]
    rfl
  rw [← e]
  exact Tps.mono (Tk.lst ha) (Tps.set _ t hv)
theorem ins_rows {l m rg : List (Row Tx)} {r x : Row Tx} {k : Nat} (hk : rg.length = k) :
    ((l ++ r :: (rg ++ m)).map eRow).take ((l.length : Int) + 1 + (k : Int)).toNat ++ [eRow x] ++ ((l ++ r :: (rg ++ m)).map eRow).drop ((l.length : Int) + 1 + (k : Int)).toNat = (l ++ r :: ((rg ++ [x]) ++ m)).map eRow := by
  have e : ((l.length : Int) + 1 + (k : Int)).toNat = (l ++ r :: rg).length := by
    rw [List.length_append, List.length_cons, hk]
    omega
  have e2 : l ++ r :: (rg ++ m) = (l ++ r :: rg) ++ m := by simp
  rw [e, e2, ← List.map_take, ← List.map_drop, List.take_left, List.drop_left]
  simp
theorem newRows_snoc (n : Nat) (of : Nm) (kd : Kd) (t : Tx) : ∀ (k : Nat) (ts : List Tx), newRows n of kd k (ts ++ [t]) = newRows n of kd k ts ++ [⟨.put n of (k + ts.length), true, ⟨kd, t⟩, n⟩]
  | _, [] => rfl
  | k, x :: ts => by
    rw [List.cons_append, newRows, newRows_snoc n of kd t (k + 1) ts, newRows, List.cons_append, List.length_cons]
    rw [show k + 1 + ts.length = k + (ts.length + 1) by omega]
theorem scPlace : FnScope ["_law_rows", "_law_name", "_law_at"] ["_law_rows", "_law_name"] (defScope sPlace) := ⟨rfl, rfl, rfl, by decide +kernel, rfl, by decide +kernel, by decide +kernel⟩
theorem ok_place {f : Addr} {fd : FuncData} (F : FnD K "_law_place" "_law_place" sPlace f fd) (T : Bt mg) (hm : mg "_law_place" = some (.ref f)) : Fn P w K mg base CX0 1 "_law_place" spPlace := by
  refine ⟨f, fd, ["_law_rows", "_law_name"], fok F scPlace (fun vs H Q E h => ?_) (fun cdv A outer s H vs Q E hr h => ?_), hm, F.kp, F.bindsN fun _ _ _ _ _ _ us hl => match us, hl with | [_, _], _ => rfl⟩
  · obtain ⟨a, v, rs, n, rfl, _⟩ := h
    rfl
  · obtain ⟨a, v, rs, n, rfl, ⟨xs, ha, tx⟩, hv, hd, hn, hlen, hex, q⟩ := h
    refine ⟨_, pss_cons (ps_for PassesOwn.never rfl (pi_range1 rfl T.range (pa_cons (pe_callB call_len_seq (by rfl) T.len PySem.boot_len (pa_cons (pv 0) pa_nil)) pa_nil)) (pg_name (i := 2) scPlace.nd rfl (.inl rfl))
        (pss_one (ps_if (pt_cmpR (op_eqD hr.units) (pe_ix ix_tup (pe_ix ix_list (pv 0) (pv 2) (fun _ _ => rfl)) pe_int (fun _ _ => rfl)) (pv 1) (nomark _))
            (pss_one (ps_ret (pv 2)))
            (pss_nil))))
      (pss_one (ps_ret (pe_un un_neg pe_int))), ?_⟩
    obtain ⟨r0, l0, m0, e0, el, en, eno⟩ := placeOf_at hex
    have hxl : xs.length = rs.length := by rw [tx.len, List.length_map]
    have er : rs.length = l0.length + 1 + m0.length := by rw [e0, List.length_append, List.length_cons]; omega
    refine ⟨_, rfl, a, _, rfl, .inl (SqL.of ha), xs.length, rfl, by omega, by omega, for_range (lo := 0) (n := xs.length) (fun i σ H' => H' = H ∧ (∃ u, σ = [some (.ref a), some v, u]) ∧ i ≤ l0.length) ⟨rfl, ⟨_, rfl⟩, Nat.zero_le _⟩ ?_ ?_⟩
    · rintro i σ H1 hi ⟨rfl, ⟨u, rfl⟩, hle⟩
      have hil : i < rs.length := by omega
      have hz : rs[i]? = some rs[i] := List.getElem?_eq_getElem hil
      obtain ⟨v1, h1, t1⟩ := tx.get (i := i) (d := eRow rs[i]) (by rw [List.getElem?_map, hz]; rfl)
      obtain ⟨b, x, y, _, rfl, hb, hx, _, _⟩ := row_read t1
      refine ⟨_, rfl, _, rfl, a, _, _, _, rfl, rfl, SqL.of ha, at_of (j := i) (by omega) h1, b, _, 0, _, rfl, rfl, .inl (.of hb), at_of (j := 0) rfl rfl, _, rfl, eNm rs[i].nm, eNm n, hx.dp, hv.dp, nm_shaped (hd _ (List.getElem_mem hil)), nm_shaped hn, _, rfl, ?_⟩
      rw [eqv_nm]
      by_cases lt : i < l0.length
      · have e1 : rs[i] = l0[i] := by
          have : rs[i]? = l0[i]? := by rw [e0, List.getElem?_append_left lt]
          rw [hz, List.getElem?_eq_getElem lt] at this
          exact Option.some.inj this
        have e2 : decide (rs[i].nm = n) = false := decide_eq_false (by rw [e1]; exact eno _ (List.getElem_mem lt))
        rw [e2]
        exact iteF ⟨rfl, ⟨_, rfl⟩, lt⟩
      · have ei : i = l0.length := by omega
        have e1 : rs[i] = r0 := by
          have : rs[i]? = some r0 := by rw [e0, ei, List.getElem?_append_right (Nat.le_refl _), Nat.sub_self]; rfl
          rw [hz] at this
          exact Option.some.inj this
        have e2 : decide (rs[i].nm = n) = true := decide_eq_true (by rw [e1]; exact en)
        rw [e2]
        refine iteT ⟨_, rfl, ?_⟩
        rw [← el, ← ei] at q
        have e3 : (0 : Int) + (i : Int) = (i : Int) := Int.zero_add _
        rw [e3]
        exact q
    · rintro σ H1 ⟨rfl, ⟨u, rfl⟩, hle⟩
      omega
theorem scApplyN : FnScope ["_law_rows", "_law_number", "_law_named", "_law_name", "_law_fate", "_law_at", "_law_row", "_law_line", "_law_kind", "_law_k"] ["_law_rows", "_law_number", "_law_named"] (defScope sApplyN) := ⟨rfl, rfl, rfl, by decide +kernel, rfl, by decide +kernel, by decide +kernel⟩
theorem ok_applyn {f : Addr} {fd : FuncData} (F : FnD K "_law_apply_named" "_law_apply_named" sApplyN f fd) (T : Bt mg) (hm : mg "_law_apply_named" = some (.ref f)) (GPc : Fn P w K mg base CX0 1 "_law_place" spPlace) : Fn P w K mg base CX0 2 "_law_apply_named" spApplyN := by
  refine ⟨f, fd, ["_law_rows", "_law_number", "_law_named"], fok F scApplyN (fun vs H Q E h => ?_) (fun cdv A outer s H vs Q E hr h => ?_), hm, F.kp, F.bindsN fun _ _ _ _ _ _ us hl => match us, hl with | [_, _, _], _ => rfl⟩
  · obtain ⟨a, n, nl, rs, nm, rfl, _⟩ := h
    rfl
  · obtain ⟨a, n, nl, rs, nm, rfl, hA, hN, hne, hex, hd, hdn, hlen, hbh, q⟩ := h
    refine ⟨_, pss_one (ps_for PassesOwn.never rfl (pi_list (pv 2)) (pg_tup rfl (pgs_cons (pg_name (i := 3) scApplyN.nd rfl (.inl rfl)) (pgs_cons (pg_name (i := 4) scApplyN.nd rfl (.inl rfl)) pgs_nil)))
        (pss_cons (ps_set (i := 5) scApplyN.nd rfl (.inl rfl) (pe_fn GPc hr (by decide) pass0 (pa_cons (pv 0) (pa_cons (pv 3) pa_nil))))
          (pss_cons (ps_set (i := 6) scApplyN.nd rfl (.inl rfl) (pe_ix ix_list (pv 0) (pv 5) (fun _ _ => rfl)))
          (pss_cons (ps_set (i := 7) scApplyN.nd rfl (.inl rfl) (pe_ix ix_tup (pv 6) pe_int (fun _ _ => rfl)))
          (pss_cons (ps_if (pt_cmpR op_eq (pe_ix ix_tup (pe_ix ix_tup (pv 4) pe_int (fun _ _ => rfl)) pe_int (fun _ _ => rfl)) pe_str (nomark _))
            (pss_one (ps_asg (pe_tup (pa_cons (pe_ix ix_tup (pv 6) pe_int (fun _ _ => rfl)) (pa_cons pe_bl (pa_cons (pv 7) (pa_cons (pe_ix ix_tup (pv 6) pe_int (fun _ _ => rfl)) pa_nil))))) (pg_sub (pv 0) (pv 5) set_list)))
            (pss_nil))
          (pss_cons (ps_if (pt_cmpR op_eq (pe_ix ix_tup (pe_ix ix_tup (pv 4) pe_int (fun _ _ => rfl)) pe_int (fun _ _ => rfl)) pe_str (nomark _))
            (pss_one (ps_asg (pe_tup (pa_cons (pe_ix ix_tup (pv 6) pe_int (fun _ _ => rfl)) (pa_cons pe_bl (pa_cons (pe_tup (pa_cons (pe_ix ix_tup (pv 7) pe_int (fun _ _ => rfl)) (pa_cons (pe_ix ix_tup (pe_ix ix_tup (pv 4) pe_int (fun _ _ => rfl)) pe_int (fun _ _ => rfl)) pa_nil))) (pa_cons (pv 1) pa_nil))))) (pg_sub (pv 0) (pv 5) set_list)))
            (pss_nil))
          (pss_cons (ps_set (i := 8) scApplyN.nd rfl (.inl rfl) (pe_ifExp (pt_cmpR op_eq (pe_ix ix_tup (pv 7) pe_int (fun _ _ => rfl)) pe_str (nomark _)) pe_str pe_str))
          (pss_one (ps_for PassesOwn.never rfl (pi_range1 rfl T.range (pa_cons (pe_callB call_len_seq (by rfl) T.len PySem.boot_len (pa_cons (pe_ix ix_tup (pv 4) pe_int (fun _ _ => rfl)) pa_nil)) pa_nil)) (pg_name (i := 9) scApplyN.nd rfl (.inl rfl))
            (pss_one (ps_expr (pe_bm PySem.F.plainAttrs_list PySem.F.slot_list_insert PySem.F.type_list_insert mt_insert (pv 0) (pa_cons (pe_op op_add (pe_op op_add (pv 5) pe_int) (pv 9)) (pa_cons (pe_tup (pa_cons (pe_tup (pa_cons (pv 1) (pa_cons (pv 3) (pa_cons (pv 9) pa_nil)))) (pa_cons pe_bl (pa_cons (pe_tup (pa_cons (pv 8) (pa_cons (pe_ix ix_tup (pe_ix ix_tup (pv 4) pe_int (fun _ _ => rfl)) (pv 9) (fun _ _ => rfl)) pa_nil))) (pa_cons (pv 1) pa_nil))))) pa_nil)))))))))))))), ?_⟩
    obtain ⟨xs, hnl, tn⟩ := hN
    have hxl : xs.length = nm.length := by rw [tn.len, List.length_map]
    have hpre : ∀ i, (∀ p ∈ nm.take i, ∃ r ∈ rs, r.nm = p.1) := fun i p hp => hex p (List.mem_of_mem_take hp)
    refine ⟨_, rfl, nl, rfl, ⟨_, SqL.of hnl⟩, for_it (walk_list (xs := xs)) (fun i σ H' => (∃ u3 u4 u5 u6 u7 u8 u9, σ = [some (.ref a), some (vN n), some (.ref nl), u3, u4, u5, u6, u7, u8, u9]) ∧ KeepA a H H' ∧ Lst H' a ((applyNamed n (nm.take i) rs).map eRow))
      ⟨⟨_, _, _, _, _, _, _, rfl⟩, KeepA.refl a H, by rw [List.take_zero]; exact hA⟩ (fun i σ H' _ ⟨_, k, _⟩ => SqL.of (k _ _ hnl (Ne.symm hne))) ?_ ?_⟩
    · rintro i x σ H1 H2 hi ⟨⟨u3, u4, u5, u6, u7, u8, u9, rfl⟩, k1, ys, hy, ty⟩ ⟨rfl, hx⟩
      have hil : i < nm.length := by omega
      have hz : nm[i]? = some nm[i] := List.getElem?_eq_getElem hil
      obtain ⟨d0, e0, t0⟩ := tn.at hx
      rw [List.getElem?_map, hz] at e0
      cases e0
      have tk1 : Tk H H2 := k1.tk hA
      obtain ⟨T0, v1, v2, rfl, hT0, tv1, tv2⟩ := (Tp.mono tk1 t0).two
      obtain ⟨p1, p2, p3⟩ := applyNamed_props (hpre i) hd (fun p hp => hdn p (List.mem_of_mem_take hp)) (fun p hp => hbh p (List.mem_of_mem_take hp))
      obtain ⟨x0, hx0, ex0⟩ := hex _ (List.getElem_mem hil)
      have pex := p1 x0 hx0
      rw [ex0] at pex
      have pl : (nm.take i).length ≤ i := by rw [List.length_take]; omega
      refine ⟨T0, _, rfl, .inl (.of hT0), rfl, _, _, rfl, _, _, rfl, rfl, ?_⟩
      refine ⟨_, rfl, _, rfl, a, v1, _, _, rfl, ⟨ys, hy, ty⟩, tv1, p2, Nat.le_succ_of_le (hdn _ (List.getElem_mem hil)), by omega, pex, ?_⟩
      obtain ⟨r, l, m, ec, el, ern, eno⟩ := placeOf_at pex
      have hexn := applyFate_split (n := n) (f := nm[i].2) (m := m) ern eno
      rw [← ec] at hexn
      have etake : applyNamed n (nm.take (i + 1)) rs = l ++ r.turn n nm[i].2.chg :: (newRows n nm[i].1 r.line.kd.behind 0 nm[i].2.behind ++ m) := by
        rw [List.take_add_one, hz, Option.toList_some, applyNamed_snoc, hexn]
      rw [ec] at ty p3
      rw [List.length_append, List.length_cons] at p3
      obtain ⟨vr, hvr, tvr⟩ := ty.get (i := l.length) (d := eRow r) (by rw [List.map_append, List.getElem?_append_right (by rw [List.length_map]; exact Nat.le_refl _), List.length_map, Nat.sub_self]; rfl)
      obtain ⟨b, rx, ry, _, rfl, hb, hrx, hry, hb2⟩ := row_read tvr
      have hyl : ys.length = l.length + (m.length + 1) := by rw [ty.len, List.length_map, List.length_append, List.length_cons]
      rw [← el]
      refine ⟨_, rfl, _, rfl, a, _, _, _, rfl, rfl, SqL.of hy, at_of (j := l.length) rfl hvr, ?_⟩
      refine ⟨_, rfl, b, _, 2, _, rfl, rfl, .inl (.of hb), at_of (j := 2) rfl rfl, ?_⟩
      obtain ⟨c0, x0', cy, cz, rfl, hc0, _, hcy, hcz⟩ := tv2.three
      have hbeh := hbh _ (List.getElem_mem hil)
      cases hc : nm[i].2.chg
      case' keep =>
        rw [hc] at hcy
        obtain ⟨c2, xs2, rfl, hc2, t2⟩ := hcy.tupE
        obtain ⟨x1, xs1, rfl, w1, t3⟩ := t2.consE
        obtain rfl := w1.strE
        refine ⟨_, rfl, c0, _, 1, _, rfl, rfl, .inl (.of hc0), at_of (j := 1) rfl rfl, c2, _, 0, _, rfl, rfl, .inl (.of hc2), at_of (j := 0) rfl rfl, rfl, _, rfl, iteF ?_⟩
        refine ⟨_, rfl, c0, _, 1, _, rfl, rfl, .inl (.of hc0), at_of (j := 1) rfl rfl, c2, _, 0, _, rfl, rfl, .inl (.of hc2), at_of (j := 0) rfl rfl, rfl, _, rfl, iteF ?_⟩
        obtain ⟨H3, eH, hs, kp⟩ : ∃ H3, H3 = H2 ∧ Lst H3 a ((l ++ r.turn n nm[i].2.chg :: m).map eRow) ∧ KeepA a H2 H3 := ⟨_, rfl, ⟨ys, hy, by rw [hc]; exact ty⟩, KeepA.refl a H2⟩
        rw [← eH]
      case' drop =>
        rw [hc] at hcy
        obtain ⟨c2, xs2, rfl, hc2, t2⟩ := hcy.tupE
        obtain ⟨x1, xs1, rfl, w1, t3⟩ := t2.consE
        obtain rfl := w1.strE
        refine ⟨_, rfl, c0, _, 1, _, rfl, rfl, .inl (.of hc0), at_of (j := 1) rfl rfl, c2, _, 0, _, rfl, rfl, .inl (.of hc2), at_of (j := 0) rfl rfl, rfl, _, rfl, iteT ?_⟩
        refine ⟨_, rfl, b, _, 0, _, rfl, rfl, .inl (.of hb), at_of (j := 0) rfl rfl, _, rfl, _, rfl, b, _, 3, _, rfl, rfl, .inl (.of hb), at_of (j := 3) rfl rfl, szT 4 (by decide), fun w0 nw => ⟨_, rfl, _, rfl, a, ys, _, l.length, rfl, rfl, snew nw _ _ hy, ixN_ok (by omega), ?_⟩⟩
        have sw : Same H2 (L2.upd H2 w0 (.tup [.ref rx, .bl false, .ref ry, .int r.from_])) := snew nw
        have tw : Tp (L2.upd H2 w0 (.tup [.ref rx, .bl false, .ref ry, .int r.from_])) (.ref w0) (eRow (r.turn n .drop)) := Tp.mk (ds := [eNm r.nm, .bool false, eLn r.line, .int r.from_]) nw (.cons hrx (.cons (.bl _) (.cons hry (.one (.int _)))))
        have hs := lst_set (ds := l) (y := r.turn n .drop) (sw _ _ hy) (Tps.mono (Tk.of sw) ty) tw
        obtain ⟨H3, eH, hs, kp⟩ : ∃ H3, H3 = L2.upd (L2.upd H2 w0 (.tup [.ref rx, .bl false, .ref ry, .int r.from_])) a (.lst (ys.set l.length (.ref w0))) ∧ Lst H3 a ((l ++ r.turn n nm[i].2.chg :: m).map eRow) ∧ KeepA a H2 H3 := ⟨_, rfl, by rw [hc]; exact hs, (KeepA.of sw).trans KeepA.upd⟩
        have hc0' := kp _ _ hc0 (ne_of hc0 hy fun z => by cases z)
        have hc2' := kp _ _ hc2 (ne_of hc2 hy fun z => by cases z)
        rw [← eH]
        refine ⟨_, rfl, c0, _, 1, _, rfl, rfl, .inl (.of hc0'), at_of (j := 1) rfl rfl, c2, _, 0, _, rfl, rfl, .inl (.of hc2'), at_of (j := 0) rfl rfl, rfl, _, rfl, iteF ?_⟩
      case' text t =>
        rw [hc] at hcy
        obtain ⟨c2, xs2, rfl, hc2, t2⟩ := hcy.tupE
        obtain ⟨x1, xs1, rfl, w1, t3⟩ := t2.consE
        obtain ⟨x2, xs3, rfl, w2, t4⟩ := t3.consE
        obtain rfl := w1.strE
        obtain rfl := w2.strE
        refine ⟨_, rfl, c0, _, 1, _, rfl, rfl, .inl (.of hc0), at_of (j := 1) rfl rfl, c2, _, 0, _, rfl, rfl, .inl (.of hc2), at_of (j := 0) rfl rfl, rfl, _, rfl, iteF ?_⟩
        refine ⟨_, rfl, c0, _, 1, _, rfl, rfl, .inl (.of hc0), at_of (j := 1) rfl rfl, c2, _, 0, _, rfl, rfl, .inl (.of hc2), at_of (j := 0) rfl rfl, rfl, _, rfl, iteT ?_⟩
        refine ⟨_, rfl, b, _, 0, _, rfl, rfl, .inl (.of hb), at_of (j := 0) rfl rfl, _, rfl, ry, _, 0, _, rfl, rfl, .inl (.of hb2), at_of (j := 0) rfl rfl, _, rfl, c0, _, 1, _, rfl, rfl, .inl (.of hc0), at_of (j := 1) rfl rfl, c2, _, 1, _, rfl, rfl, .inl (.of hc2), at_of (j := 1) rfl rfl, szT 2 (by decide), fun z0 nz0 => ⟨_, rfl, szT 4 (by decide), fun w0 nw => ⟨_, rfl, _, rfl, a, ys, _, l.length, rfl, rfl, snew nw _ _ (snew nz0 _ _ hy), ixN_ok (by omega), ?_⟩⟩⟩
        have sz : Same H2 (L2.upd H2 z0 (.tup [.str (kdS r.line.kd), .str t.s])) := snew nz0
        have tz : Tp (L2.upd H2 z0 (.tup [.str (kdS r.line.kd), .str t.s])) (.ref z0) (eLn ⟨r.line.kd, t⟩) := Tp.mk (ds := [.str (kdS r.line.kd), .str t.s]) nz0 (.cons (.str _) (.one (.str _)))
        have sw : Same (L2.upd H2 z0 (.tup [.str (kdS r.line.kd), .str t.s])) (L2.upd (L2.upd H2 z0 (.tup [.str (kdS r.line.kd), .str t.s])) w0 (.tup [.ref rx, .bl true, .ref z0, vN n])) := snew nw
        have tw : Tp (L2.upd (L2.upd H2 z0 (.tup [.str (kdS r.line.kd), .str t.s])) w0 (.tup [.ref rx, .bl true, .ref z0, vN n])) (.ref w0) (eRow (r.turn n (.text t))) := Tp.mk (ds := [eNm r.nm, .bool true, eLn ⟨r.line.kd, t⟩, .int n]) nw (.cons (Tp.mono (Tk.of sz) hrx) (.cons (.bl _) (.cons tz (.one (.int _)))))
        have hs := lst_set (ds := l) (y := r.turn n (.text t)) (sw _ _ (sz _ _ hy)) (Tps.mono (Tk.of (sz.trans sw)) ty) tw
        obtain ⟨H3, eH, hs, kp⟩ : ∃ H3, H3 = L2.upd (L2.upd (L2.upd H2 z0 (.tup [.str (kdS r.line.kd), .str t.s])) w0 (.tup [.ref rx, .bl true, .ref z0, vN n])) a (.lst (ys.set l.length (.ref w0))) ∧ Lst H3 a ((l ++ r.turn n nm[i].2.chg :: m).map eRow) ∧ KeepA a H2 H3 := ⟨_, rfl, by rw [hc]; exact hs, (KeepA.of (sz.trans sw)).trans KeepA.upd⟩
        rw [← eH]
      all_goals
        clear eH
        have hry3 : Tp H3 (.ref ry) (eLn r.line) := Tp.mono (kp.tk ⟨ys, hy, ty⟩) hry
        have hb3 := kp _ _ hb2 (ne_of hb2 hy fun z => by cases z)
        have hc03 := kp _ _ hc0 (ne_of hc0 hy fun z => by cases z)
        have hcz3 : Tp H3 cz (eBh nm[i].2.behind) := Tp.mono (kp.tk ⟨ys, hy, ty⟩) hcz
        have hv13 : Tp H3 v1 (eNm nm[i].1) := Tp.mono (kp.tk ⟨ys, hy, ty⟩) tv1
        obtain ⟨bz, bxs, rfl, hbz, tbz⟩ := hcz3.tupE
        have bxl : bxs.length = nm[i].2.behind.length := by rw [tbz.len, List.length_map]
        refine ⟨_, rfl, ry, _, 0, _, rfl, rfl, .inl (.of hb3), at_of (j := 0) rfl rfl, rfl, _, rfl, ?_⟩
        have e0 := kd_behind r.line.kd
        obtain ⟨kb, hkb⟩ : ∃ kb, kb = r.line.kd.behind := ⟨_, rfl⟩
        rw [← hkb] at etake
        rw [e0]
        have hs0 : Lst H3 a ((l ++ r.turn n nm[i].2.chg :: (newRows n nm[i].1 kb 0 (nm[i].2.behind.take 0) ++ m)).map eRow) := by rw [List.take_zero]; exact hs
        cases hkd : r.line.kd
        case' prose =>
          have ek : kdS kb = "prose" := by rw [hkb, hkd]; rfl
          refine iteT ?_
        case' head =>
          have ek : kdS kb = "code" := by rw [hkb, hkd]; rfl
          refine iteF ?_
        case' code =>
          have ek : kdS kb = "code" := by rw [hkb, hkd]; rfl
          refine iteF ?_
        all_goals
          refine ⟨_, rfl, c0, _, 2, _, rfl, rfl, .inl (.of hc03), at_of (j := 2) rfl rfl, bz, bxs, rfl, .inr (.inl (.of hbz)), bxs.length, rfl, by omega, by omega, for_range (lo := 0) (n := bxs.length) (fun k σ H' => (∃ w9 : Option V, σ = [some (.ref a), some (vN n), some (.ref nl), some v1, some (.ref c0), some (vN l.length), some (.ref b), some (.ref ry), some (.str (kdS kb)), w9]) ∧ KeepA a H3 H' ∧
            Lst H' a ((l ++ r.turn n nm[i].2.chg :: (newRows n nm[i].1 kb 0 (nm[i].2.behind.take k) ++ m)).map eRow)) ⟨⟨_, by rw [ek]; rfl⟩, KeepA.refl a H3, hs0⟩ ?_ ?_⟩
          · rintro k σ H4 hk ⟨⟨w9, rfl⟩, k4, ys4, hy4, ty4⟩
            have e9 : (0 : Int) + (k : Int) = (k : Int) := Int.zero_add _
            rw [e9]
            have hkl : k < nm[i].2.behind.length := by rw [← bxl]; exact hk
            have hzk : nm[i].2.behind[k]? = some nm[i].2.behind[k] := List.getElem?_eq_getElem hkl
            have hbk : bxs[k]? = some (.str nm[i].2.behind[k].s) := by
              obtain ⟨v9, q1, q2⟩ := tbz.get (i := k) (d := .str nm[i].2.behind[k].s) (by rw [List.getElem?_map, hzk]; rfl)
              rw [q2.strE] at q1
              exact q1
            have tk4 : Tk H3 H4 := k4.tk hs0
            have hy4l : ys4.length = l.length + 1 + k + m.length := by
              rw [ty4.len, List.length_map, List.length_append, List.length_cons, List.length_append, newRows_len, List.length_take]
              omega
            refine ⟨_, rfl, .inl ⟨rfl, _, SqL.of hy4⟩, _, rfl, _, _, rfl, rfl, _, rfl, _, _, rfl, rfl, _, rfl, _, rfl, _, rfl, szT 3 (by decide), fun z1 nz1 => ⟨_, rfl, _, rfl, c0, _, 2, _, rfl, rfl, .inl (.of (snew nz1 _ _ (tk4 _ _ hc03))), at_of (j := 2) rfl rfl, _, rfl, bz, _, (k : Int), _, rfl, rfl, .inl (.of (snew nz1 _ _ (tk4 _ _ hbz))), at_of (j := k) rfl hbk, szT 2 (by decide), fun z2 nz2 => ⟨_, rfl, szT 4 (by decide), fun z3 nz3 => ⟨a, ys4, (l.length : Int) + 1 + (k : Int), .ref z3, rfl, rfl, snew nz3 _ _ (snew nz2 _ _ (snew nz1 _ _ hy4)), small1000 (by omega), by omega, by omega, ?_⟩⟩⟩⟩
            have s1 := snew (o := .tup [vN n, v1, vN k]) nz1
            have s2 := snew (o := .tup [.str (kdS kb), .str nm[i].2.behind[k].s]) nz2
            have s3 := snew (o := .tup [.ref z1, .bl true, .ref z2, vN n]) nz3
            have t1 : Tp (L2.upd H4 z1 (.tup [vN n, v1, vN k])) (.ref z1) (eNm (.put n nm[i].1 k)) := Tp.mk (ds := [.int n, eNm nm[i].1, .int k]) nz1 (.cons (.int _) (.cons (Tp.mono tk4 hv13) (.one (.int _))))
            have t2 := Tp.mk (xs := [.str (kdS kb), .str nm[i].2.behind[k].s]) (ds := [.str (kdS kb), .str nm[i].2.behind[k].s]) nz2 (.cons (.str _) (.one (.str _)))
            have t3 := Tp.mk (xs := [.ref z1, .bl true, .ref z2, vN n]) (ds := [eNm (.put n nm[i].1 k), .bool true, eLn ⟨kb, nm[i].2.behind[k]⟩, .int n]) nz3 (.cons (Tp.mono (Tk.of s2) t1) (.cons (.bl _) (.cons t2 (.one (.int _)))))
            refine ⟨⟨some (vN k), rfl⟩, k4.trans ((KeepA.of (s1.trans (s2.trans s3))).trans KeepA.upd), _, upd_same, ?_⟩
            have ty5 := Tps.mono (Tk.of (s1.trans (s2.trans s3))) ty4
            have ins := ((ty5.take ((l.length : Int) + 1 + (k : Int)).toNat).app (.one t3)).app (ty5.drop ((l.length : Int) + 1 + (k : Int)).toNat)
            rw [show PyData.tuple [eNm (.put n nm[i].1 k), .bool true, eLn ⟨kb, nm[i].2.behind[k]⟩, .int n] = eRow ⟨.put n nm[i].1 k, true, ⟨kb, nm[i].2.behind[k]⟩, n⟩ from rfl, ins_rows (by rw [newRows_len, List.length_take]; omega)] at ins
            have en5 : newRows n nm[i].1 kb 0 (nm[i].2.behind.take (k + 1)) = newRows n nm[i].1 kb 0 (nm[i].2.behind.take k) ++ [⟨.put n nm[i].1 k, true, ⟨kb, nm[i].2.behind[k]⟩, n⟩] := by
              rw [List.take_add_one, hzk, Option.toList_some, newRows_snoc, List.length_take, show 0 + min k nm[i].2.behind.length = k by omega]
            rw [en5]
            exact Tps.mono (Tk.lst (s3 _ _ (s2 _ _ (s1 _ _ hy4)))) ins
          · rintro σ H4 ⟨⟨w9, rfl⟩, k4, hl4⟩
            rw [bxl, List.take_length] at hl4
            refine ⟨⟨_, _, _, _, _, _, _, rfl⟩, k1.trans (kp.trans k4), ?_⟩
            rw [etake]
            exact hl4
    · rintro σ H1 ⟨⟨u3, u4, u5, u6, u7, u8, u9, rfl⟩, k1, hl⟩
      rw [hxl, List.take_length] at hl
      exact q H1 k1 hl
end
end Wh

namespace Wh
open PySem PySem.Spec PyProof.Rows L2 Wf
abbrev LC0 := LCh Tx
def LC (H : Hp) (v : V) (c : LC0) : Prop := ∃ a nl : Addr, v = .ref a ∧ H a = some (.tup [vN c.num, .str c.author.s, .bl c.stands, .ref nl]) ∧ Lst H nl (c.named.map eNF)
structure LCs (H : Hp) (a : Addr) (cs : List LC0) : Prop where
  ex : ∃ xs : List V, H a = some (.lst xs) ∧ xs.length = cs.length ∧ ∀ (j : Nat) (v : V) (c : LC0), xs[j]? = some v → cs[j]? = some c → LC H v c
theorem LC.same {H H1 : Hp} {v : V} {c : LC0} (s : Same H H1) (h : LC H v c) : LC H1 v c := by
  obtain ⟨a, nl, e, h1, ys, h2, h3⟩ := h
  exact ⟨a, nl, e, s _ _ h1, ys, s _ _ h2, Tps.mono (Tk.of s) h3⟩
theorem LCs.same {H H1 : Hp} {a : Addr} {cs : List LC0} (s : Same H H1) (h : LCs H a cs) : LCs H1 a cs := by
  obtain ⟨xs, h1, h2, h3⟩ := h.ex
  exact ⟨xs, s _ _ h1, h2, fun j v c e1 e2 => (h3 j v c e1 e2).same s⟩
theorem rep_at : ∀ {cs : List LC0} {rs : List (Row Tx)} {i : Nat} {c : LC0}, RepOk rs cs → cs[i]? = some c → c.stands = true → ∀ p ∈ c.named, ∃ r ∈ replayFrom rs (cs.take i), r.nm = p.1
  | [], _, _, _, _, e, _ => by cases e
  | c0 :: cs, rs, 0, c, h, e, hs => by
    cases e
    exact h.1 hs
  | c0 :: cs, rs, i + 1, c, h, e, hs => by
    rw [List.getElem?_cons_succ] at e
    exact rep_at (rs := if c0.stands = true then applyNamed c0.num c0.named rs else rs) h.2 e hs
theorem replay_snoc (rs : List (Row Tx)) (cs : List LC0) (c : LC0) : replayFrom rs (cs ++ [c]) = if c.stands then applyNamed c.num c.named (replayFrom rs cs) else replayFrom rs cs := by
  unfold replayFrom
  rw [List.foldl_append]
  rfl
def nSum (cs : List LC0) : Nat := (cs.map fun c => c.named.length).sum
theorem nSum_app (a b : List LC0) : nSum (a ++ b) = nSum a + nSum b := by
  unfold nSum
  rw [List.map_append, List.sum_append]
theorem nSum_one (c : LC0) : nSum [c] = c.named.length := by
  unfold nSum
  simp
theorem replay_props {rs : List (Row Tx)} : ∀ {cs : List LC0} {i : Nat}, RepOk rs cs → (∀ r ∈ rs, dN r.nm ≤ 60) → (∀ c ∈ cs, ∀ p ∈ c.named, dN p.1 ≤ 59 ∧ p.2.behind.length ≤ 2) → i ≤ cs.length →
    (∀ r ∈ replayFrom rs (cs.take i), dN r.nm ≤ 60) ∧ (replayFrom rs (cs.take i)).length ≤ rs.length + 2 * nSum (cs.take i) := by
  intro cs i
  induction i with
  | zero => intro _ h _ _; rw [List.take_zero]; exact ⟨h, Nat.le_add_right _ _⟩
  | succ i ih =>
    intro h h1 h2 hi
    obtain ⟨a1, a2⟩ := ih h h1 h2 (Nat.le_of_succ_le hi)
    have hz : cs[i]? = some cs[i] := List.getElem?_eq_getElem (by omega)
    have et : cs.take (i + 1) = cs.take i ++ [cs[i]] := by rw [List.take_add_one, hz]; rfl
    have es : nSum (cs.take (i + 1)) = nSum (cs.take i) + cs[i].named.length := by
      rw [et, nSum_app, nSum_one]
    rw [es, et, replay_snoc]
    cases hs : cs[i].stands with
    | false =>
      rw [if_neg (by decide)]
      exact ⟨a1, by omega⟩
    | true =>
      rw [if_pos rfl]
      have := applyNamed_props (n := cs[i].num) (rep_at h hz hs) a1 (fun p hp => (h2 _ (List.getElem_mem (by omega)) p hp).1) fun p hp => (h2 _ (List.getElem_mem (by omega)) p hp).2
      exact ⟨this.2.1, by have := this.2.2; omega⟩
theorem nSum_take (cs : List LC0) (i : Nat) : nSum (cs.take i) ≤ nSum cs := by
  have : nSum cs = nSum (cs.take i) + nSum (cs.drop i) := by
    rw [← nSum_app, List.take_append_drop]
  omega
theorem nSum_mem {cs : List LC0} {c : LC0} (h : c ∈ cs) : c.named.length ≤ nSum cs := by
  induction cs with
  | nil => cases h
  | cons d r ih =>
    rw [show d :: r = [d] ++ r from rfl, nSum_app, nSum_one]
    rcases List.mem_cons.mp h with e | e
    · rw [e]; omega
    · have := ih e
      omega
abbrev sReplay : Stmt := top 30
abbrev sHang : Stmt := top 31
abbrev sHolder : Stmt := top 32
def upRows (doc : List Ln) (cs : List LC0) : List (Row Tx) := (replayFrom (startRows doc) cs).filter fun r => r.up
structure RepD (doc : List Ln) (cs : List LC0) : Prop where
  rep : RepOk (startRows doc) cs
  dep : ∀ c ∈ cs, ∀ p ∈ c.named, dN p.1 ≤ 59 ∧ p.2.behind.length ≤ 2
  few : doc.length + 2 * nSum cs ≤ 600
def spReplay : Sp := fun vs H Q _ => ∃ (d ca : Addr) (doc : List Ln) (cs : List LC0), vs = [.ref d, .ref ca] ∧ Tp H (.ref d) (.tuple (doc.map eLn)) ∧ LCs H ca cs ∧ RepD doc cs ∧ ∀ H' a, Same H H' → H a = none → Lst H' a ((upRows doc cs).map eRow) → Q (.ref a) H'
theorem start_at (doc : List Ln) {k : Nat} {l : Ln} (h : doc[k]? = some l) : (startRows doc)[k]? = some ⟨.start k, true, l, 0⟩ := by
  unfold startRows
  rw [List.getElem?_map, List.getElem?_zipIdx, h]
  simp
theorem start_len (doc : List Ln) : (startRows doc).length = doc.length := by unfold startRows; simp
theorem start_dep (doc : List Ln) : ∀ r ∈ startRows doc, dN r.nm ≤ 60 := by
  intro r hr
  unfold startRows at hr
  obtain ⟨p, _, rfl⟩ := List.mem_map.mp hr
  show 2 ≤ 60
  decide
section
variable {P : Program} {w : World} {K : PySem.W.Frag} {mg : Str → Option Value} {base : Heap}
theorem scReplay : FnScope ["_law_document", "_law_changes", "_law_rows", "_law_k", "_law_change_here", "_law_row"] ["_law_document", "_law_changes"] (defScope sReplay) := ⟨rfl, rfl, rfl, by decide +kernel, rfl, by decide +kernel, by decide +kernel⟩
theorem ok_replay {f : Addr} {fd : FuncData} (F : FnD K "_law_replay" "_law_replay" sReplay f fd) (T : Bt mg) (hm : mg "_law_replay" = some (.ref f)) (GAN : Fn P w K mg base CX0 2 "_law_apply_named" spApplyN) : Fn P w K mg base CX0 3 "_law_replay" spReplay := by
  refine ⟨f, fd, ["_law_document", "_law_changes"], fok F scReplay (fun vs H Q E h => ?_) (fun cdv A outer s H vs Q E hr h => ?_), hm, F.kp, F.bindsN fun _ _ _ _ _ _ us hl => match us, hl with | [_, _], _ => rfl⟩
  · obtain ⟨d, ca, doc, cs, rfl, _⟩ := h
    rfl
  · obtain ⟨d, ca, doc, cs, rfl, hd, hcs, rd, q⟩ := h
    refine ⟨_, pss_cons (ps_setLc (i := 2) (own := [("_law_k", 3)]) (g := gName 3) (tt := tYes) (te := tTup (tCons (tTup (tCons (tC (.int 0)) (tCons (tTup tNil) (tCons (tVar 3) tNil)))) (tCons (tC (.bl true)) (tCons (tOp (rIxT K) (tVar 0) (tVar 3)) (tCons (tC (.int 0)) tNil))))) rfl scReplay.nd rfl rfl (sw_true rfl rfl rfl (by decide +kernel)) (pi_range1 rfl T.range (pa_cons (pe_callB call_len_seq (by rfl) T.len PySem.boot_len (pa_cons (pv 0) pa_nil)) pa_nil)) (blkOk_by (own := [("_law_k", 3)]) (N := ["_law_document", "_law_changes", "_law_rows", "_law_k", "_law_change_here", "_law_row"]) (sc := defScope sReplay) (by decide +kernel)) (fun _ _ _ _ _ => pg_name (i := 3) scReplay.nd rfl (.inl rfl)) (fun _ _ _ _ _ => pts_nil) (fun _ _ _ _ _ => pe_tup (pa_cons (pe_tup (pa_cons pe_int (pa_cons (pe_tup pa_nil) (pa_cons (pv 3) pa_nil)))) (pa_cons pe_bl (pa_cons (pe_ix ix_tup (pv 0) (pv 3) (fun _ _ => rfl)) (pa_cons pe_int pa_nil))))))
      (pss_cons (ps_for PassesOwn.never rfl (pi_list (pv 1)) (pg_name (i := 4) scReplay.nd rfl (.inl rfl))
        (pss_one (ps_if (pt_val (pe_ix ix_tup (pv 4) pe_int (fun _ _ => rfl)))
            (pss_one (ps_expr (pe_fn GAN hr (by decide) pass0 (pa_cons (pv 2) (pa_cons (pe_ix ix_tup (pv 4) pe_int (fun _ _ => rfl)) (pa_cons (pe_ix ix_tup (pv 4) pe_int (fun _ _ => rfl)) pa_nil))))))
            (pss_nil))))
      (pss_one (ps_ret (pe_lc (own := [("_law_row", 5)]) (g := gName 5) (tt := tB (tOp (rIxT K) (tVar 5) (tC (.int 1)))) rfl scReplay.nd (pi_list (pv 2)) (blkOk_by (own := [("_law_row", 5)]) (N := ["_law_document", "_law_changes", "_law_rows", "_law_k", "_law_change_here", "_law_row"]) (sc := defScope sReplay) (by decide +kernel)) (fun _ _ _ _ _ => pg_name (i := 5) scReplay.nd rfl (.inl rfl)) (fun _ _ _ _ _ => pts_one (pt_val (pe_ix ix_tup (pv 5) pe_int (fun _ _ => rfl)))) (fun _ _ _ _ _ => pv 5))))), ?_⟩
    obtain ⟨d', dx, e0, hdx, tdx⟩ := hd.tupE
    cases e0
    have hdl : dx.length = doc.length := by rw [tdx.len, List.length_map]
    have few := rd.few
    refine ⟨_, rfl, d, dx, rfl, .inr (.inl (.of hdx)), dx.length, rfl, by omega, by omega, fun D nD => ?_⟩
    refine lc_it walk_range (fun i H' => Same H H' ∧ Lst H' D (((startRows doc).take i).map eRow)) ⟨snew nD, by rw [List.take_zero]; exact ⟨[], upd_same, .nil⟩⟩ (fun _ _ _ _ => trivial) ?_ ?_
    · rintro i x H1 H2 hi ⟨s1, ys, hy, ty⟩ ⟨rfl, rfl⟩
      have e9 : (0 : Int) + (i : Int) = (i : Int) := Int.zero_add _
      show gName 3 (V.int (0 + (i : Int))) _ _ _
      rw [e9]
      have hil : i < doc.length := by
        have : i < ((dx.length : Int)).toNat := hi
        omega
      have hz : doc[i]? = some doc[i] := List.getElem?_eq_getElem hil
      obtain ⟨vl, hvl, tvl⟩ := tdx.get (i := i) (d := eLn doc[i]) (by rw [List.getElem?_map, hz]; rfl)
      have hyl : ys.length = i := by rw [ty.len, List.length_map, List.length_take, start_len]; omega
      refine ⟨rfl, szT 0 (by decide), fun z1 nz1 => ⟨_, rfl, szT 3 (by decide), fun z2 nz2 => ⟨_, rfl, _, rfl, d, dx, (i : Int), vl, rfl, rfl, .inl (.of (snew nz2 _ _ (snew nz1 _ _ (s1 _ _ hdx)))), at_of (j := i) rfl hvl, szT 4 (by decide), fun z3 nz3 => ⟨ys, snew nz3 _ _ (snew nz2 _ _ (snew nz1 _ _ hy)), small1000 (by omega), ?_, ?_⟩⟩⟩⟩
      · exact sat (s1.trans ((snew nz1).trans ((snew nz2).trans (snew nz3)))) nD
      · have t1 := Tp.mk (xs := []) (ds := []) nz1 .nil
        have s12 := (snew (H := H2) (o := .tup []) nz1)
        have t2 := Tp.mk (xs := [.int 0, .ref z1, vN i]) (ds := [.int 0, .tuple [], .int i]) nz2 (.cons (.int _) (.cons t1 (.one (.int _))))
        have s123 := s12.trans (snew (o := .tup [.int 0, .ref z1, vN i]) nz2)
        have t3 := Tp.mk (xs := [.ref z2, .bl true, vl, .int 0]) (ds := [eNm (.start i), .bool true, eLn doc[i], .int 0]) nz3 (.cons t2 (.cons (.bl _) (.cons (Tp.mono (Tk.of (s1.trans s123)) tvl) (.one (.int _)))))
        rw [List.take_add_one, start_at doc hz, List.map_append]
        exact Lst.push (snew nz3 _ _ (s123 _ _ hy)) (Tps.mono (Tk.of (s123.trans (snew nz3))) ty) t3
    · rintro H1 ⟨s1, hl⟩
      have e9 : (((dx.length : Int)).toNat) = (startRows doc).length := by rw [start_len]; omega
      rw [e9, List.take_length] at hl
      obtain ⟨cx, hca, cl, cat⟩ := hcs.ex
      refine ⟨_, rfl, ca, rfl, ⟨_, SqL.of (s1 _ _ hca)⟩, for_it (walk_list (xs := cx)) (fun i σ H' => (∃ u3 u4 u5, σ = [some (.ref d), some (.ref ca), some (.ref D), u3, u4, u5]) ∧ Same H H' ∧ Lst H' D ((replayFrom (startRows doc) (cs.take i)).map eRow))
        ⟨⟨_, _, _, rfl⟩, s1, by rw [List.take_zero]; exact hl⟩ (fun i σ H' _ z => SqL.of (z.2.1 _ _ hca)) ?_ ?_⟩
      · rintro i x σ H2 H3 hi ⟨⟨u3, u4, u5, rfl⟩, s2, hl2⟩ ⟨rfl, hx⟩
        have hil : i < cs.length := by omega
        have hz : cs[i]? = some cs[i] := List.getElem?_eq_getElem hil
        obtain ⟨a, nl, rfl, ha, hnl⟩ := (cat i _ _ hx hz).same s2
        have et : cs.take (i + 1) = cs.take i ++ [cs[i]] := by rw [List.take_add_one, hz]; rfl
        refine ⟨_, rfl, a, _, 2, _, rfl, rfl, .inl (.of ha), at_of (j := 2) rfl rfl, _, rfl, ?_⟩
        cases hs : cs[i].stands with
        | false =>
          refine iteF ⟨⟨_, _, _, rfl⟩, s2, ?_⟩
          rw [et, replay_snoc, hs]
          exact hl2
        | true =>
          obtain ⟨p1, p2⟩ := replay_props rd.rep (start_dep doc) rd.dep (Nat.le_of_lt hil)
          have q1 := nSum_take cs i
          have q2 := nSum_mem (List.getElem_mem hil)
          have q3 : nSum (cs.take i) + cs[i].named.length ≤ nSum cs := by
            have := nSum_take cs (i + 1)
            rw [et] at this
            rw [nSum_app, nSum_one] at this
            exact this
          rw [start_len] at p2
          have nDl : D ≠ nl := by
            obtain ⟨zs, hz1, _⟩ := (cat i _ _ hx hz).choose_spec.choose_spec.2.2
            intro e
            have hn := (cat i _ _ hx hz)
            obtain ⟨a', nl', e1, ha', ys', hnl', _⟩ := hn
            have : a' = a := by injection e1 with e1; exact e1.symm
            have hh := s2 _ _ ha'
            rw [this, ha] at hh
            have : nl' = nl := by
              injection hh with hh
              injection hh with hh
              injection hh with _ hh
              injection hh with _ hh
              injection hh with _ hh
              injection hh with hh _
              injection hh with hh
              exact hh.symm
            rw [this, ← e, nD] at hnl'
            cases hnl'
          refine iteT ⟨_, rfl, _, rfl, a, _, 0, _, rfl, rfl, .inl (.of ha), at_of (j := 0) rfl rfl, _, rfl, a, _, 3, _, rfl, rfl, .inl (.of ha), at_of (j := 3) rfl rfl, D, cs[i].num, nl, _, cs[i].named, rfl, hl2, hnl, nDl, rep_at rd.rep hz hs, p1, fun p hp => (rd.dep _ (List.getElem_mem hil) p hp).1, by omega, fun p hp => (rd.dep _ (List.getElem_mem hil) p hp).2, fun H4 k4 hl4 => ?_⟩
          refine ⟨⟨_, _, _, rfl⟩, fun b o e => k4 b o (s2 b o e) (ne_of_none e nD), ?_⟩
          rw [et, replay_snoc, hs]
          exact hl4
      · rintro σ H2 ⟨⟨u3, u4, u5, rfl⟩, s2, hl2⟩
        rw [cl, List.take_length] at hl2
        obtain ⟨rs, ers⟩ : ∃ rs, rs = replayFrom (startRows doc) cs := ⟨_, rfl⟩
        obtain ⟨p1, p2⟩ := replay_props (i := cs.length) rd.rep (start_dep doc) rd.dep (Nat.le_refl _)
        rw [List.take_length, start_len, ← ers] at p2
        have q' : ∀ H' a, Same H H' → H a = none → Lst H' a ((rs.filter fun r => r.up).map eRow) → Q (.ref a) H' := by
          rw [ers]
          exact q
        rw [← ers] at hl2
        obtain ⟨ys, hy, ty⟩ := hl2
        have hyl : ys.length = rs.length := by rw [ty.len, List.length_map]
        refine ⟨_, rfl, D, rfl, ⟨_, SqL.of hy⟩, fun G nG => ?_⟩
        refine lc_it (walk_list (xs := ys)) (fun i H' => Same H2 H' ∧ Lst H' G (((rs.take i).filter fun r => r.up).map eRow)) ⟨snew nG, by rw [List.take_zero]; exact ⟨[], upd_same, .nil⟩⟩ (fun i H' _ z => SqL.of (z.1 _ _ hy)) ?_ ?_
        · rintro i x H3 H4 hi ⟨s3, zs, hzs, tzs⟩ ⟨rfl, hx⟩
          have hil : i < rs.length := by omega
          have hz : rs[i]? = some rs[i] := List.getElem?_eq_getElem hil
          obtain ⟨dd, hdd, tv⟩ := ty.at hx
          rw [List.getElem?_map, hz] at hdd
          cases hdd
          obtain ⟨b, rx, ry, _, rfl, hb, hrx, hry, hb2⟩ := row_read (Tp.mono (Tk.of s3) tv)
          have et : rs.take (i + 1) = rs.take i ++ [rs[i]] := by rw [List.take_add_one, hz]; rfl
          have zl : zs.length ≤ i := by
            rw [tzs.len, List.length_map]
            exact Nat.le_trans (List.length_filter_le _ _) (by rw [List.length_take]; omega)
          refine ⟨rfl, _, rfl, b, _, 1, _, rfl, rfl, .inl (.of hb), at_of (j := 1) rfl rfl, _, rfl, ?_⟩
          rw [et, List.filter_append]
          cases hu : rs[i].up with
          | true =>
            refine iteT ⟨_, rfl, zs, hzs, small1000 (by omega), sat s3 nG, ?_⟩
            rw [List.filter_cons, if_pos hu, List.map_append]
            exact Lst.push hzs tzs (Tp.mono (Tk.of s3) tv)
          | false =>
            refine iteF ⟨s3, ?_⟩
            rw [List.filter_cons, if_neg (by rw [hu]; decide), List.filter_nil, List.append_nil]
            exact ⟨zs, hzs, tzs⟩
        · rintro H3 ⟨s3, hl3⟩
          rw [hyl, List.take_length] at hl3
          exact q' H3 G (s2.trans s3) (s2.free nG) hl3
end
end Wh

namespace Wh
open PySem PySem.Spec PyProof.Rows L2 Wf
def hangQ (c1 : LC0) (p : Nm × Ft) : Bool := decide (p.1.num = c1.num) || c1.named.any fun o => decide (o.1 = p.1) && (isTxt o.2.chg && !isKeep p.2.chg)
def hangP (c1 c2 : LC0) : Bool := c2.named.any (hangQ c1)
def lHold (c1 : LC0) : List LC0 → Nat
  | [] => 0
  | c2 :: r => if (c2.stands && hangP c1 c2) = true then c2.num else lHold c1 r
def spHang : Sp := fun vs H Q _ => ∃ (v1 v2 : V) (c1 c2 : LC0), vs = [v1, v2] ∧ LC H v1 c1 ∧ LC H v2 c2 ∧ (∀ p ∈ c1.named, dN p.1 ≤ 59) ∧ (∀ p ∈ c2.named, dN p.1 ≤ 59) ∧ Q (.bl (hangP c1 c2)) H
def spHolder : Sp := fun vs H Q _ => ∃ (ca : Addr) (n : Nat) (cs : List LC0) (c1 : LC0), vs = [.ref ca, vN n] ∧ LCs H ca cs ∧ 1 ≤ n ∧ cs[n - 1]? = some c1 ∧ (∀ c ∈ cs, ∀ p ∈ c.named, dN p.1 ≤ 59) ∧ ∀ H', Same H H' → Q (vN (lHold c1 (cs.drop n))) H'
theorem nm_read {H : Hp} {v : V} {n : Nm} (h : Tp H v (eNm n)) : ∃ (a : Addr) (x y : V), v = .ref a ∧ H a = some (.tup [vN n.num, x, y]) := by
  cases n with
  | start k =>
    obtain ⟨a, x, y, z, rfl, ha, hx, _, _⟩ := (show Tp H v (.tuple [.int 0, .tuple [], .int k]) from h).three
    obtain rfl := hx.intE
    exact ⟨a, y, z, rfl, ha⟩
  | put m o k =>
    obtain ⟨a, x, y, z, rfl, ha, hx, _, _⟩ := (show Tp H v (.tuple [.int m, eNm o, .int k]) from h).three
    obtain rfl := hx.intE
    exact ⟨a, y, z, rfl, ha⟩
theorem dec_n (n m : Nat) : decide (vN n = vN m) = decide (n = m) := decide_eq_decide.mpr ⟨fun h => by
  have := V.int.inj h
  omega, fun h => by rw [h]⟩
section
variable {P : Program} {w : World} {K : PySem.W.Frag} {mg : Str → Option Value} {base : Heap}
theorem scHang : FnScope ["_law_change_here", "_law_later", "_law_name", "_law_fate", "_law_own", "_law_own_fate"] ["_law_change_here", "_law_later"] (defScope sHang) := ⟨rfl, rfl, rfl, by decide +kernel, rfl, by decide +kernel, by decide +kernel⟩
theorem ok_hang {f : Addr} {fd : FuncData} (F : FnD K "_law_is_hanging" "_law_is_hanging" sHang f fd) (hm : mg "_law_is_hanging" = some (.ref f)) : Fn P w K mg base CX0 1 "_law_is_hanging" spHang := by
  refine ⟨f, fd, ["_law_change_here", "_law_later"], fok F scHang (fun vs H Q E h => ?_) (fun cdv A outer s H vs Q E hr h => ?_), hm, F.kp, F.bindsN fun _ _ _ _ _ _ us hl => match us, hl with | [_, _], _ => rfl⟩
  · obtain ⟨v1, v2, c1, c2, rfl, _⟩ := h
    rfl
  · obtain ⟨v1, v2, c1, c2, rfl, ⟨a1, n1, rfl, h1, ys1, hn1, t1⟩, ⟨a2, n2, rfl, h2, ys2, hn2, t2⟩, hd1, hd2, q⟩ := h
    refine ⟨_, pss_cons (ps_for PassesOwn.never rfl (pi_list (pe_ix ix_tup (pv 1) pe_int (fun _ _ => rfl))) (pg_tup rfl (pgs_cons (pg_name (i := 2) scHang.nd rfl (.inl rfl)) (pgs_cons (pg_name (i := 3) scHang.nd rfl (.inl rfl)) pgs_nil)))
        (pss_cons (ps_if (pt_cmpR op_eq (pe_ix ix_tup (pv 2) pe_int (fun _ _ => rfl)) (pe_ix ix_tup (pv 0) pe_int (fun _ _ => rfl)) (nomark _))
            (pss_one (ps_ret pe_bl))
            (pss_nil))
          (pss_one (ps_for PassesOwn.never rfl (pi_list (pe_ix ix_tup (pv 0) pe_int (fun _ _ => rfl))) (pg_tup rfl (pgs_cons (pg_name (i := 4) scHang.nd rfl (.inl rfl)) (pgs_cons (pg_name (i := 5) scHang.nd rfl (.inl rfl)) pgs_nil)))
            (pss_one (ps_if (PW.pt (pw_and (pt_cmpR (op_eqD hr.units) (pv 4) (pv 2) (nomark _)) (pw_and (pt_cmpR op_eq (pe_ix ix_tup (pe_ix ix_tup (pv 5) pe_int (fun _ _ => rfl)) pe_int (fun _ _ => rfl)) pe_str (nomark _)) (pw_and1 (pt_cmpR op_ne (pe_ix ix_tup (pe_ix ix_tup (pv 3) pe_int (fun _ _ => rfl)) pe_int (fun _ _ => rfl)) pe_str (nomark _))))))
                (pss_one (ps_ret pe_bl))
                (pss_nil)))))))
      (pss_one (ps_ret pe_bl)), ?_⟩
    have l1 : ys1.length = c1.named.length := by rw [t1.len, List.length_map]
    have l2 : ys2.length = c2.named.length := by rw [t2.len, List.length_map]
    have yes : ∀ p ∈ c2.named, hangQ c1 p = true → Q (.bl true) H := fun p hp e => by
      have : hangP c1 c2 = true := List.any_eq_true.mpr ⟨p, hp, e⟩
      rw [this] at q
      exact q
    refine ⟨_, rfl, a2, _, 3, _, rfl, rfl, .inl (.of h2), at_of (j := 3) rfl rfl, n2, rfl, ⟨_, SqL.of hn2⟩, for_it (walk_list (xs := ys2)) (fun i σ H' => H' = H ∧ (∃ u2 u3 u4 u5, σ = [some (.ref a1), some (.ref a2), u2, u3, u4, u5]) ∧ ∀ p ∈ c2.named.take i, hangQ c1 p = false)
      ⟨rfl, ⟨_, _, _, _, rfl⟩, fun p hp => by rw [List.take_zero] at hp; cases hp⟩ (fun _ _ H' _ z => by rw [z.1]; exact SqL.of hn2) ?_ ?_⟩
    · rintro i x σ H1 H2 hi ⟨rfl, ⟨u2, u3, u4, u5, rfl⟩, hno⟩ ⟨rfl, hx⟩
      have hil : i < c2.named.length := by omega
      have hz : c2.named[i]? = some c2.named[i] := List.getElem?_eq_getElem hil
      have hmem : c2.named[i] ∈ c2.named := List.getElem_mem hil
      obtain ⟨dd, hdd, tv⟩ := t2.at hx
      rw [List.getElem?_map, hz] at hdd
      cases hdd
      obtain ⟨b, w1, w2, rfl, hb, tn, tf⟩ := tv.two
      obtain ⟨na, nx, ny, rfl, hna⟩ := nm_read tn
      obtain ⟨fa, f2, f0, f3, fz, fr, rfl, hfa, hf2, _, k1, k2, _⟩ := ft_read tf
      refine ⟨b, _, rfl, .inl (.of hb), rfl, _, _, rfl, _, _, rfl, rfl, ?_⟩
      refine ⟨_, rfl, na, _, 0, _, rfl, rfl, .inl (.of hna), at_of (j := 0) rfl rfl, _, rfl, a1, _, 0, _, rfl, rfl, .inl (.of h1), at_of (j := 0) rfl rfl, rfl, _, rfl, ?_⟩
      rw [dec_n]
      cases e1 : decide (c2.named[i].1.num = c1.num) with
      | true => exact iteT (yes _ hmem (by unfold hangQ; rw [e1]; rfl))
      | false =>
        refine iteF ?_
        have no1 : hangQ c1 c2.named[i] = c1.named.any fun o => decide (o.1 = c2.named[i].1) && (isTxt o.2.chg && !isKeep c2.named[i].2.chg) := by
          unfold hangQ
          rw [e1, Bool.false_or]
        refine ⟨_, rfl, a1, _, 3, _, rfl, rfl, .inl (.of h1), at_of (j := 3) rfl rfl, n1, rfl, ⟨_, SqL.of hn1⟩, for_it (walk_list (xs := ys1)) (fun j σ H' => H' = H2 ∧ (∃ u4 u5, σ = [some (.ref a1), some (.ref a2), some (.ref na), some (.ref fa), u4, u5]) ∧ ∀ o ∈ c1.named.take j, (decide (o.1 = c2.named[i].1) && (isTxt o.2.chg && !isKeep c2.named[i].2.chg)) = false)
          ⟨rfl, ⟨_, _, rfl⟩, fun p hp => by rw [List.take_zero] at hp; cases hp⟩ (fun _ _ H' _ z => by rw [z.1]; exact SqL.of hn1) ?_ ?_⟩
        · rintro j y σ H3 H4 hj ⟨rfl, ⟨w4, w5, rfl⟩, hno2⟩ ⟨rfl, hy⟩
          have hjl : j < c1.named.length := by omega
          have hz2 : c1.named[j]? = some c1.named[j] := List.getElem?_eq_getElem hjl
          have hmem2 : c1.named[j] ∈ c1.named := List.getElem_mem hjl
          obtain ⟨dd, hdd, tv2⟩ := t1.at hy
          rw [List.getElem?_map, hz2] at hdd
          cases hdd
          obtain ⟨b2, x1, x2, rfl, hb2, tn2, tf2⟩ := tv2.two
          obtain ⟨ga, g2, g0, g3, gz, gr, rfl, hga, hg2, _, m1, m2, _⟩ := ft_read tf2
          have nx2 : (decide (c1.named[j].1 = c2.named[i].1) && (isTxt c1.named[j].2.chg && !isKeep c2.named[i].2.chg)) = false → ∀ o ∈ c1.named.take (j + 1), (decide (o.1 = c2.named[i].1) && (isTxt o.2.chg && !isKeep c2.named[i].2.chg)) = false := fun h o ho => by
            rw [List.take_add_one, hz2, List.mem_append] at ho
            rcases ho with ho | ho
            · exact hno2 o ho
            · rw [Option.toList_some, List.mem_singleton] at ho
              rw [ho]; exact h
          refine ⟨b2, _, rfl, .inl (.of hb2), rfl, _, _, rfl, _, _, rfl, rfl, ?_⟩
          refine ⟨_, rfl, _, rfl, eNm c1.named[j].1, eNm c2.named[i].1, tn2.dp, tn.dp, nm_shaped (by have := hd1 _ hmem2; omega), nm_shaped (by have := hd2 _ hmem; omega), _, rfl, ?_⟩
          rw [eqv_nm]
          cases e2 : decide (c1.named[j].1 = c2.named[i].1) with
          | false => exact iteF (iteF ⟨rfl, ⟨_, _, rfl⟩, nx2 (by rw [e2]; rfl)⟩)
          | true =>
            refine iteT ⟨_, rfl, ga, _, 1, _, rfl, rfl, .inl (.of hga), at_of (j := 1) rfl rfl, g2, _, 0, _, rfl, rfl, .inl (.of hg2), at_of (j := 0) rfl rfl, rfl, _, rfl, ?_⟩
            rw [m2]
            cases e3 : isTxt c1.named[j].2.chg with
            | false => exact iteF (iteF ⟨rfl, ⟨_, _, rfl⟩, nx2 (by rw [e2, e3]; rfl)⟩)
            | true =>
              refine iteT ⟨_, rfl, fa, _, 1, _, rfl, rfl, .inl (.of hfa), at_of (j := 1) rfl rfl, f2, _, 0, _, rfl, rfl, .inl (.of hf2), at_of (j := 0) rfl rfl, rfl, _, rfl, ?_⟩
              rw [k1]
              cases e4 : isKeep c2.named[i].2.chg with
              | true => exact iteF ⟨rfl, ⟨_, _, rfl⟩, fun o ho => by
                have := nx2 (by rw [e2, e3, e4]; rfl) o ho
                rw [e4] at this
                exact this⟩
              | false =>
                refine iteT (yes _ hmem ?_)
                rw [no1]
                exact List.any_eq_true.mpr ⟨_, hmem2, by rw [e2, e3, e4]; rfl⟩
        · rintro σ H3 ⟨rfl, ⟨w4, w5, rfl⟩, hno2⟩
          rw [l1, List.take_length] at hno2
          refine ⟨rfl, ⟨_, _, _, _, rfl⟩, fun p hp => ?_⟩
          rw [List.take_add_one, hz, List.mem_append] at hp
          rcases hp with hp | hp
          · exact hno p hp
          · rw [Option.toList_some, List.mem_singleton] at hp
            rw [hp, no1, List.any_eq_false]
            intro o ho
            rw [hno2 o ho]
            simp
    · rintro σ H1 ⟨rfl, ⟨u2, u3, u4, u5, rfl⟩, hno⟩
      rw [l2, List.take_length] at hno
      have : hangP c1 c2 = false := by
        unfold hangP
        rw [List.any_eq_false]
        intro p hp
        rw [hno p hp]
        simp
      rw [this] at q
      exact q
theorem scHolder : FnScope ["_law_changes", "_law_number", "_law_later"] ["_law_changes", "_law_number"] (defScope sHolder) := ⟨rfl, rfl, rfl, by decide +kernel, rfl, by decide +kernel, by decide +kernel⟩
theorem ok_holder {f : Addr} {fd : FuncData} (F : FnD K "_law_holder" "_law_holder" sHolder f fd) (hm : mg "_law_holder" = some (.ref f)) (GIH : Fn P w K mg base CX0 1 "_law_is_hanging" spHang) : Fn P w K mg base CX0 2 "_law_holder" spHolder := by
  refine ⟨f, fd, ["_law_changes", "_law_number"], fok F scHolder (fun vs H Q E h => ?_) (fun cdv A outer s H vs Q E hr h => ?_), hm, F.kp, F.bindsN fun _ _ _ _ _ _ us hl => match us, hl with | [_, _], _ => rfl⟩
  · obtain ⟨ca, n, cs, c1, rfl, _⟩ := h
    rfl
  · obtain ⟨ca, n, cs, c1, rfl, hcs, hn, hc1, hd, q⟩ := h
    refine ⟨_, pss_cons (ps_for PassesOwn.never rfl (pi_list (pe_slice sl_list (pv 0) (po_some (pv 1)) po_none)) (pg_name (i := 2) scHolder.nd rfl (.inl rfl))
        (pss_one (ps_if (PW.pt (pw_and (pt_val (pe_ix ix_tup (pv 2) pe_int (fun _ _ => rfl))) (pw_and1 (pt_val (pe_fn GIH hr (by decide) pass0 (pa_cons (pe_ix ix_list (pv 0) (pe_op op_sub (pv 1) pe_int) (fun _ _ => rfl)) (pa_cons (pv 2) pa_nil)))))))
            (pss_one (ps_ret (pe_ix ix_tup (pv 2) pe_int (fun _ _ => rfl))))
            (pss_nil))))
      (pss_one (ps_ret pe_int)), ?_⟩
    obtain ⟨cx, hca, cl, cat⟩ := hcs.ex
    have hn1 : n - 1 < cs.length := (List.getElem?_eq_some_iff.mp hc1).1
    refine ⟨_, rfl, _, rfl, n, rfl, ca, _, rfl, SqL.of hca, fun sl nsl => ?_⟩
    rw [cutV_drop (by omega)]
    have s1 : Same H (L2.upd H sl (.lst (cx.drop n))) := snew nsl
    have dl : (cx.drop n).length = cs.length - n := by rw [List.length_drop, cl]
    obtain ⟨v1, hv1⟩ : ∃ v1, cx[n - 1]? = some v1 := ⟨_, List.getElem?_eq_getElem (by omega)⟩
    have hmem1 : c1 ∈ cs := List.mem_of_getElem? hc1
    have en : ((n : Int) - 1) = ((n - 1 : Nat) : Int) := by omega
    refine ⟨sl, rfl, ⟨_, SqL.of upd_same⟩, for_it (walk_list (xs := cx.drop n)) (fun i σ H' => (∃ u, σ = [some (.ref ca), some (vN n), u]) ∧ H' = L2.upd H sl (.lst (cx.drop n)) ∧ lHold c1 (cs.drop n) = lHold c1 (cs.drop (n + i))) ⟨⟨_, rfl⟩, rfl, rfl⟩ (fun _ _ H' _ z => by rw [z.2.1]; exact SqL.of upd_same) ?_ ?_⟩
    · rintro i x σ H1 H2 hi ⟨⟨u, rfl⟩, e1, hold⟩ ⟨rfl, hx⟩
      rw [dl] at hi
      have hk : n + i < cs.length := by omega
      have hz : cs[n + i]? = some cs[n + i] := List.getElem?_eq_getElem hk
      rw [List.getElem?_drop] at hx
      have L2' := (cat _ _ _ hx hz).same s1
      rw [← e1] at L2'
      have L1' := (cat _ _ _ hv1 hc1).same s1
      rw [← e1] at L1'
      have L2'' := L2'
      obtain ⟨a2, n2, rfl, h2, _⟩ := L2'
      have hd0 : cs.drop (n + i) = cs[n + i] :: cs.drop (n + (i + 1)) := List.drop_eq_getElem_cons hk
      rw [hd0] at hold
      have nxt : (cs[n + i].stands && hangP c1 cs[n + i]) = false → lHold c1 (cs.drop n) = lHold c1 (cs.drop (n + (i + 1))) := fun h => by
        rw [hold]
        show (if _ then _ else _) = _
        rw [if_neg (by rw [h]; decide)]
      refine ⟨_, rfl, a2, _, 2, _, rfl, rfl, .inl (.of h2), at_of (j := 2) rfl rfl, _, rfl, ?_⟩
      cases hs : cs[n + i].stands with
      | false => exact iteF (iteF ⟨⟨_, rfl⟩, e1, nxt (by rw [hs]; rfl)⟩)
      | true =>
        have hca2 : H2 ca = some (.lst cx) := by rw [e1]; exact s1 _ _ hca
        refine iteT ⟨_, rfl, _, rfl, _, _, rfl, rfl, ca, _, _, v1, rfl, rfl, SqL.of hca2, at_of (j := n - 1) en hv1, _, rfl, v1, .ref a2, c1, cs[n + i], rfl, L1', L2'', hd _ hmem1, hd _ (List.getElem_mem hk), _, rfl, ?_⟩
        cases hh : hangP c1 cs[n + i] with
        | false => exact iteF ⟨⟨_, rfl⟩, e1, nxt (by rw [hh, Bool.and_false])⟩
        | true =>
          refine iteT ⟨_, rfl, a2, _, 0, _, rfl, rfl, .inl (.of h2), at_of (j := 0) rfl rfl, ?_⟩
          have e9 : lHold c1 (cs.drop n) = cs[n + i].num := by
            rw [hold]
            show (if _ then _ else _) = _
            rw [if_pos (by rw [hs, hh]; rfl)]
          have := q H2 (by rw [e1]; exact s1)
          rw [e9] at this
          exact this
    · rintro σ H1 ⟨⟨u, rfl⟩, e1, hold⟩
      rw [dl, List.drop_of_length_le (by omega : cs.length ≤ n + (cs.length - n))] at hold
      have := q H1 (by rw [e1]; exact s1)
      rw [hold] at this
      exact this
end
end Wh

namespace Wh
open PySem PySem.Spec PyProof.Rows L2 Wf
abbrev sHF : Stmt := top 26
def spHF (K : PySem.W.Frag) : Sp := fun vs H Q _ => ∃ (da sa : Addr) (doc : List Ln) (ns : List Int) (st many : Nat), vs = [.ref da, .ref sa, vN st, vN many] ∧ Lst H da (doc.map eLn) ∧ SqL K H sa (ns.map V.int) ∧ many ≤ 3 ∧ 1 ≤ doc.length ∧ doc.length ≤ 600 ∧
  ∀ H' fd kvs (l : List (Nat × Ft)), Same H H' → H fd = none → H' fd = some (.dK kvs) → Fts H' kvs l → (l.map (·.1)).Nodup → (∀ q ∈ l, q.1 < doc.length ∧ q.2.behind.length ≤ 2) → l.length ≤ many → Q (.ref fd) H'
theorem cutV_take {xs : List V} {n : Nat} (h : n ≤ xs.length) : cutV xs none (some (n : Int)) = xs.take n := by
  have e1 : HT.sIx xs.length xs.length (some (n : Int)) = n := by
    rw [HT.sIx_nat]
    exact Nat.min_eq_left h
  have e2 : HT.sIx xs.length 0 none = 0 := rfl
  unfold cutV
  rw [e1, e2]
  rfl
theorem strsP (H : Hp) : ∀ l : List Tx, Tps H (l.map fun t => V.str t.s) (l.map fun t => PyData.str t.s)
  | [] => .nil
  | t :: r => .cons (.str _) (strsP H r)
theorem sput {H H' : Hp} {a : Addr} {o : HO} (s : Same H H') (h : H a = none) : Same H (L2.upd H' a o) := fun b u e => by
  rw [upd_ne (ne_of_none e h)]
  exact s b u e
theorem ch_shaped (c : Chg Tx) : SeqAt.shaped (eCh c) = true := by
  cases c with
  | keep => decide +kernel
  | drop => decide +kernel
  | text t =>
    unfold SeqAt.shaped
    have : (eCh (Chg.text t)).canLay0 = true := by
      show PyData.canLayAll0 [.str "text", .str t.s] = true
      rw [PyData.canLayAll0, PyData.canLayAll0, t.ok]
      decide +kernel
    rw [this, Bool.true_and]
    exact decide_eq_true (by show (PyData.tuple [.str "text", .str t.s]).depth ≤ 64; simp [PyData.depth, PyData.depthAll])
theorem tx_T {n : Int} (h0 : 0 ≤ n) (h1 : n < 3) : ∃ k : Fin 3, (("t" : Str) ++ (toString n : Str)) = (Tx.T k).s := by
  have : n = 0 ∨ n = 1 ∨ n = 2 := by omega
  rcases this with rfl | rfl | rfl
  · exact ⟨0, by decide +kernel⟩
  · exact ⟨1, by decide +kernel⟩
  · exact ⟨2, by decide +kernel⟩
theorem tx_N {n : Int} (h0 : 0 ≤ n) (h1 : n < 4) : ∃ k : Fin 4, (("n" : Str) ++ (toString n : Str)) = (Tx.N k).s := by
  have : n = 0 ∨ n = 1 ∨ n = 2 ∨ n = 3 := by omega
  rcases this with rfl | rfl | rfl | rfl
  · exact ⟨0, by decide +kernel⟩
  · exact ⟨1, by decide +kernel⟩
  · exact ⟨2, by decide +kernel⟩
  · exact ⟨3, by decide +kernel⟩
section
variable {P : Program} {w : World} {K : PySem.W.Frag} {mg : Str → Option Value} {base : Heap}
theorem scHF : FnScope ["_law_document", "_law_cells", "_law_start_here", "_law_many", "_law_fates", "_law_k", "_law_draws_here", "_law_at", "_law_line", "_law_texts", "_law_change_here", "_law_behind"] ["_law_document", "_law_cells", "_law_start_here", "_law_many"] (defScope sHF) := ⟨rfl, rfl, rfl, by decide +kernel, rfl, by decide +kernel, by decide +kernel⟩
theorem ok_hf {f : Addr} {fd : FuncData} (F : FnD K "_law_history_fates" "_law_history_fates" sHF f fd) (T : Bt mg) (hm : mg "_law_history_fates" = some (.ref f)) (GC : Fn P w K mg base CX0 1 "_law_cell" (spCell K)) (GD : Fn P w K mg base CX0 1 "_law_draws" spDraws) : Fn P w K mg base CX0 2 "_law_history_fates" (spHF K) := by
  refine ⟨f, fd, ["_law_document", "_law_cells", "_law_start_here", "_law_many"], fok F scHF (fun vs H Q E h => ?_) (fun cdv A outer s H vs Q E hr h => ?_), hm, F.kp, F.bindsN fun _ _ _ _ _ _ us hl => match us, hl with | [_, _, _, _], _ => rfl⟩
  · obtain ⟨da, sa, doc, ns, st, many, rfl, _⟩ := h
    rfl
  · obtain ⟨da, sa, doc, ns, st, many, rfl, ⟨xs, hda, tx⟩, hS, hmany, h1, h2, q⟩ := h
    refine ⟨_, pss_cons (ps_set (i := 4) scHF.nd rfl (.inl rfl) pe_dnewK)
      (pss_cons (ps_for PassesOwn.never rfl (pi_range1 rfl T.range (pa_cons (pv 3) pa_nil)) (pg_name (i := 5) scHF.nd rfl (.inl rfl))
        (pss_cons (ps_set (i := 6) scHF.nd rfl (.inl rfl) (pe_fn GD hr (by decide) pass0 (pa_cons (pe_fn GC hr (by decide) pass0 (pa_cons (pv 1) (pa_cons (pe_op op_add (pv 2) (pv 5)) pa_nil))) (pa_cons pe_int pa_nil))))
          (pss_cons (ps_set (i := 7) scHF.nd rfl (.inl rfl) (pe_op op_mod (pe_ix ix_list (pv 6) pe_int (fun _ _ => rfl)) (pe_callB call_len_seq (by rfl) T.len PySem.boot_len (pa_cons (pv 0) pa_nil))))
          (pss_cons (ps_set (i := 8) scHF.nd rfl (.inl rfl) (pe_ix ix_list (pv 0) (pv 7) (fun _ _ => rfl)))
          (pss_cons (ps_set (i := 9) scHF.nd rfl (.inl rfl) (pe_lst (pa_cons (pe_op op_add_str pe_str (pe_callTy call_str_int (by rfl) T.str (by decide +kernel) (pa_cons (pe_op op_mod (pe_ix ix_list (pv 6) pe_int (fun _ _ => rfl)) pe_int) pa_nil))) (pa_cons pe_str (pa_cons pe_str pa_nil)))))
          (pss_cons (ps_set (i := 10) scHF.nd rfl (.inl rfl) (pe_tup (pa_cons pe_str pa_nil)))
          (pss_cons (ps_if (pt_cmpR op_in_seq (pe_ix ix_tup (pv 8) pe_int (fun _ _ => rfl)) (pe_tup (pa_cons pe_str (pa_cons pe_str pa_nil))) (by rfl))
            (pss_one (ps_set (i := 10) scHF.nd rfl (.inl rfl) (pe_ix ix_list (pe_lst (pa_cons (pe_tup (pa_cons pe_str pa_nil)) (pa_cons (pe_tup (pa_cons pe_str pa_nil)) (pa_cons (pe_tup (pa_cons pe_str (pa_cons (pe_op op_add_str pe_str (pe_callTy call_str_int (by rfl) T.str (by decide +kernel) (pa_cons (pe_op op_mod (pe_ix ix_list (pv 6) pe_int (fun _ _ => rfl)) pe_int) pa_nil))) pa_nil))) (pa_cons (pe_tup (pa_cons pe_str (pa_cons pe_str pa_nil))) pa_nil))))) (pe_op op_mod (pe_ix ix_list (pv 6) pe_int (fun _ _ => rfl)) pe_int) (fun _ _ => rfl))))
            (pss_nil))
          (pss_cons (ps_if (pt_cmpR (op_eqD hr.units) (pv 10) (pe_tup (pa_cons pe_str (pa_cons (pe_ix ix_tup (pv 8) pe_int (fun _ _ => rfl)) pa_nil))) (nomark _))
            (pss_one (ps_set (i := 10) scHF.nd rfl (.inl rfl) (pe_tup (pa_cons pe_str pa_nil))))
            (pss_nil))
          (pss_cons (ps_set (i := 11) scHF.nd rfl (.inl rfl) (pe_callTy call_tuple_of (by rfl) T.tuple (by decide +kernel) (pa_cons (pe_slice sl_list (pv 9) po_none (po_some (pe_ix ix_list (pe_lst (pa_cons pe_int (pa_cons pe_int (pa_cons pe_int (pa_cons pe_int pa_nil))))) (pe_op op_mod (pe_ix ix_list (pv 6) pe_int (fun _ _ => rfl)) pe_int) (fun _ _ => rfl)))) pa_nil)))
          (pss_one (ps_if (PW.pt (pw_or (pt_cmpR (op_neD hr.units) (pv 10) (pe_tup (pa_cons pe_str pa_nil)) (nomark _)) (pw_or1 (pt_cmpR op_gt (pe_callB call_len_seq (by rfl) T.len PySem.boot_len (pa_cons (pv 11) pa_nil)) pe_int (nomark _)))))
            (pss_one (ps_dput (hu_of hr) (pv 4) (pv 7) (pe_tup (pa_cons (pe_tup pa_nil) (pa_cons (pv 10) (pa_cons (pv 11) pa_nil)))) rfl))
            (pss_nil))))))))))))
      (pss_one (ps_ret (pv 4)))), ?_⟩
    have hxl : xs.length = doc.length := by rw [tx.len, List.length_map]
    refine fun fa nfa => ?_
    refine ⟨_, rfl, (many : Int), rfl, by omega, by omega, for_range (lo := 0) (n := many) (fun i σ H' => (∃ u5 u6 u7 u8 u9 u10 u11, σ = [some (.ref da), some (.ref sa), some (vN st), some (vN many), some (.ref fa), u5, u6, u7, u8, u9, u10, u11]) ∧ Same H H' ∧
      ∃ kvs l, H' fa = some (.dK kvs) ∧ Fts H' kvs l ∧ (l.map (·.1)).Nodup ∧ (∀ q ∈ l, q.1 < doc.length ∧ q.2.behind.length ≤ 2) ∧ l.length ≤ i) ⟨⟨_, _, _, _, _, _, _, rfl⟩, snew nfa, [], [], upd_same, .nil, List.nodup_nil, fun q hq => (by cases hq), Nat.le_refl _⟩ ?_ ?_⟩
    · rintro i σ H1 hi ⟨⟨u5, u6, u7, u8, u9, u10, u11, rfl⟩, s1, kvs, l, hfa, ft, nd, hl, hle⟩
      refine ⟨_, rfl, _, rfl, _, rfl, _, _, rfl, rfl, sa, ns, _, rfl, s1.seq hS, by omega, fun z => ⟨z, 6, rfl, by decide, fun H2 l2 ds hd s2 nl2 hl2 => ?_⟩⟩
      obtain ⟨d0, d1, d2, d3, d4, d5, rfl⟩ : ∃ d0 d1 d2 d3 d4 d5, ds = [d0, d1, d2, d3, d4, d5] := match ds, hd with | [d0, d1, d2, d3, d4, d5], _ => ⟨d0, d1, d2, d3, d4, d5, rfl⟩
      have s12 := s1.trans s2
      have m4 : ∀ z : Int, 0 ≤ z % 4 ∧ z % 4 < 4 := fun z => ⟨Int.emod_nonneg _ (by decide), Int.emod_lt_of_pos _ (by decide)⟩
      have m3 : ∀ z : Int, 0 ≤ z % 3 ∧ z % 3 < 3 := fun z => ⟨Int.emod_nonneg _ (by decide), Int.emod_lt_of_pos _ (by decide)⟩
      have hpos : (0 : Int) < (xs.length : Int) := by omega
      obtain ⟨at_, hat, hat2⟩ : ∃ at_ : Nat, d0 % (xs.length : Int) = (at_ : Int) ∧ at_ < doc.length := by
        have a1 := Int.emod_nonneg d0 (Int.ne_of_gt hpos)
        have a2 := Int.emod_lt_of_pos d0 hpos
        exact ⟨(d0 % (xs.length : Int)).toNat, by omega, by omega⟩
      refine ⟨_, rfl, l2, _, 0, _, rfl, rfl, SqL.of hl2, at_of (j := 0) rfl rfl, _, rfl, da, xs, rfl, .inl (SqL.of (s12 _ _ hda)), _, _, rfl, rfl, hpos, ?_⟩
      show gName 7 (V.int (d0 % (xs.length : Int))) _ _ _
      rw [hat]
      have hz : doc[at_]? = some doc[at_] := List.getElem?_eq_getElem hat2
      obtain ⟨vl, hvl, tvl⟩ := tx.get (i := at_) (d := eLn doc[at_]) (by rw [List.getElem?_map, hz]; rfl)
      obtain ⟨la, y1, y2, rfl, hla, g1, g2⟩ := (show Tp H vl (.tuple [.str (kdS doc[at_].kd), .str doc[at_].tx.s]) from tvl).two
      obtain rfl := g1.strE
      obtain rfl := g2.strE
      refine ⟨_, rfl, _, rfl, da, xs, _, _, rfl, rfl, SqL.of (s12 _ _ hda), at_of (j := at_) rfl hvl, ?_⟩
      obtain ⟨kN, eN⟩ := tx_N (m4 d1).1 (m4 d1).2
      refine ⟨_, rfl, l2, _, 1, _, rfl, rfl, SqL.of hl2, at_of (j := 1) rfl rfl, _, _, rfl, rfl, (by show (0 : Int) < 4; decide), _, rfl, log_small (m4 d1).1 (by have := (m4 d1).2; omega), _, _, rfl, rfl, ?_, szT 3 (by decide), fun ta nta => ?_⟩
      · rw [small_len (m4 d1).1 (by have := (m4 d1).2; omega)]; decide +kernel
      replace eN : (("n" : Str) ++ Str.ofString (toString (d1 % 4))) = (Tx.N kN).s := eN
      show gName 9 (V.ref ta) _ (L2.upd H2 ta (.lst [.str (("n" : Str) ++ Str.ofString (toString (d1 % 4))), .str "m", .str ""])) _
      rw [eN]
      have s3 : Same H (L2.upd H2 ta (.lst [.str (Tx.N kN).s, .str "m", .str ""])) := s12.trans (snew nta)
      refine ⟨szT 1 (by decide), fun c0 nc0 => ?_⟩
      have s4 : Same H (L2.upd (L2.upd H2 ta (.lst [.str (Tx.N kN).s, .str "m", .str ""])) c0 (.tup [.str "keep"])) := s3.trans (snew nc0)
      have hta4 := snew (o := .tup [.str "keep"]) nc0 ta _ upd_same
      have hl24 := snew (o := .tup [.str "keep"]) nc0 _ _ (snew (o := .lst [.str (Tx.N kN).s, .str "m", .str ""]) nta _ _ hl2)
      have hfa4 := snew (o := .tup [.str "keep"]) nc0 _ _ (snew (o := .lst [.str (Tx.N kN).s, .str "m", .str ""]) nta _ _ (s2 _ _ hfa))
      have tc0 : Tp (L2.upd (L2.upd H2 ta (.lst [.str (Tx.N kN).s, .str "m", .str ""])) c0 (.tup [.str "keep"])) (.ref c0) (eCh .keep) := Tp.mk (ds := [.str "keep"]) nc0 (.one (.str _))
      have ft4 := ft.mono (Tk.of (s2.trans ((snew (o := .lst [.str (Tx.N kN).s, .str "m", .str ""]) nta).trans (snew (o := .tup [.str "keep"]) nc0))))
      obtain ⟨H4, e4⟩ : ∃ H4, H4 = L2.upd (L2.upd H2 ta (.lst [.str (Tx.N kN).s, .str "m", .str ""])) c0 (.tup [.str "keep"]) := ⟨_, rfl⟩
      rw [← e4] at s4 hta4 hl24 hfa4 tc0 ft4
      show gName 10 (V.ref c0) _ (L2.upd (L2.upd H2 ta (.lst [.str (Tx.N kN).s, .str "m", .str ""])) c0 (.tup [.str "keep"])) _
      rw [← e4]
      clear e4
      refine ⟨_, rfl, la, _, 0, _, rfl, rfl, .inl (.of (s4 _ _ hla)), at_of (j := 0) rfl rfl, szT 2 (by decide), fun p0 np0 => ⟨p0, _, rfl, .inr (.inl (.of upd_same)), rfl, rfl, _, rfl, ite2 (fun _ => ?A) (fun _ => ?B)⟩⟩
      case' A =>
        obtain ⟨kT, eT⟩ := tx_T (m3 d2).1 (m3 d2).2
        refine ⟨szT 1 (by decide), fun p1 np1 => ⟨szT 1 (by decide), fun p2 np2 => ?_⟩⟩
        have sa1 := snew (o := .tup [.str "code", .str "prose"]) np0
        have sb1 := snew (o := .tup [.str "keep"]) np1
        have sc1 := snew (o := .tup [.str "drop"]) np2
        have sabc := sa1.trans (sb1.trans sc1)
        refine ⟨_, rfl, l2, _, 2, _, rfl, rfl, SqL.of (sabc _ _ hl24), at_of (j := 2) rfl rfl, _, _, rfl, rfl, (by show (0 : Int) < 3; decide), _, rfl, log_small (m3 d2).1 (by have := (m3 d2).2; omega), _, _, rfl, rfl, ?len, szT 2 (by decide), fun p3 np3 => ⟨szT 2 (by decide), fun p4 np4 => ⟨szT 4 (by decide), fun q5 nq5 => ?_⟩⟩⟩
        case len => rw [small_len (m3 d2).1 (by have := (m3 d2).2; omega)]; decide +kernel
        have sd1 := snew (o := .tup [.str "text", .str (("t" : Str) ++ Str.ofString (toString (d2 % 3)))]) np3
        have se1 := snew (o := .tup [.str "text", .str "u"]) np4
        have sf1 := snew (o := .lst [.ref p1, .ref p2, .ref p3, .ref p4]) nq5
        have t1 := Tp.mk (xs := [.str "keep"]) (ds := [.str "keep"]) np1 (.one (.str _))
        have t2 := Tp.mk (xs := [.str "drop"]) (ds := [.str "drop"]) np2 (.one (.str _))
        have t3 := Tp.mk (xs := [.str "text", .str (("t" : Str) ++ Str.ofString (toString (d2 % 3)))]) (ds := [.str "text", .str (("t" : Str) ++ Str.ofString (toString (d2 % 3)))]) np3 (.cons (.str _) (.one (.str _)))
        have t4 := Tp.mk (xs := [.str "text", .str "u"]) (ds := [.str "text", .str "u"]) np4 (.cons (.str _) (.one (.str _)))
        rw [show PyData.str (("t" : Str) ++ Str.ofString (toString (d2 % 3))) = PyData.str (Tx.T kT).s from congrArg PyData.str eT] at t3
        have tall : Tps _ [.ref p1, .ref p2, .ref p3, .ref p4] ([Chg.keep, .drop, .text (Tx.T kT), .text .U].map eCh) := .cons (Tp.mono (Tk.of (sc1.trans (sd1.trans (se1.trans sf1)))) t1) (.cons (Tp.mono (Tk.of (sd1.trans (se1.trans sf1))) t2) (.cons (Tp.mono (Tk.of (se1.trans sf1)) t3) (.one (Tp.mono (Tk.of sf1) t4))))
        obtain ⟨j, hj, hj2⟩ : ∃ j : Nat, d3 % 4 = (j : Int) ∧ j < 4 := ⟨(d3 % 4).toNat, by have := (m4 d3).1; omega, by have := (m4 d3).2; have := (m4 d3).1; omega⟩
        obtain ⟨ch, hch⟩ : ∃ ch, [Chg.keep, .drop, .text (Tx.T kT), .text .U][j]? = some ch := ⟨_, List.getElem?_eq_getElem hj2⟩
        obtain ⟨v0, hv0, tv0⟩ := tall.get (i := j) (d := eCh ch) (by rw [List.getElem?_map, hch]; rfl)
        obtain ⟨cx, hcx⟩ : ∃ cx, v0 = .ref cx := by
          cases ch with
          | keep => obtain ⟨c, _, e, _⟩ := Tp.tupE (ds := [.str "keep"]) tv0; exact ⟨c, e⟩
          | drop => obtain ⟨c, _, e, _⟩ := Tp.tupE (ds := [.str "drop"]) tv0; exact ⟨c, e⟩
          | text t => obtain ⟨c, _, e, _⟩ := Tp.tupE (ds := [.str "text", .str t.s]) tv0; exact ⟨c, e⟩
        subst hcx
        refine ⟨_, rfl, l2, _, 3, _, rfl, rfl, SqL.of (sf1 _ _ (se1 _ _ (sd1 _ _ (sabc _ _ hl24)))), at_of (j := 3) rfl rfl, _, _, rfl, rfl, (by show (0 : Int) < 4; decide), q5, _, _, .ref cx, rfl, rfl, SqL.of upd_same, at_of (j := j) hj hv0, ?_⟩
        have s5 := sabc.trans (sd1.trans (se1.trans sf1))
      case' B =>
        have s5 := snew (o := .tup [.str "code", .str "prose"]) np0
        have tv0 := Tp.mono (Tk.of s5) tc0
        obtain ⟨ch, hch⟩ : ∃ ch : Chg Tx, ch = .keep := ⟨_, rfl⟩
        rw [← hch] at tv0
        obtain ⟨cx, hcx⟩ : ∃ cx, cx = c0 := ⟨_, rfl⟩
        rw [← hcx] at tv0
        rw [← hcx]
      all_goals
        have hla5 := s5 _ _ (s4 _ _ hla)
        refine ⟨_, rfl, _, rfl, la, _, 1, _, rfl, rfl, .inl (.of hla5), at_of (j := 1) rfl rfl, szT 2 (by decide), fun p5 np5 => ⟨eCh ch, eCh (.text doc[at_].tx), (Tp.mono (Tk.of (snew np5)) tv0).dp, (Tp.mk (xs := [.str "text", .str doc[at_].tx.s]) (ds := [.str "text", .str doc[at_].tx.s]) np5 (.cons (.str _) (.one (.str _)))).dp, ch_shaped ch, ch_shaped _, _, rfl, ite2 (fun _ => ?_) (fun _ => ?_)⟩⟩
        refine ⟨szT 1 (by decide), fun cy np6 => ?_⟩
        have s6 := s5.trans ((snew np5).trans (snew (o := .tup [.str "keep"]) np6))
        have tv6 := Tp.mk (xs := [.str "keep"]) (ds := [.str "keep"]) np6 (.one (.str _))
        obtain ⟨cd, hcd⟩ : ∃ cd : Chg Tx, cd = .keep := ⟨_, rfl⟩
        rw [show PyData.tuple [.str "keep"] = eCh cd by rw [hcd]; rfl] at tv6
        rotate_left
        have s6 := s5.trans (snew (o := .tup [.str "text", .str doc[at_].tx.s]) np5)
        have tv6 := Tp.mono (Tk.of (snew (o := .tup [.str "text", .str doc[at_].tx.s]) np5)) tv0
        obtain ⟨cd, hcd⟩ : ∃ cd : Chg Tx, cd = ch := ⟨_, rfl⟩
        rw [← hcd] at tv6
        obtain ⟨cy, hcy⟩ : ∃ cy, cy = cx := ⟨_, rfl⟩
        rw [← hcy] at tv6 ⊢
        all_goals
          obtain ⟨b4, hb4, hb42⟩ : ∃ j : Nat, d4 % 4 = (j : Int) ∧ j < 4 := ⟨(d4 % 4).toNat, by have := (m4 d4).1; omega, by have := (m4 d4).2; have := (m4 d4).1; omega⟩
          obtain ⟨n, hn, hn2⟩ : ∃ n : Nat, ([.int 0, .int 1, .int 0, .int 2] : List V)[b4]? = some (.int n) ∧ n ≤ 2 := by
            match b4, hb42 with
            | 0, _ => exact ⟨0, rfl, by omega⟩
            | 1, _ => exact ⟨1, rfl, by omega⟩
            | 2, _ => exact ⟨0, rfl, by omega⟩
            | 3, _ => exact ⟨2, rfl, by omega⟩
          refine ⟨_, rfl, szT 4 (by decide), fun q7 nq7 => ?_⟩
          have s7 := s6.trans (snew (o := .lst [.int 0, .int 1, .int 0, .int 2]) nq7)
          refine ⟨_, rfl, l2, _, 4, _, rfl, rfl, SqL.of (s7 _ _ hl24), at_of (j := 4) rfl rfl, _, _, rfl, rfl, (by show (0 : Int) < 4; decide), q7, _, _, .int n, rfl, rfl, SqL.of upd_same, at_of (j := b4) hb4 hn, ?_⟩
          obtain ⟨bh, hbh⟩ : ∃ bh : List Tx, bh = [Tx.N kN, .M, .E].take n := ⟨_, rfl⟩
          have hb2 : bh.length ≤ 2 := by rw [hbh, List.length_take]; exact Nat.le_trans (Nat.min_le_left _ _) hn2
          have ecut : cutV [.str (Tx.N kN).s, .str "m", .str ""] none (some (n : Int)) = bh.map fun t => V.str t.s := by
            rw [hbh, cutV_take (by show n ≤ 3; omega), List.map_take]
            rfl
          refine ⟨n, rfl, ta, _, rfl, SqL.of (s7 _ _ hta4), fun p8 np8 => ⟨p8, _, rfl, .inl ⟨SqL.of upd_same, fun bb nbb => ?_⟩⟩⟩
          have s8 := s7.trans ((snew np8).trans (snew (o := .tup (cutV [.str (Tx.N kN).s, .str "m", .str ""] none (some (n : Int)))) nbb))
          have tb8 : Tp _ (.ref bb) (eBh bh) := Tp.mk (xs := cutV [.str (Tx.N kN).s, .str "m", .str ""] none (some (n : Int))) (ds := bh.map fun t => .str t.s) nbb (by rw [ecut]; exact strsP _ bh)
          have tv8 := Tp.mono (Tk.of ((snew nq7).trans ((snew np8).trans (snew (o := .tup (cutV [.str (Tx.N kN).s, .str "m", .str ""] none (some (n : Int)))) nbb)))) tv6
          refine ⟨_, rfl, szT 1 (by decide), fun p9 np9 => ⟨eCh cd, eCh .keep, (Tp.mono (Tk.of (snew np9)) tv8).dp, (Tp.mk (xs := [.str "keep"]) (ds := [.str "keep"]) np9 (.one (.str _))).dp, ch_shaped cd, ch_shaped .keep, _, rfl, ite2 (fun _ => iteT ?_) (fun _ => ⟨_, rfl, bb, _, rfl, .inr (.of ((snew np9) _ _ upd_same)), _, _, rfl, rfl, _, rfl, ite2 (fun _ => ?_) (fun _ => ?_)⟩)⟩⟩
          rotate_right
          have s9 := s4.trans (s8.trans (snew (o := .tup [.str "keep"]) np9))
          have sk9 := s8.trans (snew (o := .tup [.str "keep"]) np9)
          exact ⟨⟨_, _, _, _, _, _, _, rfl⟩, s9, kvs, l, sk9 _ _ hfa4, ft4.mono (Tk.of sk9), nd, hl, Nat.le_succ_of_le hle⟩
          all_goals
            have sk9 := s8.trans (snew (o := .tup [.str "keep"]) np9)
            have tv9 := Tp.mono (Tk.of (snew (o := .tup [.str "keep"]) np9)) tv8
            have tb9 := Tp.mono (Tk.of (snew (o := .tup [.str "keep"]) np9)) tb8
            refine ⟨szT 0 (by decide), fun e0 ne0 => ⟨_, rfl, _, rfl, szT 3 (by decide), fun w0 nw0 => ?_⟩⟩
            have sx := (snew (o := .tup []) ne0).trans (snew (o := .tup [.ref e0, .ref cy, .ref bb]) nw0)
            have skx := sk9.trans sx
            have te0 := Tp.mk (xs := []) (ds := []) ne0 .nil
            have se0 := snew (o := .tup []) ne0
            have tw : Tp _ (.ref w0) (eFt { chg := cd, behind := bh }) := Tp.mk (xs := [.ref e0, .ref cy, .ref bb]) (ds := [.tuple [], eCh cd, eBh bh]) nw0 (.cons te0 (.cons (Tp.mono (Tk.of se0) tv9) (.one (Tp.mono (Tk.of se0) tb9))))
            have hfx := skx _ _ hfa4
            have ftx := (ft4.mono (Tk.of skx)).put at_ tw
            have hlx := ptF_len l at_ { chg := cd, behind := bh }
            refine ⟨_, rfl, _, rfl, fa, _, rfl, .inl ⟨kvs, .inl (at_ : Int), hfx, rfl, ?_, rfl⟩, ⟨_, _, _, _, _, _, _, rfl⟩, sput (s4.trans skx) nfa, _, ptF l at_ { chg := cd, behind := bh }, upd_same, ftx.mono (Tk.updN fun xs e => by rw [hfx] at e; cases e), ptF_nodup _ _ nd, fun q hq => ?_, by omega⟩
            · have := ft.len
              exact Nat.lt_of_le_of_lt (Nat.le_trans (Nat.le_of_eq this) (by omega : l.length ≤ 10)) (by decide)
            · rcases ptF_mem hq with z | rfl
              · exact hl q z
              · exact ⟨hat2, hb2⟩
    · rintro σ H1 ⟨⟨u5, u6, u7, u8, u9, u10, u11, rfl⟩, s1, kvs, l, hfa, ft, nd, hl, hle⟩
      exact ⟨_, rfl, q H1 fa kvs l s1 nfa hfa ft nd hl hle⟩
end
end Wh

namespace Wh
open PySem PySem.Spec PyProof.Rows L2 Wf
abbrev sLCh : Stmt := top 33
/-- the law's change, with its list of names unowned -/
def LCo (H : Hp) (ow : Ow) (ca : Addr) (v : V) (c : LC0) : Prop := ∃ a nl : Addr, v = .ref a ∧ H a = some (.tup [vN c.num, .str c.author.s, .bl c.stands, .ref nl]) ∧ Lst H nl (c.named.map eNF) ∧ ow nl = none ∧ nl ≠ ca
structure LCx (H : Hp) (ow : Ow) (ca : Addr) (cs : List LC0) : Prop where
  own : ow ca = none
  ex : ∃ xs : List V, H ca = some (.lst xs) ∧ xs.length = cs.length ∧ ∀ (j : Nat) (v : V) (c : LC0), xs[j]? = some v → cs[j]? = some c → LCo H ow ca v c
theorem LCo.lc {H : Hp} {ow : Ow} {ca : Addr} {v : V} {c : LC0} (h : LCo H ow ca v c) : LC H v c := by
  obtain ⟨a, nl, e, h1, h2, _, _⟩ := h
  exact ⟨a, nl, e, h1, h2⟩
theorem LCx.lcs {H : Hp} {ow : Ow} {ca : Addr} {cs : List LC0} (h : LCx H ow ca cs) : LCs H ca cs := by
  obtain ⟨xs, h1, h2, h3⟩ := h.ex
  exact ⟨xs, h1, h2, fun j v c e1 e2 => (h3 j v c e1 e2).lc⟩
/-- what no history holds stays -/
structure Stay (P : Addr) (ca : Addr) (H H' : Hp) (ow ow' : Ow) : Prop where
  rest : ∀ a o, a ≠ P → a ≠ ca → H a = some o → ow a = none → H' a = some o ∧ ow' a = none
  tk : Tk H H'
theorem LCo.stay {P : Addr} {H H' : Hp} {ow ow' : Ow} {ca : Addr} {v : V} {c : LC0} (s : Stay P ca H H' ow ow') (t : GxR.TabG H P) (h : LCo H ow ca v c) : LCo H' ow' ca v c := by
  obtain ⟨a, nl, e, h1, ⟨xs, h2, h3⟩, h4, h5⟩ := h
  have nP : nl ≠ P := tab_ne t h2 fun q z => by cases z
  obtain ⟨g1, g2⟩ := s.rest _ _ nP h5 h2 h4
  exact ⟨a, nl, e, s.tk _ _ h1, ⟨xs, g1, Tps.mono s.tk h3⟩, g2, h5⟩
theorem LCx.stay {P : Addr} {H H' : Hp} {ow ow' : Ow} {ca : Addr} {cs : List LC0} (s : Stay P ca H H' ow ow') (t : GxR.TabG H P) (e : H' ca = H ca) (o : ow' ca = none) (h : LCx H ow ca cs) : LCx H' ow' ca cs := by
  obtain ⟨xs, h1, h2, h3⟩ := h.ex
  exact ⟨o, xs, e.trans h1, h2, fun j v c e1 e2 => (h3 j v c e1 e2).stay s t⟩
theorem Stay.mv {P ca p : Addr} {s : Sh} {M : Nat} {c : Cs} {b : B Tx} {es : List (Ev Tx)} {H H' : Hp} {ow ow' : Ow} (x : Mv P H H' ow ow') (h : HSh c P H ow p s M b es) : Stay P ca H H' ow ow' := ⟨fun a o n _ e n2 => x.rest a o n e n2, x.tk h⟩
theorem Stay.ex {P ca : Addr} {H H' : Hp} {ow : Ow} (x : Ex P H H') (t : GxR.TabG H P) : Stay P ca H H' ow ow := ⟨fun a o n _ e n2 => ⟨x.1 a o e n, n2⟩, x.tk t⟩
theorem Stay.trans {P ca : Addr} {H H1 H2 : Hp} {ow ow1 ow2 : Ow} (x : Stay P ca H H1 ow ow1) (y : Stay P ca H1 H2 ow1 ow2) : Stay P ca H H2 ow ow2 :=
  ⟨fun a o n m e n2 => y.rest a o n m (x.rest a o n m e n2).1 (x.rest a o n m e n2).2, x.tk.trans y.tk⟩
theorem Stay.put {P ca : Addr} {H : Hp} {ow : Ow} {xs ys : List V} (h : H ca = some (.lst xs)) : Stay P ca H (upd H ca (.lst ys)) ow ow := ⟨fun a o _ m e n => ⟨by rw [upd_ne m]; exact e, n⟩, Tk.lst h⟩
/-- the script: of the frozen part, or held by no history -/
def Scr (K : PySem.W.Frag) (H : Hp) (ow : Ow) (ca a : Addr) (xs : List V) : Prop := (Rd H a (.lst xs) ∧ ow a = none ∧ a ≠ ca) ∨ ∃ (o : Obj) (its : Array Value) (n : Nat), K.lookup a = some o ∧ o.cls = .type "list" ∧ o.dict = none ∧ o.data = .seq its n ∧ its.size ≤ sizeLine ∧ Vals xs its.toList
theorem Scr.sq {K : PySem.W.Frag} {H : Hp} {ow : Ow} {ca a : Addr} {xs : List V} (h : Scr K H ow ca a xs) : SqL K H a xs := by
  rcases h with h | h
  · exact .inl h.1
  · exact .inr h
theorem Scr.stay {P ca : Addr} {K : PySem.W.Frag} {H H' : Hp} {ow ow' : Ow} {a : Addr} {xs : List V} (s : Stay P ca H H' ow ow') (t : GxR.TabG H P) (h : Scr K H ow ca a xs) : Scr K H' ow' ca a xs := by
  rcases h with ⟨h | ⟨o, h⟩, hn, n⟩ | h
  · obtain ⟨g1, g2⟩ := s.rest _ _ (tab_ne t h fun q z => by cases z) n h hn
    exact .inl ⟨.inl g1, g2, n⟩
  · obtain ⟨g1, g2⟩ := s.rest _ _ (tab_ne t h fun q z => by cases z) n h hn
    exact .inl ⟨.inr ⟨o, g1⟩, g2, n⟩
  · exact .inr h
abbrev lcs0 (doc : List Ln) (es : List (Ev Tx)) : List LC0 := lchs (build doc es) 1 es
structure LSt (c : Cs) (P : Addr) (H : Hp) (ow : Ow) (p da ca : Addr) (doc : List Ln) (es : List (Ev Tx)) : Prop where
  hist : HistAt c P H ow p (build doc es) es
  tda : Tp H (.ref da) (.tuple (doc.map eLn))
  lcx : LCx H ow ca (lcs0 doc es)
  law : LawSt doc es
  few : es.length ≤ 12
theorem LSt.tab {c : Cs} {P : Addr} {H : Hp} {ow : Ow} {p da ca : Addr} {doc : List Ln} {es : List (Ev Tx)} (h : LSt c P H ow p da ca doc es) : GxR.TabG H P := by
  obtain ⟨s, h⟩ := h.hist
  exact h.tab
theorem LSt.ex {c : Cs} {P : Addr} {H H' : Hp} {ow : Ow} {p da ca : Addr} {doc : List Ln} {es : List (Ev Tx)} (h : LSt c P H ow p da ca doc es) (x : Ex P H H') : LSt c P H' ow p da ca doc es := by
  obtain ⟨s, hs⟩ := h.hist
  obtain ⟨xs, h1, _⟩ := h.lcx.ex
  have n : ca ≠ P := tab_ne hs.tab h1 fun q z => by cases z
  exact ⟨⟨s, hs.ex x⟩, Tp.mono (x.tk hs.tab) h.tda, h.lcx.stay (.ex x hs.tab) hs.tab (by rw [h1]; exact x.1 _ _ h1 n) h.lcx.own, h.law, h.few⟩
theorem _root_.Wf.LawSt.numOk {doc : List Ln} {es : List (Ev Tx)} (h : LawSt doc es) (few : es.length ≤ 12) : NumOk (build doc es) es where
  born := fun i hi => Nat.le_of_lt_succ (h.good.low i hi)
  txt := fun i hi q hq => Nat.le_of_lt_succ (h.good.lowT i hi q hq)
  drp := fun i hi d hd => Nat.le_of_lt_succ (h.good.lowD i hi d hd)
  ord := fun i hi => (h.good.mem i).mp hi
  len := by have := h.bnd.order; omega
theorem nSum_le : ∀ (es : List (Ev Tx)) (b : B Tx) (n : Nat), (∀ e ∈ es, e.fates.length ≤ 3) → nSum (lchs b n es) ≤ 3 * es.length
  | [], _, _, _ => Nat.le_refl _
  | e :: es, b, n, h => by
    have h1 := nSum_le es b (n + 1) fun e' he => h e' (List.mem_cons_of_mem _ he)
    have h2 := h e List.mem_cons_self
    unfold lchs
    have h3 := nSum_app [⟨n, e.author, e.stands, e.fates.map fun q => ((b.at q.1).nm, q.2)⟩] (lchs b (n + 1) es)
    rw [List.singleton_append, nSum_one, List.length_map] at h3
    rw [h3, List.length_cons]
    omega
theorem lchs_mem {b : B Tx} {n : Nat} {es : List (Ev Tx)} {x : LC0} (h : x ∈ lchs b n es) : ∃ (j : Nat) (e : Ev Tx), es[j]? = some e ∧ x = ⟨n + j, e.author, e.stands, e.fates.map fun q => ((b.at q.1).nm, q.2)⟩ := by
  obtain ⟨j, hj⟩ := List.mem_iff_getElem?.mp h
  rw [lchs_get] at hj
  cases q : es[j]? with
  | none => rw [q] at hj; cases hj
  | some e =>
    rw [q] at hj
    exact ⟨j, e, q, (Option.some.inj hj).symm⟩
theorem _root_.Wf.LawSt.deps {doc : List Ln} {es : List (Ev Tx)} (h : LawSt doc es) (few : es.length ≤ 12) : ∀ x ∈ lcs0 doc es, ∀ p ∈ x.named, dN p.1 ≤ 59 ∧ p.2.behind.length ≤ 2 := fun x hx p hp => by
  obtain ⟨j, e, he, rfl⟩ := lchs_mem hx
  obtain ⟨q, hq, rfl⟩ := List.mem_map.mp hp
  have := h.dep q.1 (h.ids he q hq)
  exact ⟨by show dN ((build doc es).at q.1).nm ≤ 59; omega, h.beh e (List.mem_of_getElem? he) q hq⟩
theorem _root_.Wf.LawSt.repD {doc : List Ln} {es : List (Ev Tx)} (h : LawSt doc es) (few : es.length ≤ 12) : RepD doc (lcs0 doc es) where
  rep := h.rep
  dep := h.deps few
  few := by
    have h1 := nSum_le es (build doc es) 1 h.few
    have h2 := h.doc
    show doc.length + 2 * nSum (lchs (build doc es) 1 es) ≤ 600
    omega
theorem _root_.Wf.LawSt.up {doc : List Ln} {es : List (Ev Tx)} (h : LawSt doc es) : upRows doc (lcs0 doc es) = (present (stands es) (build doc es)).map fun i => rowOf (stands es) ((build doc es).at i) := by
  unfold upRows lcs0
  rw [h.rows]
  exact present_rows _ _
theorem _root_.Wf.LawSt.snoc {doc : List Ln} {es : List (Ev Tx)} {e : Ev Tx} (h : LawSt doc es) (h2 : LawSt doc (es ++ [e])) (hp : ∀ q ∈ e.fates, q.1 < (build doc es).kept.length) : lcs0 doc (es ++ [e]) = lcs0 doc es ++ [⟨es.length + 1, e.author, e.stands, e.fates.map fun q => (((build doc es).at q.1).nm, q.2)⟩] := by
  have old : ∀ j, j < (build doc es).kept.length → ((build doc (es ++ [e])).at j).nm = ((build doc es).at j).nm := by
    intro j hj
    have e1 : build doc (es ++ [e]) = buildFrom (1 + es.length) (build doc es) [e] := build_app es [e] 1 (Wf.init doc)
    rw [e1]
    have ok2 := ((ok_app _ _).mp h2.ok).2
    have g := h.good
    rw [Nat.add_comm] at g
    exact ((build_good [e] g ok2).2.2 j hj).1
  unfold lcs0
  rw [lchs_app]
  congr 1
  · exact lchs_congr 1 es fun e' he q hq => by
      obtain ⟨j, hj⟩ := List.mem_iff_getElem?.mp he
      exact old _ (h.ids hj q hq)
  · unfold lchs
    rw [Nat.add_comm 1 es.length]
    congr 2
    refine List.map_congr_left fun q hq => ?_
    rw [old _ (hp q hq)]
theorem namedOf_nd {es : List (Ev Tx)} {b : B Tx} {l sl : List (Nat × Ft)} (sr : Srt l sl) (hn : (present (stands es) b).Nodup) (hlt : ∀ q ∈ sl, q.1 < (present (stands es) b).length) : ((namedOf es b sl).map (·.1)).Nodup := by
  unfold namedOf
  rw [List.map_map]
  refine List.pairwise_iff_getElem.mpr fun i j hi hj lt e => ?_
  rw [List.length_map] at hi hj
  rw [List.getElem_map, List.getElem_map] at e
  have hi' := hlt _ (List.getElem_mem hi)
  have hj' := hlt _ (List.getElem_mem hj)
  have e1 : (present (stands es) b).getD sl[i].1 0 = (present (stands es) b)[sl[i].1] := by rw [List.getD_eq_getElem?_getD, List.getElem?_eq_getElem hi']; rfl
  have e2 : (present (stands es) b).getD sl[j].1 0 = (present (stands es) b)[sl[j].1] := by rw [List.getD_eq_getElem?_getD, List.getElem?_eq_getElem hj']; rfl
  have e3 : (present (stands es) b).getD sl[i].1 0 = (present (stands es) b).getD sl[j].1 0 := e
  rw [e1, e2] at e3
  have e4 := nd_inj hn hi' hj' e3
  have e6 := List.pairwise_iff_getElem.mp sr.inc i j (by rw [List.length_map]; exact hi) (by rw [List.length_map]; exact hj) lt
  rw [List.getElem_map, List.getElem_map] at e6
  omega
theorem HSh.putO {c : Cs} {P : Addr} {H : Hp} {ow : Ow} {p : Addr} {s : Sh} {M : Nat} {b : B Tx} {es : List (Ev Tx)} (h : HSh c P H ow p s M b es) {a : Addr} {xs ys : List V} (e : H a = some (.lst xs)) (n : ow a = none) : HSh c P (upd H a (.lst ys)) ow p s M b es := by
  refine h.mono (Tk.lst e) (fun x u hu => upd_ne fun z => ?_) ?_
  · rw [z, n] at hu
    cases hu
  · obtain ⟨ps, e2, q⟩ := h.tab
    refine ⟨ps, ?_, q⟩
    rw [upd_ne fun z => ?_]
    · exact e2
    · rw [z, e] at e2
      cases e2
theorem LCx.push {P : Addr} {H H' : Hp} {ow ow' : Ow} {ca : Addr} {cs : List LC0} {v : V} {x : LC0} (s : Stay P ca H H' ow ow') (t : GxR.TabG H P) (h : LCx H ow ca cs) (o : ow' ca = none) (e : ∀ xs, H ca = some (.lst xs) → H' ca = some (.lst (xs ++ [v]))) (hv : LCo H' ow' ca v x) : LCx H' ow' ca (cs ++ [x]) := by
  obtain ⟨xs, h1, h2, h3⟩ := h.ex
  refine ⟨o, xs ++ [v], e xs h1, by rw [List.length_append, List.length_append, h2]; rfl, fun j v1 c1 e1 e2 => ?_⟩
  by_cases hj : j < xs.length
  · rw [List.getElem?_append_left hj] at e1
    rw [List.getElem?_append_left (by omega)] at e2
    exact (h3 j v1 c1 e1 e2).stay s t
  · rw [List.getElem?_append_right (by omega)] at e1
    rw [List.getElem?_append_right (by omega)] at e2
    have lt := (List.getElem?_eq_some_iff.mp e1).1
    have : j - xs.length = 0 := by
      have : ([v] : List V).length = 1 := rfl
      omega
    rw [this] at e1
    rw [← h2, this] at e2
    cases e1
    cases e2
    exact hv
end Wh

namespace Wh
open PySem PySem.Spec PyProof.Rows L2 Wf
def spLCh (K : PySem.W.Frag) (c : Cs) (Pt : Addr) : Sp := fun vs H Q _ => ∃ (p da ca ra sa : Addr) (ow : Ow) (doc : List Ln) (es : List (Ev Tx)) (ns : List Int) (k : Nat), vs = [.ref p, .ref da, .ref ca, .ref ra, .ref sa, vN k] ∧
  LSt c Pt H ow p da ca doc es ∧ Lst H ra ((upRows doc (lcs0 doc es)).map eRow) ∧ ow ra = none ∧ ra ≠ ca ∧ upRows doc (lcs0 doc es) ≠ [] ∧ Scr K H ow ca sa (ns.map V.int) ∧ k ≤ 11 ∧ es.length ≤ 11 ∧
  ∀ H' ow' e, LSt c Pt H' ow' p da ca doc (es ++ [e]) → Stay Pt ca H H' ow ow' → Q (.bl true) H'
section
variable {P : Program} {w : World} {K : PySem.W.Frag} {mg : Str → Option Value} {base : Heap} {c : Cs} {Pt : Addr}
theorem scLCh : FnScope ["_law_history", "_law_document", "_law_changes", "_law_rows", "_law_script", "_law_k", "_law_fates", "_law_author", "_law_number", "_law_named", "_law_row", "_law_at"] ["_law_history", "_law_document", "_law_changes", "_law_rows", "_law_script", "_law_k"] (defScope sLCh) := ⟨rfl, rfl, rfl, by decide +kernel, rfl, by decide +kernel, by decide +kernel⟩
theorem ok_lch {f : Addr} {fd : FuncData} (F : FnD K "_law_change" "_law_change" sLCh f fd) (T : Bt mg) (hm : mg "_law_change" = some (.ref f)) (GC : Fn P w K mg base CX0 1 "_law_cell" (spCell K)) (GHF : Fn P w K mg base CX0 2 "_law_history_fates" (spHF K)) (GCh : Mt P w K mg base CX0 4 c.CH "change" (spChange c Pt)) : Fn P w K mg base CX0 5 "_law_change" (spLCh K c Pt) := by
  refine ⟨f, fd, ["_law_history", "_law_document", "_law_changes", "_law_rows", "_law_script", "_law_k"], fok F scLCh (fun vs H Q E h => ?_) (fun cdv A outer s H vs Q E hr h => ?_), hm, F.kp, F.bindsN fun _ _ _ _ _ _ us hl => match us, hl with | [_, _, _, _, _, _], _ => rfl⟩
  · obtain ⟨p, da, ca, ra, sa, ow, doc, es, ns, k, rfl, _⟩ := h
    rfl
  · obtain ⟨p, da, ca, ra, sa, ow, doc, es, ns, k, rfl, L, hra, ora, nra, hne, hS, hk, hes, q⟩ := h
    refine ⟨_, pss_cons (ps_set (i := 6) scLCh.nd rfl (.inr rfl) (pe_fn GHF hr (by decide) pass0 (pa_cons (pe_lc (own := [("_law_row", 10)]) (g := gName 10) (tt := tYes) (te := tOp (rIxT K) (tVar 10) (tC (.int 2))) rfl scLCh.nd (pi_list (pv 3)) (blkOk_by (own := [("_law_row", 10)]) (N := ["_law_history", "_law_document", "_law_changes", "_law_rows", "_law_script", "_law_k", "_law_fates", "_law_author", "_law_number", "_law_named", "_law_row", "_law_at"]) (sc := defScope sLCh) (by decide +kernel)) (fun _ _ _ _ _ => pg_name (i := 10) scLCh.nd rfl (.inl rfl)) (fun _ _ _ _ _ => pts_nil) (fun _ _ _ _ _ => pe_ix ix_tup (pv 10) pe_int (fun _ _ => rfl))) (pa_cons (pv 4) (pa_cons (pe_op op_add pe_int (pe_op op_mul pe_int (pv 5))) (pa_cons (pe_op op_add pe_int (pe_op op_mod (pe_op op_fdivN (pe_fn GC hr (by decide) pass0 (pa_cons (pv 4) (pa_cons pe_int pa_nil))) (pe_op op_add (pv 5) pe_int)) pe_int)) pa_nil))))))
      (pss_cons (ps_set (i := 7) scLCh.nd rfl (.inl rfl) (pe_ix ix_list (pe_lst (pa_cons pe_str (pa_cons pe_str pa_nil))) (pe_op op_mod (pe_fn GC hr (by decide) pass0 (pa_cons (pv 4) (pa_cons (pe_op op_add pe_int (pe_op op_mul pe_int (pv 5))) pa_nil))) pe_int) (fun _ _ => rfl)))
      (pss_cons (ps_set (i := 8) scLCh.nd rfl (.inl rfl) (pe_mt GCh hr (by decide) pass0 (pv 0) (pa_cons (pv 7) (pa_cons (pe_callTy call_dictD (by rfl) T.dict (by decide +kernel) (pa_cons (pv 6) pa_nil)) pa_nil))))
      (pss_cons (ps_setLc (i := 9) (own := [("_law_at", 11)]) (g := gName 11) (tt := tYes) (te := tTup (tCons (tOp (rIxT K) (tOp (rIxL K) (tVar 3) (tVar 11)) (tC (.int 0))) (tCons (tDGet (tVar 6) (tVar 11)) tNil))) rfl scLCh.nd rfl rfl (sw_true rfl rfl rfl (by decide +kernel)) (pi_list (pe_callB (call_sortedDI rfl) (by rfl) T.sorted (by decide +kernel) (pa_cons (pv 6) pa_nil))) (blkOk_by (own := [("_law_at", 11)]) (N := ["_law_history", "_law_document", "_law_changes", "_law_rows", "_law_script", "_law_k", "_law_fates", "_law_author", "_law_number", "_law_named", "_law_row", "_law_at"]) (sc := defScope sLCh) (by decide +kernel)) (fun _ _ _ _ _ => pg_name (i := 11) scLCh.nd rfl (.inl rfl)) (fun _ _ _ _ _ => pts_nil) (fun _ _ _ _ _ => pe_tup (pa_cons (pe_ix ix_tup (pe_ix ix_list (pv 3) (pv 11) (fun _ _ => rfl)) pe_int (fun _ _ => rfl)) (pa_cons (pe_dget (hu_of hr) (pv 6) (pv 11) (fun _ _ => rfl)) pa_nil))))
      (pss_cons (ps_expr (pe_bm PySem.F.plainAttrs_list PySem.F.slot_list_append PySem.F.type_list_append mt_append (pv 2) (pa_cons (pe_tup (pa_cons (pe_op op_add (pe_callB call_len_seq (by rfl) T.len PySem.boot_len (pa_cons (pv 2) pa_nil)) pe_int) (pa_cons (pv 7) (pa_cons pe_bl (pa_cons (pv 9) pa_nil))))) pa_nil)))
      (pss_one (ps_ret (pe_cmpR op_eq (pv 8) (pe_callB call_len_seq (by rfl) T.len PySem.boot_len (pa_cons (pv 2) pa_nil)) (nomark _)))))))), ?_⟩
    obtain ⟨rw_, erw⟩ : ∃ r, r = upRows doc (lcs0 doc es) := ⟨_, rfl⟩
    rw [← erw] at hra hne
    obtain ⟨xs, hxs, tx⟩ := hra
    have hxl : xs.length = rw_.length := by rw [tx.len, List.length_map]
    have tab := L.tab
    have rlen : rw_.length ≤ 120 := by
      have h1 := L.law.bnd.order
      have h2 : (present (stands es) (build doc es)).length ≤ (build doc es).order.length := List.length_filter_le _ _
      rw [erw, L.law.up, List.length_map]
      omega
    refine ⟨_, rfl, ra, rfl, ⟨_, SqL.of hxs⟩, fun D nD => ?_⟩
    refine lc_it (walk_list (xs := xs)) (fun i H' => Same H H' ∧ Lst H' D ((rw_.take i).map fun r => eLn r.line)) ⟨snew nD, by rw [List.take_zero]; exact ⟨[], upd_same, .nil⟩⟩ (fun i H' _ z => SqL.of (z.1 _ _ hxs)) ?_ ?_
    · rintro i x H3 H4 hi ⟨s3, zs, hzs, tzs⟩ ⟨rfl, hx⟩
      have hil : i < rw_.length := by omega
      have hz : rw_[i]? = some rw_[i] := List.getElem?_eq_getElem hil
      obtain ⟨dd, hdd, tv⟩ := tx.at hx
      rw [List.getElem?_map, hz] at hdd
      cases hdd
      obtain ⟨b, rx, ry, _, rfl, hb, hrx, hry, hb2⟩ := row_read (Tp.mono (Tk.of s3) tv)
      have et : rw_.take (i + 1) = rw_.take i ++ [rw_[i]] := by rw [List.take_add_one, hz]; rfl
      have zl : zs.length ≤ i := by
        rw [tzs.len, List.length_map, List.length_take]
        omega
      refine ⟨rfl, _, rfl, b, _, 2, _, rfl, rfl, .inl (.of hb), at_of (j := 2) rfl rfl, zs, hzs, small1000 (by omega), sat s3 nD, ?_⟩
      rw [et, List.map_append]
      exact Lst.push hzs tzs hry
    · rintro H1 ⟨s1, hl1⟩
      rw [hxl, List.take_length] at hl1
      have c25 : (0 : Int) ≤ 25 := by decide
      refine ⟨_, rfl, _, rfl, _, _, rfl, rfl, .inl ⟨by decide, by decide⟩, _, _, rfl, rfl, _, rfl, sa, ns, 25, rfl, s1.seq hS.sq, by decide, fun z => ⟨_, rfl, _, _, rfl, rfl, _, _, rfl, rfl, ⟨by omega, by omega⟩, _, _, rfl, rfl, (by show (0 : Int) < 3; decide), _, _, rfl, rfl, ?_⟩⟩
      obtain ⟨m, em, hm3⟩ : ∃ m : Nat, (1 : Int) + z.fdiv ((k : Int) + 1) % 3 = (m : Int) ∧ m ≤ 3 := by
        have a1 := Int.emod_nonneg (z.fdiv ((k : Int) + 1)) (show (3 : Int) ≠ 0 by decide)
        have a2 := Int.emod_lt_of_pos (z.fdiv ((k : Int) + 1)) (show (0 : Int) < 3 by decide)
        exact ⟨((1 : Int) + z.fdiv ((k : Int) + 1) % 3).toNat, by omega, by omega⟩
      have hD1 : Lst H1 D ((rw_.map (·.line)).map eLn) := by
        rw [List.map_map]
        exact hl1
      refine ⟨D, sa, rw_.map (·.line), ns, 26 + 3 * k, m, by
        show [V.ref D, V.ref sa, V.int (26 + 3 * (k : Int)), V.int ((1 : Int) + z.fdiv ((k : Int) + 1) % 3)] = _
        rw [em]
        rfl, hD1, s1.seq hS.sq, hm3, by rw [List.length_map]; exact List.length_pos_iff.mpr hne, by rw [List.length_map]; omega, fun H2 fd kvs l s2 nfd hfd ft nd hl hlm => ?_⟩
      rw [List.length_map] at hl
      have s12 := s1.trans s2
      refine ⟨szT 2 (by decide), fun u0 nu0 => ⟨_, rfl, _, rfl, _, _, rfl, rfl, .inl ⟨by decide, by decide⟩, _, _, rfl, rfl, sa, ns, (26 : Int) + 3 * (k : Int), rfl, (s12.trans (snew nu0)).seq hS.sq, by omega, fun z2 => ?_⟩⟩
      obtain ⟨au, j, ej, hj⟩ : ∃ (au : Tx) (j : Nat), z2 % 2 = (j : Int) ∧ ([.str "ann", .str "bob"] : List V)[j]? = some (.str au.s) := by
        have : z2 % 2 = 0 ∨ z2 % 2 = 1 := by omega
        rcases this with e | e
        · exact ⟨.ann, 0, e, rfl⟩
        · exact ⟨.bob, 1, e, rfl⟩
      refine ⟨_, _, rfl, rfl, (by show (0 : Int) < 2; decide), u0, _, _, .str au.s, rfl, rfl, SqL.of upd_same, at_of (j := j) ej hj, ?_⟩
      have s3 := s12.trans (snew (o := .lst [.str "ann", .str "bob"]) nu0)
      have s23 := s2.trans (snew (o := .lst [.str "ann", .str "bob"]) nu0)
      have nfdH : H fd = none := s1.free nfd
      have hfd3 := snew (o := .lst [.str "ann", .str "bob"]) nu0 _ _ hfd
      have ft3 := ft.mono (Tk.of (snew (o := .lst [.str "ann", .str "bob"]) nu0))
      obtain ⟨H3, e3⟩ : ∃ H3, H3 = L2.upd H2 u0 (.lst [.str "ann", .str "bob"]) := ⟨_, rfl⟩
      rw [← e3] at s3 s23 hfd3 ft3
      show gName 7 (V.str au.s) _ (L2.upd H2 u0 (.lst [.str "ann", .str "bob"])) _
      rw [← e3]
      clear e3
      have L3 := L.ex (Ex.of tab s3)
      obtain ⟨hsh, hh⟩ := L3.hist
      refine ⟨_, rfl, p, _, _, rfl, hh.hp, rfl, _, rfl, _, rfl, fd, kvs, rfl, .of hfd3, fun f2 nf2 => ?_⟩
      have s4 := s3.trans (snew (o := .dK kvs) nf2)
      have tk34 : Tk H3 (L2.upd H3 f2 (.dK kvs)) := Tk.of (snew nf2)
      have of2 := hh.fresh nf2
      have ofd : ow fd = none := by
        obtain ⟨sh0, hh0⟩ := L.hist
        exact hh0.fresh nfdH
      have hfd4 := snew (o := .dK kvs) nf2 _ _ hfd3
      have hf24 : (L2.upd H3 f2 (.dK kvs)) f2 = some (.dK kvs) := upd_same
      obtain ⟨H4, e4⟩ : ∃ H4, H4 = L2.upd H3 f2 (.dK kvs) := ⟨_, rfl⟩
      rw [← e4] at s4 tk34 hfd4 hf24 ⊢
      clear e4
      have L4 := L.ex (Ex.of tab s4)
      obtain ⟨sh4, hh4⟩ := L4.hist
      obtain ⟨sl, sr⟩ := Srt.ex nd
      have ft4 := ft3.mono tk34
      obtain ⟨b, eb⟩ : ∃ b, b = build doc es := ⟨_, rfl⟩
      obtain ⟨e, ee⟩ : ∃ e : Ev Tx, e = ⟨au, true, namedOf es b sl⟩ := ⟨_, rfl⟩
      have erw2 : rw_ = (present (stands es) b).map fun i => rowOf (stands es) (b.at i) := by rw [erw, eb]; exact L.law.up
      have prl : rw_.length = (present (stands es) b).length := by rw [erw2, List.length_map]
      have few4 : es.length ≤ 12 := by omega
      refine ⟨p, ow, b, es, 3 * es.length, au, f2, kvs, l, sl, rfl, by rw [eb]; exact ⟨sh4, hh4⟩, by rw [eb]; exact L.law.numOk few4, by rw [eb]; exact L.law.bnd, by omega, by omega, by omega, hf24, of2, ft4, sr, fun q hq => by rw [← prl]; exact (hl q hq).1, fun q hq => (hl q hq).2, by rw [eb]; exact L.law.good.nd, fun H5 ow5 mv5 hist5 => ?_⟩
      have inl : ∀ {q : Nat × Ft}, q ∈ sl → q ∈ l := fun h => sr.perm.mem_iff.mp h
      have sll : sl.length = l.length := sr.perm.length_eq
      have hlt : ∀ q ∈ sl, q.1 < (present (stands es) b).length := fun q hq => by rw [← prl]; exact (hl q (inl hq)).1
      have getp : ∀ q ∈ sl, (present (stands es) b).getD q.1 0 ∈ present (stands es) b := fun q hq => by
        rw [List.getD_eq_getElem?_getD, List.getElem?_eq_getElem (hlt q hq)]
        exact List.getElem_mem _
      have lt_k : ∀ i ∈ present (stands es) b, i < b.kept.length := fun i hi => by
        rw [eb] at hi ⊢
        exact (L.law.good.mem i).mp (List.mem_filter.mp hi).1
      have law5 : LawSt doc (es ++ [e]) := by
        refine L.law.push ?_ ?_ ?_ ?_
        · rw [ee]
          exact namedOf_nd sr (by rw [eb]; exact (L.law.good.nd).filter _) hlt
        · rw [ee, ← eb]
          intro q hq
          obtain ⟨z, hz, rfl⟩ := List.mem_map.mp hq
          exact getp z hz
        · rw [ee]
          show (namedOf es b sl).length ≤ 3
          unfold namedOf
          rw [List.length_map]
          omega
        · rw [ee]
          intro q hq
          obtain ⟨z, hz, rfl⟩ := List.mem_map.mp hq
          exact (hl z (inl hz)).2
      have hist6 : HistAt c Pt H5 ow5 p (build doc (es ++ [e])) (es ++ [e]) := by
        rw [build_snoc, ee, ← eb]
        exact hist5
      have st5 : Stay Pt ca H4 H5 ow ow5 := Stay.mv mv5 hh4
      have hxs5 := (st5.rest _ _ (tab_ne hh4.tab (s4 _ _ hxs) fun q z => by cases z) nra (s4 _ _ hxs) ora)
      have nfdca : fd ≠ ca := fun z => by
        obtain ⟨cx, hcx, _⟩ := L.lcx.ex
        rw [z, hcx] at nfdH
        cases nfdH
      have hfd5 := (st5.rest _ _ (tab_ne hh4.tab hfd4 fun q z => by cases z) nfdca hfd4 ofd)
      have ft5 := ft4.mono st5.tk
      obtain ⟨nl, enl⟩ : ∃ nl : List (Nm × Ft), nl = e.fates.map fun q => ((b.at q.1).nm, q.2) := ⟨_, rfl⟩
      have enl2 : nl = sl.map fun q => ((b.at ((present (stands es) b).getD q.1 0)).nm, q.2) := by
        rw [enl, ee]
        show (namedOf es b sl).map _ = _
        unfold namedOf
        rw [List.map_map]
        rfl
      have nll : nl.length = sl.length := by rw [enl2, List.length_map]
      refine ⟨_, rfl, fd, kvs, l.map fun p => (p.1 : Int), rfl, .of hfd5.1, ?_, by rw [List.length_map]; omega, fun ys pa pm srt npa => ?_⟩
      · rw [ft.1, List.map_map]
        rfl
      obtain rfl := sr.uniq rfl pm srt
      refine ⟨pa, rfl, ⟨_, SqL.of upd_same⟩, fun D2 nD2 => ?_⟩
      have s6 : Same H5 (L2.upd H5 pa (.lst ((sl.map fun p => (p.1 : Int)).map V.int))) := snew npa
      have nD25 : H5 D2 = none := s6.free nD2
      have tk5 : Tk H H5 := (Tk.of s4).trans st5.tk
      refine lc_it (walk_list (xs := (sl.map fun p => (p.1 : Int)).map V.int)) (fun i H' => Same H5 H' ∧ H' pa = some (.lst ((sl.map fun p => (p.1 : Int)).map V.int)) ∧ Lst H' D2 ((nl.take i).map eNF))
        ⟨s6.trans (snew nD2), snew nD2 _ _ upd_same, by rw [List.take_zero]; exact ⟨[], upd_same, .nil⟩⟩ (fun i H' _ x => SqL.of x.2.1) ?_ ?_
      · rintro i x H6 H7 hi ⟨s7, hpa, zs, hzs, tzs⟩ ⟨rfl, hx⟩
        rw [List.length_map, List.length_map] at hi
        have hz : sl[i]? = some sl[i] := List.getElem?_eq_getElem hi
        rw [List.getElem?_map, List.getElem?_map, hz] at hx
        cases hx
        have hmem : sl[i] ∈ sl := List.getElem_mem hi
        have hat : sl[i].1 < rw_.length := (hl _ (inl hmem)).1
        have tk7 := tk5.trans (Tk.of s7)
        obtain ⟨g1, _⟩ := (ft5.mono (Tk.of s7)).get sl[i].1
        obtain ⟨vv, e1, t1⟩ := g1 sl[i].2 (lkF_mem sr.nd (inl hmem))
        obtain ⟨rv, hrv, trv⟩ := tx.get (i := sl[i].1) (d := eRow rw_[sl[i].1]) (by rw [List.getElem?_map, List.getElem?_eq_getElem hat]; rfl)
        obtain ⟨ba, rx, ry, _, rfl, hb, hrx, hry, hb2⟩ := row_read (Tp.mono tk7 trv)
        have et : nl.take (i + 1) = nl.take i ++ [(rw_[sl[i].1].nm, sl[i].2)] := by
          have hat2 : sl[i].1 < (present (stands es) b).length := hlt _ hmem
          have : rw_[sl[i].1]? = some (rowOf (stands es) (b.at (present (stands es) b)[sl[i].1])) := by rw [erw2, List.getElem?_map, List.getElem?_eq_getElem hat2]; rfl
          rw [List.getElem?_eq_getElem hat] at this
          have e9 : ((b.at ((present (stands es) b).getD sl[i].1 0)).nm, sl[i].2) = (rw_[sl[i].1].nm, sl[i].2) := by
            rw [Option.some.inj this, List.getD_eq_getElem?_getD, List.getElem?_eq_getElem hat2]
            rfl
          rw [List.take_add_one, enl2, List.getElem?_map, hz, ← e9]
          rfl
        have zl : zs.length ≤ i := by
          rw [tzs.len, List.length_map, List.length_take]
          omega
        refine ⟨rfl, _, rfl, _, rfl, ra, _, _, _, rfl, rfl, SqL.of (s7 _ _ hxs5.1), at_of (j := sl[i].1) rfl hrv, ba, _, 0, _, rfl, rfl, .inl (.of hb), at_of (j := 0) rfl rfl, _, rfl, _, rfl, fd, vv, rfl, .inl ⟨kvs, .inl (sl[i].1 : Int), .of (s7 _ _ hfd5.1), rfl, e1.symm⟩, szT 2 (by decide), fun tp ntp => ?_⟩
        have s8 := snew (o := .tup [.ref rx, vv]) ntp
        have ttp : Tp _ (.ref tp) (eNF (rw_[sl[i].1].nm, sl[i].2)) := Tp.mk (xs := [.ref rx, vv]) (ds := [eNm rw_[sl[i].1].nm, eFt sl[i].2]) ntp (.cons hrx (.one t1))
        refine ⟨zs, s8 _ _ hzs, small1000 (by omega), sat (s7.trans s8) nD25, ?_, ?_⟩
        · rw [upd_ne (upd_no nD2)]
          exact s8 _ _ hpa
        · rw [et, List.map_append]
          exact Lst.push (s8 _ _ hzs) (Tps.mono (Tk.of s8) tzs) ttp
      · rintro H6 ⟨s7, hpa, zs, hzs, tzs⟩
        rw [List.length_map, List.length_map, ← nll, List.take_length] at tzs
        obtain ⟨cx, hcx, cxl, cxs⟩ := L4.lcx.ex
        have oca := L4.lcx.own
        have caP : ca ≠ Pt := tab_ne hh4.tab hcx fun q z => by cases z
        have hca5 := mv5.rest _ _ caP hcx oca
        have cxl2 : cx.length = es.length := by rw [cxl]; exact lchs_len _ _ _
        refine ⟨_, rfl, .inl ⟨rfl, _, SqL.of (s7 _ _ hca5.1)⟩, _, rfl, ca, cx, rfl, .inl (SqL.of (s7 _ _ hca5.1)), _, _, rfl, rfl, _, rfl, _, rfl, szT 4 (by decide), fun tp ntp => ?_⟩
        have s8 := snew (o := .tup [.int ((cx.length : Int) + 1), .str au.s, .bl true, .ref D2]) ntp
        have hca8 := s8 _ _ (s7 _ _ hca5.1)
        refine ⟨ca, cx, _, rfl, rfl, hca8, small1000 (by omega), ?_⟩
        refine ⟨_, rfl, _, rfl, ca, _, rfl, .inl (SqL.of upd_same), ?_⟩
        rw [List.length_append, cxl2, show es.length + [V.ref tp].length = es.length + 1 from rfl]
        rw [cxl2] at s8 hca8
        refine ⟨rfl, ?_⟩
        show Q (V.bl (decide (V.int (es.length + 1 : Nat) = V.int (es.length + 1 : Nat)))) _
        rw [decide_eq_true rfl]
        obtain ⟨H8, e8⟩ : ∃ H8, H8 = L2.upd H6 tp (.tup [.int ((es.length : Int) + 1), .str au.s, .bl true, .ref D2]) := ⟨_, rfl⟩
        have htp8 : H8 tp = some (.tup [.int ((es.length : Int) + 1), .str au.s, .bl true, .ref D2]) := by rw [e8]; exact upd_same
        show Q (V.bl true) (L2.upd (L2.upd H6 tp (.tup [.int ((es.length : Int) + 1), .str au.s, .bl true, .ref D2])) ca (.lst (cx ++ [V.ref tp])))
        rw [← e8] at s8 hca8 ⊢
        obtain ⟨sh5, hh5⟩ := hist6
        have es6 : Same H5 H8 := s7.trans s8
        have oD2 : ow5 D2 = none := hh5.fresh nD25
        have stA : Stay Pt ca H H8 ow ow5 := ((Stay.ex (Ex.of tab s4) tab).trans st5).trans (.ex (Ex.of hh5.tab es6) hh5.tab)
        have stB := stA.trans (Stay.put (ys := cx ++ [.ref tp]) hca8)
        have tk9 : Tk H8 (L2.upd H8 ca (.lst (cx ++ [.ref tp]))) := Tk.lst hca8
        have nD2ca : D2 ≠ ca := fun z => by
          rw [z, hca5.1] at nD25
          cases nD25
        refine q _ ow5 e ⟨⟨sh5, (hh5.ex (Ex.of hh5.tab es6)).putO hca8 hca5.2⟩, Tp.mono stB.tk L.tda, ?_, law5, by rw [List.length_append]; show es.length + 1 ≤ 12; omega⟩ stB
        rw [L.law.snoc law5 (fun z hz => ?_)]
        · refine LCx.push stB tab L.lcx hca5.2 (fun ys hys => ?_) ⟨tp, D2, rfl, ?_, ⟨zs, ?_, ?_⟩, oD2, nD2ca⟩
          · rw [upd_same]
            have := s4 _ _ hys
            rw [hcx] at this
            injection this with this
            injection this with this
            rw [this]
          · rw [upd_ne (fun z => by rw [z, hca8] at htp8; cases htp8), htp8, ee]
            rfl
          · rw [upd_ne nD2ca]
            exact s8 _ _ hzs
          · rw [← eb, ← enl]
            exact Tps.mono ((Tk.of s8).trans tk9) tzs
        · rw [ee] at hz
          obtain ⟨y, hy, rfl⟩ := List.mem_map.mp hz
          rw [← eb]
          exact lt_k _ (getp y hy)
end
end Wh

namespace Wh
open PySem PySem.Spec PyProof.Rows L2 Wf
abbrev sShw : Stmt := top 35
def spShw (c : Cs) (Pt : Addr) : Sp := fun vs H Q _ => ∃ (p da ca : Addr) (ow : Ow) (doc : List Ln) (es : List (Ev Tx)), vs = [.ref p, .ref da, .ref ca] ∧ LSt c Pt H ow p da ca doc es ∧ ∀ H', Ex Pt H H' → Q (.bl true) H'
theorem depA : ∀ {ds : List PyData} {n : Nat}, (∀ d ∈ ds, d.depth ≤ n) → PyData.depthAll ds ≤ n
  | [], _, _ => Nat.zero_le _
  | x :: xs, n, h => by
    rw [PyData.depthAll]
    exact Nat.max_le.mpr ⟨h x List.mem_cons_self, depA fun d hd => h d (List.mem_cons_of_mem _ hd)⟩
theorem layA : ∀ {ds : List PyData}, (∀ d ∈ ds, d.canLay0 = true) → PyData.canLayAll0 ds = true
  | [], _ => rfl
  | x :: xs, h => by
    rw [PyData.canLayAll0, h x List.mem_cons_self, layA fun d hd => h d (List.mem_cons_of_mem _ hd)]
    rfl
theorem shT {ds : List PyData} (h : ∀ d ∈ ds, d.canLay0 = true ∧ d.depth ≤ 9) : SeqAt.shaped (.tuple ds) = true := by
  unfold SeqAt.shaped
  have : (PyData.tuple ds).canLay0 = true := layA fun d hd => (h d hd).1
  rw [this, Bool.true_and]
  exact decide_eq_true (by rw [PyData.depth]; have := depA (n := 9) fun d hd => (h d hd).2; omega)
theorem shL {ds : List PyData} (h : ∀ d ∈ ds, d.canLay0 = true ∧ d.depth ≤ 9) : SeqAt.shaped (.list ds) = true := by
  unfold SeqAt.shaped
  have : (PyData.list ds).canLay0 = true := layA fun d hd => (h d hd).1
  rw [this, Bool.true_and]
  exact decide_eq_true (by rw [PyData.depth]; have := depA (n := 9) fun d hd => (h d hd).2; omega)
theorem shR {d : PyData} (h : SeqAt.shaped d = true) : PyData.eqv d d = true := SeqAt.eqv_refl d (SeqAt.canLay_of_shaped h)
theorem ln_dep (l : Ln) : (eLn l).depth ≤ 9 := by
  show (PyData.tuple [.str _, .str _]).depth ≤ 9
  simp [PyData.depth, PyData.depthAll]
def logD (q : Ev Tx × Nat) : PyData := .tuple [.int ((q.2 : Int) + 1), .str q.1.author.s, .bool q.1.stands]
theorem log_lay (q : Ev Tx × Nat) : (logD q).canLay0 = true ∧ (logD q).depth ≤ 9 := by
  constructor
  · show PyData.canLayAll0 [_, _, _] = true
    rw [PyData.canLayAll0, PyData.canLayAll0, PyData.canLayAll0, q.1.author.ok]
    rfl
  · show (PyData.tuple [.int _, .str _, .bool _]).depth ≤ 9
    simp [PyData.depth, PyData.depthAll]
theorem Lst.dp {K : PySem.W.Frag} {H : Hp} {a : Addr} {ds : List PyData} (h : Lst H a ds) : Dp K H (.ref a) (.list ds) := by
  obtain ⟨xs, h1, h2⟩ := h
  exact .lst (SqL.of h1) h2.dp
theorem intsP {α : Type} (H : Hp) (f : α → Nat) : ∀ l : List α, Tps H (l.map fun i => vN (f i)) (l.map fun i => PyData.int (f i : Int))
  | [] => .nil
  | i :: r => .cons (.int _) (intsP H f r)
def lcD (x : LC0) : PyData := .tuple [.int x.num, .str x.author.s, .bool x.stands]
theorem lcD_log (b : B Tx) (es : List (Ev Tx)) : (lchs b 1 es).map lcD = es.zipIdx.map logD := by
  refine List.ext_getElem? fun j => ?_
  rw [List.getElem?_map, List.getElem?_map, lchs_get, List.getElem?_zipIdx]
  cases es[j]? with
  | none => rfl
  | some e =>
    show some (PyData.tuple [.int ((1 + j : Nat) : Int), _, _]) = some (PyData.tuple [.int (((0 + j : Nat) : Int) + 1), _, _])
    rw [show ((1 + j : Nat) : Int) = ((0 + j : Nat) : Int) + 1 by omega]
section
variable {P : Program} {w : World} {K : PySem.W.Frag} {mg : Str → Option Value} {base : Heap} {c : Cs} {Pt : Addr}
theorem scShw : FnScope ["_law_history", "_law_document", "_law_changes", "_law_rows", "_law_row", "_law_change_here"] ["_law_history", "_law_document", "_law_changes"] (defScope sShw) := ⟨rfl, rfl, rfl, by decide +kernel, rfl, by decide +kernel, by decide +kernel⟩
theorem ok_shw {f : Addr} {fd : FuncData} (F : FnD K "_law_is_shown" "_law_is_shown" sShw f fd) (T : Bt mg) (hm : mg "_law_is_shown" = some (.ref f)) (GRp : Fn P w K mg base CX0 3 "_law_replay" spReplay) (GDoc : Mt P w K mg base CX0 4 c.CH "document" (spDocm c Pt)) (GBl : Mt P w K mg base CX0 4 c.CH "blame" (spBlame c Pt)) (GLog : Mt P w K mg base CX0 1 c.CH "log" (spLog c Pt)) : Fn P w K mg base CX0 5 "_law_is_shown" (spShw c Pt) := by
  refine ⟨f, fd, ["_law_history", "_law_document", "_law_changes"], fok F scShw (fun vs H Q E h => ?_) (fun cdv A outer s0 H vs Q E hr h => ?_), hm, F.kp, F.bindsN fun _ _ _ _ _ _ us hl => match us, hl with | [_, _, _], _ => rfl⟩
  · obtain ⟨p, da, ca, ow, doc, es, rfl, _⟩ := h
    rfl
  · obtain ⟨p, da, ca, ow, doc, es, rfl, L, q⟩ := h
    refine ⟨_, pss_cons (ps_set (i := 3) scShw.nd rfl (.inl rfl) (pe_fn GRp hr (by decide) pass0 (pa_cons (pv 1) (pa_cons (pv 2) pa_nil))))
      (pss_cons (ps_if (pt_cmpR (op_neD hr.units) (pe_mt0 GDoc hr (by decide) pass0 (pv 0)) (pe_callTy call_tuple_of (by rfl) T.tuple (by decide +kernel) (pa_cons (pe_lc (own := [("_law_row", 4)]) (g := gName 4) (tt := tYes) (te := tOp (rIxT K) (tVar 4) (tC (.int 2))) rfl scShw.nd (pi_list (pv 3)) (blkOk_by (own := [("_law_row", 4)]) (N := ["_law_history", "_law_document", "_law_changes", "_law_rows", "_law_row", "_law_change_here"]) (sc := defScope sShw) (by decide +kernel)) (fun _ _ _ _ _ => pg_name (i := 4) scShw.nd rfl (.inl rfl)) (fun _ _ _ _ _ => pts_nil) (fun _ _ _ _ _ => pe_ix ix_tup (pv 4) pe_int (fun _ _ => rfl))) pa_nil)) (nomark _))
        (pss_one (ps_ret pe_bl))
        (pss_nil))
      (pss_cons (ps_if (pt_cmpR (op_neD hr.units) (pe_mt0 GBl hr (by decide) pass0 (pv 0)) (pe_lc (own := [("_law_row", 4)]) (g := gName 4) (tt := tYes) (te := tOp (rIxT K) (tVar 4) (tC (.int 3))) rfl scShw.nd (pi_list (pv 3)) (blkOk_by (own := [("_law_row", 4)]) (N := ["_law_history", "_law_document", "_law_changes", "_law_rows", "_law_row", "_law_change_here"]) (sc := defScope sShw) (by decide +kernel)) (fun _ _ _ _ _ => pg_name (i := 4) scShw.nd rfl (.inl rfl)) (fun _ _ _ _ _ => pts_nil) (fun _ _ _ _ _ => pe_ix ix_tup (pv 4) pe_int (fun _ _ => rfl))) (nomark _))
        (pss_one (ps_ret pe_bl))
        (pss_nil))
      (pss_one (ps_ret (pe_cmpR (op_eqD hr.units) (pe_mt0 GLog hr (by decide) pass0 (pv 0)) (pe_lc (own := [("_law_change_here", 5)]) (g := gName 5) (tt := tYes) (te := tTup (tCons (tOp (rIxT K) (tVar 5) (tC (.int 0))) (tCons (tOp (rIxT K) (tVar 5) (tC (.int 1))) (tCons (tOp (rIxT K) (tVar 5) (tC (.int 2))) tNil)))) rfl scShw.nd (pi_list (pv 2)) (blkOk_by (own := [("_law_change_here", 5)]) (N := ["_law_history", "_law_document", "_law_changes", "_law_rows", "_law_row", "_law_change_here"]) (sc := defScope sShw) (by decide +kernel)) (fun _ _ _ _ _ => pg_name (i := 5) scShw.nd rfl (.inl rfl)) (fun _ _ _ _ _ => pts_nil) (fun _ _ _ _ _ => pe_tup (pa_cons (pe_ix ix_tup (pv 5) pe_int (fun _ _ => rfl)) (pa_cons (pe_ix ix_tup (pv 5) pe_int (fun _ _ => rfl)) (pa_cons (pe_ix ix_tup (pv 5) pe_int (fun _ _ => rfl)) pa_nil))))) (nomark _)))))), ?_⟩
    have tab := L.tab
    have no := L.law.numOk L.few
    obtain ⟨pr, epr⟩ : ∃ pr, pr = present (stands es) (build doc es) := ⟨_, rfl⟩
    obtain ⟨b, eb⟩ : ∃ b, b = build doc es := ⟨_, rfl⟩
    have eup : upRows doc (lcs0 doc es) = pr.map fun i => rowOf (stands es) (b.at i) := by rw [epr, eb]; exact L.law.up
    have prl : pr.length ≤ 400 := by
      have := no.len
      have h2 : pr.length ≤ (build doc es).order.length := by rw [epr]; exact List.length_filter_le _ _
      omega
    refine ⟨_, rfl, _, rfl, da, ca, doc, lcs0 doc es, rfl, L.tda, L.lcx.lcs, L.law.repD L.few, fun H1 ra s1 nra hra => ?_⟩
    rw [eup] at hra
    have L1 := L.ex (Ex.of tab s1)
    obtain ⟨sh1, hh1⟩ := L1.hist
    refine ⟨_, rfl, p, _, _, rfl, hh1.hp, rfl, p, ow, sh1, _, build doc es, es, rfl, hh1, no, fun H2 v2 x2 tv2 => ?_⟩
    rw [← epr, ← eb] at tv2
    have hra2 : Lst H2 ra ((pr.map fun i => rowOf (stands es) (b.at i)).map eRow) := by
      obtain ⟨xs, hxs, tx⟩ := hra
      exact ⟨xs, x2.keep hh1.tab hxs, Tps.mono (x2.tk hh1.tab) tx⟩
    have rowsC : ∀ {H0 : Hp} {D : Addr}, True := trivial
    obtain ⟨xs, hxs, tx⟩ := hra2
    have hxl : xs.length = pr.length := by rw [tx.len, List.length_map, List.length_map]
    refine ⟨_, rfl, ra, rfl, ⟨_, SqL.of hxs⟩, fun D nD => ?_⟩
    refine lc_it (walk_list (xs := xs)) (fun i H' => Same H2 H' ∧ Lst H' D ((pr.take i).map fun i => eLn (shownLine (stands es) (b.at i)))) ⟨snew nD, by rw [List.take_zero]; exact ⟨[], upd_same, .nil⟩⟩ (fun i H' _ z => SqL.of (z.1 _ _ hxs)) ?_ ?_
    · rintro i x H3 H4 hi ⟨s3, zs, hzs, tzs⟩ ⟨rfl, hx⟩
      have hil : i < pr.length := by omega
      have hz : pr[i]? = some pr[i] := List.getElem?_eq_getElem hil
      obtain ⟨dd, hdd, tv⟩ := tx.at hx
      rw [List.getElem?_map, List.getElem?_map, hz] at hdd
      cases hdd
      obtain ⟨ba, rx, ry, _, rfl, hb, hrx, hry, hb2⟩ := row_read (Tp.mono (Tk.of s3) tv)
      have et : pr.take (i + 1) = pr.take i ++ [pr[i]] := by rw [List.take_add_one, hz]; rfl
      have zl : zs.length ≤ i := by
        rw [tzs.len, List.length_map, List.length_take]
        omega
      refine ⟨rfl, _, rfl, ba, _, 2, _, rfl, rfl, .inl (.of hb), at_of (j := 2) rfl rfl, zs, hzs, small1000 (by omega), sat s3 nD, ?_⟩
      rw [et, List.map_append]
      exact Lst.push hzs tzs hry
    · rintro H3 ⟨s3, hl3⟩
      rw [hxl, List.take_length] at hl3
      obtain ⟨ys, hys, tys⟩ := hl3
      refine ⟨D, _, rfl, .inl ⟨SqL.of hys, fun tp ntp => ?_⟩⟩
      have t9 : Tp _ (.ref tp) (.tuple (pr.map fun i => eLn (shownLine (stands es) (b.at i)))) := Tp.mk ntp tys
      have s4 := snew (o := .tup ys) ntp
      have tv9 := Tp.mono (Tk.of (s3.trans s4)) tv2
      have shd : SeqAt.shaped (.tuple (pr.map fun i => eLn (shownLine (stands es) (b.at i)))) = true := shT fun d hd => by
        obtain ⟨i, _, rfl⟩ := List.mem_map.mp hd
        exact ⟨ln_ok _, ln_dep _⟩
      refine ⟨_, _, tv9.dp, t9.dp, shd, shd, ?_⟩
      rw [shR shd]
      have x24 : Ex Pt H2 (L2.upd H3 tp (.tup ys)) := Ex.same x2.2 (s3.trans s4)
      have hxs4 := (s3.trans s4) _ _ hxs
      obtain ⟨H4, e4⟩ : ∃ H4, H4 = L2.upd H3 tp (.tup ys) := ⟨_, rfl⟩
      rw [← e4] at x24 hxs4 ⊢
      have hh4 := hh1.ex (x2.trans x24)
      refine ⟨_, rfl, iteF ?_⟩
      refine ⟨_, rfl, p, _, _, rfl, hh4.hp, rfl, p, ow, sh1, _, build doc es, es, rfl, hh4, no, fun H5 ba x5 nba hba => ?_⟩
      rw [← epr, ← eb] at hba
      have x15 := (x2.trans x24).trans x5
      have hxs5 := x5.keep hh4.tab hxs4
      have tx5 := Tps.mono ((x24.trans x5).tk x2.2) tx
      refine ⟨_, rfl, ra, rfl, ⟨_, SqL.of hxs5⟩, fun D2 nD2 => ?_⟩
      refine lc_it (walk_list (xs := xs)) (fun i H' => Same H5 H' ∧ Lst H' D2 ((pr.take i).map fun i => .int (givenBy (stands es) (b.at i)))) ⟨snew nD2, by rw [List.take_zero]; exact ⟨[], upd_same, .nil⟩⟩ (fun i H' _ z => SqL.of (z.1 _ _ hxs5)) ?_ ?_
      · rintro i x H6 H7 hi ⟨s6, zs, hzs, tzs⟩ ⟨rfl, hx⟩
        have hil : i < pr.length := by omega
        have hz : pr[i]? = some pr[i] := List.getElem?_eq_getElem hil
        obtain ⟨dd, hdd, tv⟩ := tx5.at hx
        rw [List.getElem?_map, List.getElem?_map, hz] at hdd
        cases hdd
        obtain ⟨bz, rx, ry, _, rfl, hb, hrx, hry, hb2⟩ := row_read (Tp.mono (Tk.of s6) tv)
        have et : pr.take (i + 1) = pr.take i ++ [pr[i]] := by rw [List.take_add_one, hz]; rfl
        have zl : zs.length ≤ i := by
          rw [tzs.len, List.length_map, List.length_take]
          omega
        refine ⟨rfl, _, rfl, bz, _, 3, _, rfl, rfl, .inl (.of hb), at_of (j := 3) rfl rfl, zs, hzs, small1000 (by omega), sat s6 nD2, ?_⟩
        rw [et, List.map_append]
        exact Lst.push hzs tzs (.int _)
      · rintro H6 ⟨s6, hl6⟩
        rw [hxl, List.take_length] at hl6
        have hb6 : Lst H6 ba (pr.map fun i => .int (givenBy (stands es) (b.at i))) := ⟨_, s6 _ _ hba, intsP H6 _ pr⟩
        have shd2 : SeqAt.shaped (.list (pr.map fun i => .int (givenBy (stands es) (b.at i)))) = true := shL fun d hd => by
          obtain ⟨i, _, rfl⟩ := List.mem_map.mp hd
          exact ⟨rfl, by simp [PyData.depth]⟩
        refine ⟨_, _, hb6.dp, hl6.dp, shd2, shd2, ?_⟩
        rw [shR shd2]
        refine ⟨_, rfl, iteF ?_⟩
        have x16 := x15.trans (Ex.same x5.2 s6)
        have hh6 := hh1.ex x16
        refine ⟨_, rfl, p, _, _, rfl, hh6.hp, rfl, p, ow, sh1, _, build doc es, es, rfl, hh6, by have := L.few; omega, fun H7 la x7 nla hla => ?_⟩
        have x17 := x16.trans x7
        have L7 := L1.ex x17
        obtain ⟨cx, hcx, cxl, cxs⟩ := L7.lcx.ex
        refine ⟨_, rfl, ca, rfl, ⟨_, SqL.of hcx⟩, fun D3 nD3 => ?_⟩
        have cl : (lcs0 doc es).length = es.length := lchs_len _ _ _
        have few := L.few
        refine lc_it (walk_list (xs := cx)) (fun i H' => Same H7 H' ∧ Lst H' D3 (((lcs0 doc es).take i).map lcD)) ⟨snew nD3, by rw [List.take_zero]; exact ⟨[], upd_same, .nil⟩⟩ (fun i H' _ z => SqL.of (z.1 _ _ hcx)) ?_ ?_
        · rintro i x H8 H9 hi ⟨s8, zs, hzs, tzs⟩ ⟨rfl, hx⟩
          have hil : i < (lcs0 doc es).length := by omega
          have hz : (lcs0 doc es)[i]? = some (lcs0 doc es)[i] := List.getElem?_eq_getElem hil
          obtain ⟨ta, nl, rfl, hta, _⟩ := cxs i x _ hx hz
          have hta8 := s8 _ _ hta
          have et : (lcs0 doc es).take (i + 1) = (lcs0 doc es).take i ++ [(lcs0 doc es)[i]] := by rw [List.take_add_one, hz]; rfl
          have zl : zs.length ≤ i := by
            rw [tzs.len, List.length_map, List.length_take]
            omega
          refine ⟨rfl, _, rfl, ta, _, 0, _, rfl, rfl, .inl (.of hta8), at_of (j := 0) rfl rfl, _, rfl, ta, _, 1, _, rfl, rfl, .inl (.of hta8), at_of (j := 1) rfl rfl, _, rfl, ta, _, 2, _, rfl, rfl, .inl (.of hta8), at_of (j := 2) rfl rfl, szT 3 (by decide), fun tp3 ntp3 => ?_⟩
          have s9 := snew (o := .tup [vN (lcs0 doc es)[i].num, .str (lcs0 doc es)[i].author.s, .bl (lcs0 doc es)[i].stands]) ntp3
          refine ⟨zs, s9 _ _ hzs, small1000 (by omega), sat (s8.trans s9) nD3, ?_⟩
          rw [et, List.map_append]
          exact Lst.push (s9 _ _ hzs) (Tps.mono (Tk.of s9) tzs) (Tp.mk (xs := [vN (lcs0 doc es)[i].num, .str (lcs0 doc es)[i].author.s, .bl (lcs0 doc es)[i].stands]) (ds := [.int (lcs0 doc es)[i].num, .str (lcs0 doc es)[i].author.s, .bool (lcs0 doc es)[i].stands]) ntp3 (.cons (.int _) (.cons (.str _) (.one (.bl _)))))
        · rintro H8 ⟨s8, hl8⟩
          rw [cxl, List.take_length, lcD_log] at hl8
          have hla8 : Lst H8 la (es.zipIdx.map logD) := by
            obtain ⟨ws, h1, h2⟩ := hla
            exact ⟨ws, s8 _ _ h1, Tps.mono (Tk.of s8) h2⟩
          have shd3 : SeqAt.shaped (.list (es.zipIdx.map logD)) = true := shL fun d hd => by
            obtain ⟨i, _, rfl⟩ := List.mem_map.mp hd
            exact log_lay i
          refine ⟨_, _, hla8.dp, hl8.dp, shd3, shd3, ?_⟩
          rw [shR shd3]
          exact q _ (((Ex.of tab s1).trans x17).trans (Ex.same x7.2 s8))
end
end Wh

/-! several clauses 'except X as n' -/
namespace L2
open PySem PySem.Spec PyProof.Rows
/-- a named clause: the class, the slot, the reading -/
structure NamedHd where
  cls : Value
  slot : Nat
  rd : Addr → Value → Option Addr → TS
/-- the ends of a named clause: the slot is emptied -/
def outOf (i : Nat) (D : Ends) : Ends := { nx := fun σ H => D.nx (σ.set i none) H, rt := D.rt, bk := fun σ H => D.bk (σ.set i none) H, ct := fun σ H => D.ct (σ.set i none) H }
def wNamed (K : PySem.W.Frag) (Wout : WX) (D : Ends) : List NamedHd → WX
  | [] => Wout
  | g :: r => fun cls d σ H => ∃ b, PySem.W.exmOne K cls g.cls = some b ∧ (b = true → ∀ a, H a = none → g.rd a cls d (outOf g.slot D) (σ.set g.slot (some (.ref a))) H) ∧ (b = false → wNamed K Wout D r cls d σ H)
inductive NamedOk (X : Cx) : List ExceptHandler → List NamedHd → Prop
  | nil : NamedOk X [] []
  | cons {x n : Str} {c : Value} {i : Nat} {ts : Addr → Value → Option Addr → TS} {fst : Stmt} {more : List Stmt} {p1 p2 : Pos} {hds : List ExceptHandler} {l : List NamedHd} (hi : X.N[i]? = some n) (hln : X.env.kindOf n = some .local) (hc : Names X x c)
      (run : ∀ (a : Addr) (oe : Obj) (cls : Value) (d : Option Addr) (pn : List (Addr × Obj)), Zc cls d oe → (∃ vs, oe.data = .fields vs) → PSs (X.suite a ((a, oe) :: pn)) (fst :: more) (ts a cls d)) (r : NamedOk X hds l) :
      NamedOk X (.ExceptHandler (some (.Name x p1)) (some n) (fst :: more) p2 :: hds) (⟨c, i, ts⟩ :: l)
section
variable {X : Cx} {body : List Stmt} {h₀ : ExceptHandler} {hds : List ExceptHandler} {l : List NamedHd} {pos : Pos} {tb : WX → TS} {Wout : WX}
theorem ps_try_named (hs : X.stack = X.env :: X.outer) (hf : X.env.frame = some X.env.locals) (hN : X.N.Nodup) (tkn : Takes X Wout)
    (hb : ∀ (W : WX) (pn : List (Addr × Obj)) (xe : Value → Shared → Prop), Takes (X.tr pn xe) W → PassesOwn (model X.prog X.w) X.A X.env xe → PSs (X.tr pn xe) body (tb W))
    (hh : NamedOk X (h₀ :: hds) l) : PS X (.Try body (h₀ :: hds) [] [] pos) (fun D σ H => tb (wNamed X.K Wout D l) D σ H) := by
  refine ⟨fun pn0 s σ H D I h => ?_⟩
  have ik := I.ok
  have frA : X.A.frames = some (X.env :: X.outer) := by rw [ik.frames, hs]
  refine wpAny_Try_except ?_
  refine wpAny_mono ((hb (wNamed X.K Wout D l) (X.pn ++ pn0) (fun e t₁ => wpAny (model X.prog X.w) X.A (noteFrame e X.env) (fun _ t₂ => wpAny (model X.prog X.w) X.A (setFlight e none) (fun _ t₃ =>
    wpAny (model X.prog X.w) X.A (handleBy e X.env (h₀ :: hds)) (SP X pn0 D) X.xe t₃) X.xe t₂) X.xe t₁) (fun u1 s' air => ?_) PassesOwn.looking).run [] s σ H D (I.toTry _) h) (fun f t1 hEnd => ?_) (fun e t1 he => he)
  · obtain ⟨ex1, Bg, sg, pq, τ, G, kc, dx1, rfl, Jt, kb, u0, sq1, fre, eqo, bg, w⟩ := air
    have J0 : Inv X pn0 τ G sg := Jt.ofTry ik
    have sq2 : Sky Bg (X.env :: X.outer) ex1 (Zc kc dx1) X.env.locals s'.heap := by rw [← hs]; exact sq1
    show wpAny (model X.prog X.w) X.A (noteFrame (.ref ex1) X.env) _ _ _
    refine Sky.land Zc.steady frA hf sq2 fun hA flA uA => ?_
    have JA : Inv X pn0 τ G { s' with heap := hA } := J0.landed kb flA.1 (u0.trans uA) eqo bg
    obtain ⟨oA, vA, eA, zA, dA⟩ := flA.there
    have offS : ex1 ∉ frs (X.env :: X.outer) := fun hm => by
      obtain ⟨_, o', e', hnf⟩ := flA.2.2.1.mem hm
      rw [eA] at e'
      cases e'
      exact hnf _ dA
    have offL : ex1 ≠ X.env.locals := fun z => offS (List.mem_filterMap.mpr ⟨X.env, List.mem_cons_self, by rw [hf, z]⟩)
    have offF : ex1 ∉ X.fs := fun hm => by
      obtain ⟨e, he, q⟩ := List.mem_filterMap.mp hm
      exact offS (List.mem_filterMap.mpr ⟨e, List.mem_cons_of_mem _ he, q⟩)
    have SA := JA.suite eA dA fre offL offF
    have walk : ∀ {hs2 : List ExceptHandler} {ls2 : List NamedHd}, NamedOk X hs2 ls2 → wNamed X.K Wout D ls2 kc dx1 τ G →
        wpAny (model X.prog X.w) X.A (handleBy (.ref ex1) X.env hs2) (SP X pn0 D) X.xe { s' with heap := hA } := by
      intro hs2 ls2 hdk
      induction hdk with
      | nil =>
        intro w
        refine wpAny_handleBy_nil ?_
        obtain ⟨c1, c2, c3, oe, vs, T, oTr, tz, he, hz, hd, h1, hr⟩ := id flA
        unfold PySem.passOn
        refine wpAny_bind (wpAny_field he hd h1 ?_)
        rw [if_neg (show ¬ ((Value.ref T == Value.none) = true) from by simp)]
        have last : wpAny (model X.prog X.w) X.A (setFlight (.ref ex1) X.env.frame) (fun _ t4 => wpAny (model X.prog X.w) X.A (throw (.ref ex1) : Sem Flow) (SP X pn0 D) X.xe t4) X.xe { s' with heap := hA } := by
          rw [hf]
          refine HandSPX.setFlight_upZ flA fun hB hh9 uB => wpAny_throw (tkn _ _ ?_)
          exact ⟨ex1, Bg, sg, pn0, τ, G, kc, dx1, rfl, J0, kb, (u0.trans uA).trans uB, .inr (.inr (by rw [hs]; exact hh9)), fre, eqo, bg, w⟩
        first
          | exact wpAny_bind (wpAny_pure (wpAny_bind last))
          | exact wpAny_bind last
      | @cons x n c i ts fst more p1 p2 hs3 ls3 hi hln hc run r ih =>
        intro w
        have lcl : Loc X.env.scope n := .inl hln
        obtain ⟨bb, xb, xy, xn⟩ := w
        refine wpAny_handleBy_cons (codeAny_handlers_test ?_) (by intro q; cases q)
        have lkT : PySem.W.Looks (model X.prog X.w) hA (typeOf (.ref ex1)) kc := fun A Q E s k q => wpAny_typeOf_ref (k _ _ eA) (by rw [zA.1]; exact q)
        have mtT := PySem.W.exm_one (M := model X.prog X.w) (JA.kIn) lkT xb
        have test : ∀ {Q : Value → Shared → Prop} {E : Value → Shared → Prop}, Q c { s' with heap := hA } → wpAny (model X.prog X.w) (X.A.mark (some (.ref ex1))) (eval (.Name x p1) X.env) Q E { s' with heap := hA } := fun {Q E} q => by
          obtain ⟨glb, ndb, hm | ⟨hm, hbv, nnm⟩⟩ := hc
          · exact ld_glob (X := X.suite ex1 ((ex1, oA) :: (X.pn ++ pn0))) SA glb hm q ndb
          · exact ld_blt (X := X.suite ex1 ((ex1, oA) :: (X.pn ++ pn0))) SA glb hm hbv q nnm ndb
        refine test (mtT.here ?_)
        cases bb with
        | true =>
          refine codeAny_handlers_suite_as ?_
          refine HandSPX.lands_againZ flA fun hB flB uB => ?_
          have JB : Inv X pn0 τ G { s' with heap := hB } := J0.landed kb flB.1 ((u0.trans uA).trans uB) eqo bg
          obtain ⟨oB, vB, eB, zB, dB⟩ := flB.there
          have SB := JB.suite eB dB fre offL offF
          refine store_ok (X := X.suite ex1 ((ex1, oB) :: (X.pn ++ pn0))) (v := .ref ex1) SB hN hi lcl rfl (fun sE SE => ?_) (.inr hln)
          refine wpAny_mono ((run ex1 oB kc dx1 (X.pn ++ pn0) zB ⟨_, dB⟩).run [] sE _ G _ SE (xy rfl ex1 fre)) (fun f sF hEnd => ?_) (fun _ _ z => False.elim z)
          have gone : ∀ {τF : St} {GF : Hp} {Q : Shared → Prop}, Inv (X.suite ex1 ((ex1, oB) :: (X.pn ++ pn0))) [] τF GF sF → (∀ sG, Inv X pn0 (τF.set i none) GF sG → Q sG) →
              wpAny (model X.prog X.w) X.A (do bindName X.env n .none; unbindBehindTheSuite X.env n p2) (fun _ sG => Q sG) X.xe sF := fun {τF GF Q} SF kq => gone_ok (SF.unsuite ik) hN hi hln kq
          cases f with
          | next =>
            obtain ⟨τF, GF, SF, qF⟩ := hEnd
            exact gone SF fun sG JG => ⟨_, _, JG, qF⟩
          | brk =>
            obtain ⟨τF, GF, SF, qF⟩ := hEnd
            exact gone SF fun sG JG => ⟨_, _, JG, qF⟩
          | cont =>
            obtain ⟨τF, GF, SF, qF⟩ := hEnd
            exact gone SF fun sG JG => ⟨_, _, JG, qF⟩
          | ret u1 =>
            obtain ⟨vF, τF, GF, SF, rF, qF⟩ := hEnd
            exact gone SF fun sG JG => ⟨_, _, _, JG, rF, qF⟩
        | false =>
          show wpAny _ X.A (handleBy (.ref ex1) X.env hs3) _ _ _
          exact ih (xn rfl)
    exact walk hh w
  · cases f with
    | next =>
      obtain ⟨τ, G, Jt, q⟩ := hEnd
      exact wpAny_execs_nil ⟨τ, G, Jt.ofTry ik, q⟩
    | brk =>
      obtain ⟨τ, G, Jt, q⟩ := hEnd
      exact ⟨τ, G, Jt.ofTry ik, q⟩
    | cont =>
      obtain ⟨τ, G, Jt, q⟩ := hEnd
      exact ⟨τ, G, Jt.ofTry ik, q⟩
    | ret u1 =>
      obtain ⟨v, τ, G, Jt, r, q⟩ := hEnd
      exact ⟨v, τ, G, Jt.ofTry ik, r, q⟩
end
end L2

namespace Wh
open PySem PySem.Spec PyProof.Rows L2 Wf
theorem lchs_drop (b : B Tx) : ∀ (n k : Nat) (es : List (Ev Tx)), (lchs b k es).drop n = lchs b (k + n) (es.drop n)
  | 0, _, _ => rfl
  | n + 1, k, [] => by simp [lchs]
  | n + 1, k, e :: es => by
    show (lchs b (k + 1) es).drop n = lchs b (k + (n + 1)) (es.drop n)
    rw [lchs_drop b n (k + 1) es, show k + 1 + n = k + (n + 1) by omega]
theorem any_same {α : Type} {l : List α} {f g : α → Bool} (h : ∀ a ∈ l, f a = g a) : l.any f = l.any g := by
  rw [Bool.eq_iff_iff, List.any_eq_true, List.any_eq_true]
  exact ⟨fun ⟨a, ha, e⟩ => ⟨a, ha, (h a ha) ▸ e⟩, fun ⟨a, ha, e⟩ => ⟨a, ha, (h a ha).symm ▸ e⟩⟩
theorem txt_any {l : List (Nat × Ft)} (nd : (l.map (·.1)).Nodup) (i : Nat) : (l.any fun o => decide (o.1 = i) && isTxt o.2.chg) = txtAt l i := by
  unfold txtAt
  by_cases h : i ∈ l.map (·.1)
  · obtain ⟨f, e1, e2⟩ := lkF_some h
    rw [e1]
    show _ = isTxt f.chg
    rw [Bool.eq_iff_iff, List.any_eq_true]
    constructor
    · rintro ⟨o, ho, h2⟩
      rw [Bool.and_eq_true] at h2
      have e3 := lkF_mem nd ho
      rw [of_decide_eq_true h2.1, e1] at e3
      rw [Option.some.inj e3]
      exact h2.2
    · intro h2
      exact ⟨(i, f), e2, by rw [Bool.and_eq_true]; exact ⟨decide_eq_true rfl, h2⟩⟩
  · rw [lkF_none h]
    show _ = false
    rw [List.any_eq_false]
    intro o ho h2
    rw [Bool.and_eq_true] at h2
    exact h (List.mem_map.mpr ⟨o, ho, of_decide_eq_true h2.1⟩)
section
variable {b : B Tx} {n N : Nat} {e1 e2 : Ev Tx}
theorem hang_held (G : Good N b) (nd : (e1.fates.map (·.1)).Nodup) (l1 : ∀ q ∈ e1.fates, q.1 < b.kept.length) (l2 : ∀ q ∈ e2.fates, q.1 < b.kept.length) (c1 c2 : LC0) (h0 : c1.num = n) (h1 : c1.named = e1.fates.map fun q => ((b.at q.1).nm, q.2)) (h2 : c2.named = e2.fates.map fun q => ((b.at q.1).nm, q.2)) :
    hangP c1 c2 = heldP b n e1 e2 := by
  unfold hangP heldP
  rw [h2, List.any_map]
  refine any_same fun q hq => ?_
  have hk := l2 q hq
  show hangQ c1 ((b.at q.1).nm, q.2) = _
  unfold hangQ
  rw [h0, h1, List.any_map]
  show (decide ((b.at q.1).nm.num = n) || _) = _
  rw [G.num q.1 hk, show decide (q.1 < b.kept.length ∧ (b.at q.1).born = n) = decide ((b.at q.1).born = n) from by
    rw [Bool.eq_iff_iff, decide_eq_true_iff, decide_eq_true_iff]
    exact ⟨fun h => h.2, fun h => ⟨hk, h⟩⟩]
  congr 1
  rw [← txt_any nd q.1]
  rw [Bool.eq_iff_iff, Bool.and_eq_true, List.any_eq_true, List.any_eq_true]
  constructor
  · rintro ⟨o, ho, h3⟩
    have h3 : (decide ((b.at o.1).nm = (b.at q.1).nm) && (isTxt o.2.chg && !isKeep q.2.chg)) = true := h3
    rw [Bool.and_eq_true, Bool.and_eq_true] at h3
    exact ⟨h3.2.2, o, ho, by rw [Bool.and_eq_true]; exact ⟨decide_eq_true (G.inj _ _ (l1 o ho) hk (of_decide_eq_true h3.1)), h3.2.1⟩⟩
  · rintro ⟨h4, o, ho, h3⟩
    rw [Bool.and_eq_true] at h3
    refine ⟨o, ho, ?_⟩
    show (decide ((b.at o.1).nm = (b.at q.1).nm) && (isTxt o.2.chg && !isKeep q.2.chg)) = true
    rw [of_decide_eq_true h3.1, h3.2, h4]
    simp
theorem hold_eq (G : Good N b) (nd : (e1.fates.map (·.1)).Nodup) (l1 : ∀ q ∈ e1.fates, q.1 < b.kept.length) (c1 : LC0) (h0 : c1.num = n) (h1 : c1.named = e1.fates.map fun q => ((b.at q.1).nm, q.2)) :
    ∀ (fs : List (Ev Tx)) (m : Nat), (∀ e ∈ fs, ∀ q ∈ e.fates, q.1 < b.kept.length) → lHold c1 (lchs b m fs) = holdFrom b n e1 m fs
  | [], _, _ => rfl
  | f :: fs, m, h => by
    unfold lchs lHold holdFrom
    rw [hang_held (e2 := f) G nd l1 (h f List.mem_cons_self) c1 _ h0 h1 rfl, hold_eq G nd l1 c1 h0 h1 fs (m + 1) fun e he => h e (List.mem_cons_of_mem _ he)]
theorem hold_zero : ∀ (fs : List (Ev Tx)) (m : Nat), 1 ≤ m → holdFrom b n e1 m fs = 0 → ∀ e ∈ fs, e.stands = true → heldP b n e1 e = false
  | [], _, _, _, _, h, _ => by cases h
  | f :: fs, m, hm, h0, e, he, hs => by
    unfold holdFrom at h0
    by_cases hc : (f.stands && heldP b n e1 f) = true
    · rw [if_pos hc] at h0
      omega
    · rw [if_neg hc] at h0
      rcases List.mem_cons.mp he with rfl | he
      · rw [hs, Bool.true_and] at hc
        exact Bool.eq_false_iff.mpr hc
      · exact hold_zero fs (m + 1) (by omega) h0 e he hs
theorem hold_le : ∀ (fs : List (Ev Tx)) (m : Nat), holdFrom b n e1 m fs ≤ m + fs.length
  | [], _ => Nat.zero_le _
  | f :: fs, m => by
    unfold holdFrom
    have := hold_le fs (m + 1)
    rw [List.length_cons]
    split <;> omega
end
theorem lcs0_set {doc : List Ln} {es : List (Ev Tx)} {i : Nat} {e : Ev Tx} (he : es[i]? = some e) {x : LC0} (hx : (lcs0 doc es)[i]? = some x) : lcs0 doc (es.set i { e with stands := false }) = (lcs0 doc es).set i { x with stands := false } := by
  unfold lcs0 at hx ⊢
  rw [build_set he false]
  refine List.ext_getElem? fun j => ?_
  rw [lchs_get, List.getElem?_set, List.getElem?_set, lchs_get, lchs_len]
  rw [lchs_get, he] at hx
  have hx2 := Option.some.inj hx
  by_cases hj : i = j
  · subst hj
    rw [if_pos rfl, if_pos rfl]
    have lt := (List.getElem?_eq_some_iff.mp he).1
    rw [if_pos lt, if_pos lt, ← hx2]
    rfl
  · rw [if_neg hj, if_neg hj]
theorem LCx.setAt {P : Addr} {H H' : Hp} {ow ow' : Ow} {ca : Addr} {cs : List LC0} {i : Nat} {v : V} {x : LC0} (s : Stay P ca H H' ow ow') (t : GxR.TabG H P) (h : LCx H ow ca cs) (o : ow' ca = none) (e : ∀ xs, H ca = some (.lst xs) → H' ca = some (.lst (xs.set i v))) (hv : LCo H' ow' ca v x) : LCx H' ow' ca (cs.set i x) := by
  obtain ⟨xs, h1, h2, h3⟩ := h.ex
  refine ⟨o, xs.set i v, e xs h1, by rw [List.length_set, List.length_set, h2], fun j v1 c1 e1 e2 => ?_⟩
  rw [List.getElem?_set] at e1 e2
  by_cases hj : i = j
  · rw [if_pos hj] at e1 e2
    split at e1
    · cases e1
      split at e2
      · cases e2
        exact hv
      · cases e2
    · cases e1
  · rw [if_neg hj] at e1 e2
    exact (h3 j v1 c1 e1 e2).stay s t
theorem LSt.unset {c : Cs} {P : Addr} {H H3 H4 : Hp} {ow ow3 : Ow} {p da ca : Addr} {doc : List Ln} {es : List (Ev Tx)} (L : LSt c P H ow p da ca doc es) {n : Nat} {e : Ev Tx} {c1 : LC0} {tp nl : Addr} {cx : List V} (h1 : 1 ≤ n) (he : es[n - 1]? = some e) (hz : (lcs0 doc es)[n - 1]? = some c1)
    (h0 : holdFrom (build doc es) n e (n + 1) (es.drop n) = 0) (st : Stay P ca H H3 ow ow3) (hist : HistAt c P H3 ow3 p (build doc es) (es.set (n - 1) { e with stands := false })) (s4 : Same H3 H4) (hcx : H ca = some (.lst cx)) (hc4 : H4 ca = some (.lst cx)) (oca : ow3 ca = none)
    (htp : H4 tp = some (.tup [vN c1.num, .str c1.author.s, .bl false, .ref nl])) (hnl : Lst H nl (c1.named.map eNF)) (onl : ow nl = none) (nn : nl ≠ ca) : LSt c P (upd H4 ca (.lst (cx.set (n - 1) (.ref tp)))) ow3 p da ca doc (es.set (n - 1) { e with stands := false }) ∧ Stay P ca H (upd H4 ca (.lst (cx.set (n - 1) (.ref tp)))) ow ow3 := by
  obtain ⟨sh, hh⟩ := hist
  have tab := L.tab
  have stA := (st.trans (Stay.ex (Ex.of hh.tab s4) hh.tab)).trans (Stay.put (ys := cx.set (n - 1) (.ref tp)) hc4)
  obtain ⟨xs, hxs, tx⟩ := hnl
  obtain ⟨g1, g2⟩ := stA.rest _ _ (tab_ne tab hxs fun q z => by cases z) nn hxs onl
  refine ⟨⟨?_, Tp.mono stA.tk L.tda, ?_, L.law.back he fun j e' hj' lt hs q hq hb => ?_, by rw [List.length_set]; exact L.few⟩, stA⟩
  · rw [build_set he false]
    exact ⟨sh, (hh.ex (Ex.of hh.tab s4)).putO hc4 oca⟩
  · rw [lcs0_set he hz]
    refine L.lcx.setAt stA tab oca (fun ys hys => ?_) ⟨tp, nl, rfl, ?_, ⟨xs, g1, Tps.mono stA.tk tx⟩, g2, nn⟩
    · rw [upd_same]
      rw [hcx] at hys
      injection hys with hys
      injection hys with hys
      rw [hys]
    · rw [upd_ne fun z => by rw [z, hc4] at htp; cases htp]
      exact htp
  · have mem : e' ∈ es.drop n := by
      refine List.mem_iff_getElem?.mpr ⟨j - n, ?_⟩
      rw [List.getElem?_drop, show n + (j - n) = j by omega]
      exact hj'
    have := hold_zero _ _ (by omega) h0 e' mem hs
    unfold heldP at this
    rw [List.any_eq_false] at this
    refine this q hq ?_
    rw [Bool.or_eq_true]
    exact .inl (decide_eq_true ⟨L.law.ids hj' q hq, by omega⟩)
end Wh

namespace Wh
open PySem PySem.Spec PyProof.Rows L2 Wf
abbrev sBack : Stmt := top 34
def spBack (c : Cs) (Pt : Addr) : Sp := fun vs H Q _ => ∃ (p da ca : Addr) (ow : Ow) (doc : List Ln) (es : List (Ev Tx)) (n : Nat), vs = [.ref p, .ref ca, vN n] ∧ LSt c Pt H ow p da ca doc es ∧ n ≤ es.length + 1 ∧
  ∀ H' ow' es', LSt c Pt H' ow' p da ca doc es' → es'.length = es.length → Stay Pt ca H H' ow ow' → Q (.bl true) H'
/-- a method that may raise, in a try -/
def tMethW (C : Addr) (m : Str) (sp : Sp) (E : L2.St → XK) (ta : TE) (t : TA) : TE := fun σ H Q => ta σ H fun x G => ∃ a dx fs, x = .ref a ∧ G a = some (.ins C dx fs) ∧ fs.lookup m = none ∧ t σ G fun vs G2 => sp (x :: vs) G2 Q (E σ)
theorem pe_mtW {X : Cx} {k j : Nat} {C : Addr} {m : Str} {sp : Sp} {E : L2.St → XK} {pos apos : Pos} {e o : Expr} {es : List Expr} {ta : TE} {t : TA} {pl : Sem Bool} (c : Mt X.prog X.w X.K X.mg X.base (L2.CX X.prog X.w) k C m sp) (hr : Room j X.A) (hk : k ≤ j)
    (hx : ∀ σ, PassesAt (L2.CX X.prog X.w) X σ (E σ)) (ho : PE X o ta) (ha : PA X (e :: es) t)
    (hst : starEach (e :: es) X.env = (false, eval e X.env) :: starEach es X.env := by rfl) (hpl : (backTo pos (starEach es X.env)).any (·.1) = false := by rfl)
    (ht : eval (.Call (.Attribute o m apos) (e :: es) [] pos) X.env = (do
      let ov ← eval o X.env
      standAt apos.atName
      let (f, first) ← holding [ov] (getMethod ov m pl)
      callWith pos f first (backTo pos (starEach (e :: es) X.env)) (backToKw pos (keywordEach [] X.env))) := by rfl) :
    PE X (.Call (.Attribute o m apos) (e :: es) [] pos) (tMethW C m sp E ta t) := by
  obtain ⟨f, fd, ps, cl, me, F, b⟩ := c.ex
  refine ⟨fun pins s σ H Q I h => PySem.W.methodCall_KW (pl := pl) (thn (ho.run pins s σ H _ I h) fun u s1 ⟨x, G, I1, rx, a, dx, fs, ex, ea, l, q⟩ => ?_) ht⟩
  subst ex
  obtain rfl : u = Value.ref a := rx
  refine getmeth_ok I1 ea cl me l (PySem.W.callWith_K (first := [.ref a]) (h₀ := X.base) I.ok.mod.kin me.kp (thn (ha.run pos pins s1 σ G _ I1 q) fun us s2 ⟨vs, G2, I2, r, q2⟩ => ⟨I2.kIn, ?_⟩) hst hpl)
  exact run_fnS (us := .ref a :: us) (vs := .ref a :: vs) F (hr.mono hk) b (hx σ) I2 (.cons rfl r) q2
theorem tt_by {t : TT} {σ : L2.St} {H : Hp} {R : Bool → Hp → Prop} (b : Bool) (h : ∀ R' : Bool → Hp → Prop, R' b H → t σ H R') (hk : R b H) : t σ H R := h R hk
theorem seq_setC {v : V} {i : Nat} {u : TS} {D : Ends} {σ : L2.St} {H : Hp} (h : u D (σ.set i (some v)) H) : tSeq (tAsg (tC v) (gName i)) u D σ H := h
theorem seq_if {t : TT} {A B u : TS} {D : Ends} {σ : L2.St} {H : Hp} (b : Bool) (h : ∀ R' : Bool → Hp → Prop, R' b H → t σ H R') (hk : if b = true then A { D with nx := u D } σ H else B { D with nx := u D } σ H) : tSeq (tIfS t A B) u D σ H := h _ hk
theorem held_len {n : Nat} (h : n ≤ 40) : ("held" : Str).length + (Str.ofString (toString (n : Int))).length ≤ sizeLine := by
  have : ∀ k : Fin 41, ("held" : Str).length + (Str.ofString (toString ((k.val : Nat) : Int))).length ≤ 1000 := by decide +kernel
  exact Nat.le_trans (this ⟨n, by omega⟩) (Nat.le_of_lt (by decide))
theorem held_ne (x : Str) : ¬ V.str (("held" : Str) ++ x) = V.str "" := fun e => by
  injection e with e
  have := congrArg Str.length e
  rw [Str.length_append] at this
  have h4 : ("held" : Str).length = 4 := by decide +kernel
  have h0 : ("" : Str).length = 0 := by decide +kernel
  omega
section
variable {P : Program} {w : World} {K : PySem.W.Frag} {mg : Str → Option Value} {base : Heap} {c : Cs} {Pt CN CHd : Addr}
theorem scBack : FnScope ["_law_history", "_law_changes", "_law_number", "_law_due", "_law_told", "e", "_law_old"] ["_law_history", "_law_changes", "_law_number"] (defScope sBack) := ⟨rfl, rfl, rfl, by decide +kernel, rfl, by decide +kernel, by decide +kernel⟩
theorem ok_back {f : Addr} {fd : FuncData} (F : FnD K "_law_back" "_law_back" sBack f fd) (T : Bt mg) (hm : mg "_law_back" = some (.ref f)) (GHo : Fn P w K mg base CX0 2 "_law_holder" spHolder) (GT : Mt P w K mg base (L2.CX P w) 3 c.CH "take_back" (spTake c Pt CN CHd))
    (mN : mg "NoChange" = some (.ref CN)) (mH : mg "Held" = some (.ref CHd)) (XN : XfC K CN) (XH : XfC K CHd) (nN : PySem.W.findIn K (.ref CN) "number" = some none) (nH : PySem.W.findIn K (.ref CHd) "number" = some none) (nB : PySem.W.findIn K (.ref CHd) "by" = some none)
    (xNN : PySem.W.exmOne K (.ref CN) (.ref CN) = some true) (xHN : PySem.W.exmOne K (.ref CHd) (.ref CN) = some false) (xHH : PySem.W.exmOne K (.ref CHd) (.ref CHd) = some true) : Fn P w K mg base CX0 5 "_law_back" (spBack c Pt) := by
  refine ⟨f, fd, ["_law_history", "_law_changes", "_law_number"], fok F scBack (fun vs H Q E h => ?_) (fun cdv A outer s0 H vs Q E hr h => ?_), hm, F.kp, F.bindsN fun _ _ _ _ _ _ us hl => match us, hl with | [_, _, _], _ => rfl⟩
  · obtain ⟨p, da, ca, ow, doc, es, n, rfl, _⟩ := h
    rfl
  · obtain ⟨p, da, ca, ow, doc, es, n, rfl, L, hn, q⟩ := h
    refine ⟨_, pss_cons (ps_set (i := 3) scBack.nd rfl (.inl rfl) pe_str)
      (pss_cons (ps_if (PW.pt (pw_or (pt_not (pt_chain op_le op_le pe_int (pv 2) (pe_callB call_len_seq (by rfl) T.len PySem.boot_len (pa_cons (pv 1) pa_nil)))) (pw_or1 (pt_not (pt_val (pe_ix ix_tup (pe_ix ix_list (pv 1) (pe_op op_sub (pv 2) pe_int) (fun _ _ => rfl)) pe_int (fun _ _ => rfl)))))))
        (pss_one (ps_set (i := 3) scBack.nd rfl (.inl rfl) pe_str))
        (pss_one (ps_if (pt_cmpR op_gt (pe_fn GHo hr (by decide) pass0 (pa_cons (pv 1) (pa_cons (pv 2) pa_nil))) pe_int (nomark _))
            (pss_one (ps_set (i := 3) scBack.nd rfl (.inl rfl) (pe_op op_add_str pe_str (pe_callTy call_str_int (by rfl) T.str (by decide +kernel) (pa_cons (pe_fn GHo hr (by decide) pass0 (pa_cons (pv 1) (pa_cons (pv 2) pa_nil))) pa_nil)))))
            (pss_nil))))
      (pss_cons (ps_set (i := 4) scBack.nd rfl (.inl rfl) pe_str)
      (pss_cons (ps_try_named (l := _) (tb := fun W => tDrop (tMethW c.CH "take_back" (spTake c Pt CN CHd) (WE W) (tVar 0) (tCons (tVar 2) tNil))) (Wout := fun _ _ _ _ => False) rfl rfl scBack.nd takes0
          (fun W pn xe tk _ => pss_one (ps_expr (pe_mtW GT hr (by decide) (fun σ => passAt tk σ) (pv 0) (by exact (pa_cons (pv 2) pa_nil)))))
          (.cons (i := 5) rfl rfl ⟨rfl, by decide, .inl mN⟩ (fun a oe cls d pn hz hf => pss_cons (ps_set (i := 4) scBack.nd rfl (.inl rfl) pe_str) (pss_one (ps_if (pt_cmpR op_ne (pe_xf XN nN hz hf (pv 5)) (pv 2) (nomark _)) (pss_one (ps_ret pe_bl)) pss_nil)))
          (.cons (i := 5) rfl rfl ⟨rfl, by decide, .inl mH⟩ (fun a oe cls d pn hz hf => pss_cons (ps_set (i := 4) scBack.nd rfl (.inl rfl) (pe_op op_add_str pe_str (pe_callTy call_str_int (by rfl) T.str (by decide +kernel) (pa_cons (pe_xf XH nB hz hf (pv 5)) pa_nil)))) (pss_one (ps_if (pt_cmpR op_ne (pe_xf XH nH hz hf (pv 5)) (pv 2) (nomark _)) (pss_one (ps_ret pe_bl)) pss_nil))) .nil)))
      (pss_cons (ps_if (PW.pt (pw_and (pt_cmpR op_eq (pv 4) pe_str (nomark _)) (pw_and1 (pt_cmpR op_eq (pv 3) pe_str (nomark _)))))
        (pss_cons (ps_set (i := 6) scBack.nd rfl (.inl rfl) (pe_ix ix_list (pv 1) (pe_op op_sub (pv 2) pe_int) (fun _ _ => rfl)))
          (pss_one (ps_asg (pe_tup (pa_cons (pe_ix ix_tup (pv 6) pe_int (fun _ _ => rfl)) (pa_cons (pe_ix ix_tup (pv 6) pe_int (fun _ _ => rfl)) (pa_cons pe_bl (pa_cons (pe_ix ix_tup (pv 6) pe_int (fun _ _ => rfl)) pa_nil))))) (pg_sub (pv 1) (pe_op op_sub (pv 2) pe_int) set_list))))
        (pss_nil))
      (pss_one (ps_ret (pe_cmpR op_eq (pv 4) (pv 3) (nomark _)))))))), ?_⟩
    have tab := L.tab
    have few := L.few
    have cl : (lcs0 doc es).length = es.length := lchs_len _ _ _
    obtain ⟨cx, hcx, cxl, cxs⟩ := L.lcx.ex
    have cxl2 : cx.length = es.length := by rw [cxl, cl]
    obtain ⟨sh, hh⟩ := L.hist
    have nds : ∀ e ∈ es, (e.fates.map (·.1)).Nodup := fun e he => by
      obtain ⟨j, hj⟩ := List.mem_iff_getElem?.mp he
      exact L.law.nds hj
    refine seq_setC (seq_if (decide (n = 0 ∨ es.length < n ∨ stands es n = false)) (fun R hR => ?_) ?_)
    · refine ⟨_, rfl, 1, (n : Int), rfl, rfl, _, rfl, ?_⟩
      by_cases n0 : n = 0
      · rw [decide_eq_true (Or.inl n0)] at hR
        have e1 : decide ((1 : Int) ≤ (n : Int)) = false := decide_eq_false (by omega)
        rw [e1]
        exact ⟨_, rfl, iteT hR⟩
      have e1 : decide ((1 : Int) ≤ (n : Int)) = true := decide_eq_true (by omega)
      rw [e1]
      refine ⟨_, rfl, ca, cx, rfl, .inl (SqL.of hcx), (n : Int), (cx.length : Int), rfl, rfl, _, rfl, ?_⟩
      rw [cxl2]
      by_cases n1 : es.length < n
      · rw [decide_eq_true (Or.inr (Or.inl n1))] at hR
        have e2 : decide ((n : Int) ≤ (es.length : Int)) = false := decide_eq_false (by omega)
        rw [e2]
        exact iteT hR
      have e2 : decide ((n : Int) ≤ (es.length : Int)) = true := decide_eq_true (by omega)
      rw [e2]
      have hj : n - 1 < es.length := by omega
      have hz : (lcs0 doc es)[n - 1]? = some (lcs0 doc es)[n - 1] := List.getElem?_eq_getElem (by omega)
      obtain ⟨v, hv⟩ : ∃ v, cx[n - 1]? = some v := ⟨_, List.getElem?_eq_getElem (by omega)⟩
      obtain ⟨ta, nl, rfl, hta, _⟩ := cxs _ _ _ hv hz
      have en : ((n : Int) - 1) = ((n - 1 : Nat) : Int) := by omega
      refine iteF ⟨_, rfl, _, rfl, _, _, rfl, rfl, ca, cx, _, _, rfl, rfl, SqL.of hcx, at_of (j := n - 1) en hv, ta, _, 2, _, rfl, rfl, .inl (.of hta), at_of (j := 2) rfl rfl, _, rfl, ?_⟩
      have est : (lcs0 doc es)[n - 1].stands = stands es n := by
        have := lchs_get (build doc es) 1 es (n - 1)
        rw [show (lchs (build doc es) 1 es)[n - 1]? = some (lcs0 doc es)[n - 1] from hz, List.getElem?_eq_getElem hj] at this
        rw [Option.some.inj this]
        have h2 := stands_at (List.getElem?_eq_getElem hj)
        rw [show 1 + (n - 1) = n by omega] at h2
        exact h2.symm
      show R (!(lcs0 doc es)[n - 1].stands) H
      rw [est]
      cases st : stands es n with
      | false =>
        rw [decide_eq_true (Or.inr (Or.inr st))] at hR
        exact hR
      | true =>
        rw [decide_eq_false (fun z => by rcases z with z | z | z; exact n0 z; exact n1 z; rw [st] at z; cases z)] at hR
        exact hR
    · by_cases cond : n = 0 ∨ es.length < n ∨ stands es n = false
      · rw [decide_eq_true cond]
        refine iteT ?_
        refine ⟨_, rfl, p, _, _, rfl, hh.hp, rfl, _, rfl, p, ow, build doc es, es, n, rfl, ⟨sh, hh⟩, by omega, by omega, nds, fun _ H' d s1 hd => ?_, fun e1 h1 he1 st => ?_⟩
        · refine ⟨true, xNN, fun _ a na => ?_, fun z => nomatch z⟩
          refine ⟨_, rfl, rfl, rfl, d, _, _, rfl, hd, rfl, _, rfl, rfl, _, rfl, ite2 (fun z => ?_) (fun _ => ?_)⟩
          · rw [decide_eq_true rfl] at z
            cases z
          · refine ⟨_, rfl, rfl, _, rfl, iteF ?_⟩
            refine iteF ⟨_, rfl, _, rfl, rfl, ?_⟩
            show Q (V.bl (decide (V.str "none" = V.str "none"))) _
            rw [decide_eq_true rfl]
            exact q H' ow es (L.ex (Ex.of tab s1)) rfl (Stay.ex (Ex.of tab s1) tab)
        · have lt := (List.getElem?_eq_some_iff.mp he1).1
          rcases cond with z | z | z
          · omega
          · omega
          · rw [st] at z; cases z
      · rw [decide_eq_false cond]
        refine iteF ?_
        have h1n : 1 ≤ n := by
          rcases Nat.eq_zero_or_pos n with z | z
          · exact absurd (Or.inl z) cond
          · exact z
        have hle : n ≤ es.length := by
          rcases Nat.lt_or_ge es.length n with z | z
          · exact absurd (Or.inr (Or.inl z)) cond
          · exact z
        have st : stands es n = true := by
          cases z : stands es n with
          | true => rfl
          | false => exact absurd (Or.inr (Or.inr z)) cond
        have hj : n - 1 < es.length := by omega
        have he : es[n - 1]? = some es[n - 1] := List.getElem?_eq_getElem hj
        obtain ⟨c1, hz⟩ : ∃ c1, (lcs0 doc es)[n - 1]? = some c1 := ⟨_, List.getElem?_eq_getElem (by omega)⟩
        have ids : ∀ e ∈ es, ∀ q ∈ e.fates, q.1 < (build doc es).kept.length := fun e he' => by
          obtain ⟨j, hj⟩ := List.mem_iff_getElem?.mp he'
          exact L.law.ids hj
        have ec : c1 = ⟨1 + (n - 1), es[n - 1].author, es[n - 1].stands, es[n - 1].fates.map fun q => (((build doc es).at q.1).nm, q.2)⟩ := by
          have := lchs_get (build doc es) 1 es (n - 1)
          rw [show (lchs (build doc es) 1 es)[n - 1]? = some c1 from hz, he] at this
          exact Option.some.inj this
        obtain ⟨hold, ehold⟩ : ∃ hold, hold = holdFrom (build doc es) n es[n - 1] (n + 1) (es.drop n) := ⟨_, rfl⟩
        have heq : lHold c1 ((lcs0 doc es).drop n) = hold := by
          rw [ehold]
          unfold lcs0
          rw [lchs_drop, Nat.add_comm 1 n]
          exact hold_eq L.law.good (nds _ (List.getElem_mem hj)) (ids _ (List.getElem_mem hj)) _ (by rw [ec]; show 1 + (n - 1) = n; omega) (by rw [ec]) _ _ fun e he' => ids e (List.mem_of_mem_drop he')
        have holdle : hold ≤ 40 := by
          have := hold_le (b := build doc es) (n := n) (e1 := es[n - 1]) (es.drop n) (n + 1)
          rw [List.length_drop] at this
          omega
        have deps : ∀ c ∈ lcs0 doc es, ∀ p ∈ c.named, dN p.1 ≤ 59 := fun x hx p hp => (L.law.deps few x hx p hp).1
        refine ⟨_, rfl, _, rfl, ca, n, lcs0 doc es, _, rfl, L.lcx.lcs, h1n, hz, deps, fun H2 s2 => ?_⟩
        rw [heq]
        have L2_ := L.ex (Ex.of tab s2)
        refine ⟨_, _, rfl, rfl, _, rfl, ite2 (fun pos => ?_) (fun npos => ?_)⟩
        · have pos : 0 < hold := by
            have := of_decide_eq_true pos
            omega
          refine ⟨_, rfl, _, rfl, ca, n, lcs0 doc es, _, rfl, L2_.lcx.lcs, h1n, hz, deps, fun H3 s3 => ?_⟩
          rw [heq]
          have s13 := s2.trans s3
          have hh3 := hh.ex (Ex.of tab s13)
          refine ⟨(hold : Int), rfl, log_small (by omega) (by omega), _, _, rfl, rfl, ?_, ?_⟩
          · exact held_len (by omega)
          refine ⟨_, rfl, p, _, _, rfl, hh3.hp, rfl, _, rfl, p, ow, build doc es, es, n, rfl, ⟨sh, hh3⟩, by omega, by omega, nds, fun z => absurd z cond, fun e1 h1 he1 _ => ?_⟩
          rw [he] at he1
          obtain rfl := Option.some.inj he1
          rw [← ehold]
          refine ⟨fun _ H' d s4 hd => ⟨false, xHN, (fun z => absurd z Bool.false_ne_true), fun _ => ⟨true, xHH, fun _ a na => ?_, (fun z => absurd z.symm Bool.false_ne_true)⟩⟩, fun z => by omega⟩
          refine ⟨_, rfl, rfl, rfl, d, _, _, rfl, hd, rfl, (hold : Int), rfl, log_small (by omega) (by omega), _, _, rfl, rfl, held_len (by omega), ?_⟩
          refine ⟨_, rfl, rfl, rfl, d, _, _, rfl, hd, rfl, _, rfl, rfl, _, rfl, ite2 (fun z => ?_) (fun _ => ?_)⟩
          · rw [decide_eq_true rfl] at z
            cases z
          · refine ⟨_, rfl, rfl, _, rfl, ite2 (fun z => ?_) (fun _ => ?_)⟩
            · exact absurd (of_decide_eq_true z) (held_ne _)
            · refine iteF ⟨_, rfl, _, rfl, rfl, ?_⟩
              show Q (V.bl (decide (V.str (("held" : Str) ++ Str.ofString (toString (hold : Int))) = V.str (("held" : Str) ++ Str.ofString (toString (hold : Int)))))) _
              rw [decide_eq_true rfl]
              have s14 := s13.trans s4
              exact q H' ow es (L.ex (Ex.of tab s14)) rfl (Stay.ex (Ex.of tab s14) tab)
        · have h0 : hold = 0 := by
            rcases Nat.eq_zero_or_pos hold with z | z
            · exact z
            · exact absurd (decide_eq_true (by omega)) npos
          have hh2 := hh.ex (Ex.of tab s2)
          refine ⟨_, rfl, p, _, _, rfl, hh2.hp, rfl, _, rfl, p, ow, build doc es, es, n, rfl, ⟨sh, hh2⟩, by omega, by omega, nds, fun z => absurd z cond, fun e1 h1 he1 _ => ?_⟩
          rw [he] at he1
          obtain rfl := Option.some.inj he1
          rw [← ehold]
          refine ⟨fun z => absurd h0 z, fun _ H3 ow3 mv hist3 => ?_⟩
          have st3 : Stay Pt ca H H3 ow ow3 := (Stay.ex (Ex.of tab s2) tab).trans (Stay.mv mv hh2)
          have hcx2 := s2 _ _ hcx
          have caP : ca ≠ Pt := tab_ne tab hcx fun q z => by cases z
          obtain ⟨hcx3, oca3⟩ := mv.rest _ _ caP hcx2 L.lcx.own
          obtain ⟨v, hv⟩ : ∃ v, cx[n - 1]? = some v := ⟨_, List.getElem?_eq_getElem (by omega)⟩
          obtain ⟨ta, nl, rfl, hta, hnl, onl, nlca⟩ := cxs _ _ _ hv hz
          have hta3 := st3.tk _ _ hta
          have en : ((n : Int) - 1) = ((n - 1 : Nat) : Int) := by omega
          refine ⟨_, rfl, rfl, _, rfl, iteT ⟨_, rfl, rfl, _, rfl, ?_⟩⟩
          refine iteT ⟨_, rfl, _, rfl, _, _, rfl, rfl, ca, cx, _, _, rfl, rfl, SqL.of hcx3, at_of (j := n - 1) en hv, ?_⟩
          refine ⟨_, rfl, ta, _, 0, _, rfl, rfl, .inl (.of hta3), at_of (j := 0) rfl rfl, _, rfl, ta, _, 1, _, rfl, rfl, .inl (.of hta3), at_of (j := 1) rfl rfl, _, rfl, ta, _, 3, _, rfl, rfl, .inl (.of hta3), at_of (j := 3) rfl rfl, szT 4 (by decide), fun tp ntp => ?_⟩
          have s4 := snew (o := .tup [vN c1.num, .str c1.author.s, .bl false, .ref nl]) ntp
          have hcx4 := s4 _ _ hcx3
          refine ⟨_, rfl, _, rfl, _, _, rfl, rfl, ca, cx, _, n - 1, rfl, rfl, hcx4, ?_, ?_⟩
          · rw [en]
            exact ixN_ok (by omega)
          · refine ⟨_, rfl, _, rfl, rfl, ?_⟩
            show Q (V.bl (decide (V.str "" = V.str ""))) _
            rw [decide_eq_true rfl]
            obtain ⟨L9, st9⟩ := L.unset h1n he hz (by rw [← ehold]; exact h0) st3 hist3 s4 hcx hcx4 oca3 upd_same hnl onl nlca
            exact q _ ow3 _ L9 (List.length_set ..) st9
end
end Wh

namespace Wh
open PySem PySem.Spec PyProof.Rows L2 Wf
abbrev sLaw : Stmt := top 36
def spLaw (K : PySem.W.Frag) (Pt : Addr) : Sp := fun vs H Q _ => ∃ (sa : Addr) (ns : List Int), vs = [.ref sa] ∧ SqL K H sa (ns.map V.int) ∧ GxR.TabG H Pt ∧ ∀ H', Q (.bl true) H'
section
variable {P : Program} {w : World} {K : PySem.W.Frag} {mg : Str → Option Value} {base : Heap} {c : Cs} {Pt : Addr}
theorem g_if {i : Nat} {v : V} {σ : L2.St} {H : Hp} {t : TT} {A B u : TS} {D : Ends} {r : VK} {bk ct : L2.St → Hp → Prop} (b : Bool) (h : ∀ R' : Bool → Hp → Prop, R' b H → t (σ.set i (some v)) H R') (hk : if b = true then A { D with nx := u D } (σ.set i (some v)) H else B { D with nx := u D } (σ.set i (some v)) H) : gName i v σ H (Ends.nx { nx := tSeq (tIfS t A B) u D, rt := r, bk := bk, ct := ct }) := h _ hk
theorem scLaw : FnScope ["_law_script", "_law_document", "_law_history", "_law_changes", "_law_k", "_law_rows", "_law_choice", "_law_number"] ["_law_script"] (defScope sLaw) := ⟨rfl, rfl, rfl, by decide +kernel, rfl, by decide +kernel, by decide +kernel⟩
theorem ok_law {f : Addr} {fd : FuncData} (F : FnD K "law" "law" sLaw f fd) (T : Bt mg) (GC : Fn P w K mg base CX0 1 "_law_cell" (spCell K)) (GS : Fn P w K mg base CX0 2 "_law_start" (spStart K)) (GWr : Fn P w K mg base CX0 2 "write" spWrite) (MH : Mc P w K mg base 4 "History" c.CH (spHI c Pt))
    (GRp : Fn P w K mg base CX0 3 "_law_replay" spReplay) (GLB : Fn P w K mg base CX0 5 "_law_back" (spBack c Pt)) (GLC : Fn P w K mg base CX0 5 "_law_change" (spLCh K c Pt)) (GLS : Fn P w K mg base CX0 5 "_law_is_shown" (spShw c Pt)) : FnOk P w K mg base CX0 6 f fd ["_law_script"] (spLaw K Pt) := by
  refine fok F scLaw (fun vs H Q E h => ?_) (fun cdv A outer s0 H vs Q E hr h => ?_)
  · obtain ⟨sa, ns, rfl, _⟩ := h
    rfl
  · obtain ⟨sa, ns, rfl, hS, tab, q⟩ := h
    refine ⟨_, pss_cons (ps_set (i := 1) scLaw.nd rfl (.inl rfl) (pe_fn GS hr (by decide) pass0 (pa_cons (pv 0) (pa_cons (pe_op op_add pe_int (pe_op op_mod (pe_fn GC hr (by decide) pass0 (pa_cons (pv 0) (pa_cons pe_int pa_nil))) pe_int)) pa_nil))))
      (pss_cons (ps_set (i := 2) scLaw.nd rfl (.inl rfl) (pe_mc MH hr (by decide) (pa_cons (pe_fn GWr hr (by decide) pass0 (pa_cons (pv 1) pa_nil)) pa_nil)))
      (pss_cons (ps_set (i := 3) scLaw.nd rfl (.inl rfl) (pe_lst pa_nil))
      (pss_cons (ps_for PassesOwn.never rfl (pi_range1 rfl T.range (pa_cons (pe_op op_mod (pe_fn GC hr (by decide) pass0 (pa_cons (pv 0) (pa_cons pe_int pa_nil))) pe_int) pa_nil)) (pg_name (i := 4) scLaw.nd rfl (.inl rfl))
        (pss_cons (ps_set (i := 5) scLaw.nd rfl (.inl rfl) (pe_fn GRp hr (by decide) pass0 (pa_cons (pv 1) (pa_cons (pv 3) pa_nil))))
          (pss_cons (ps_set (i := 6) scLaw.nd rfl (.inl rfl) (pe_op op_mod (pe_op op_fdivN (pe_fn GC hr (by decide) pass0 (pa_cons (pv 0) (pa_cons (pe_op op_add pe_int (pe_op op_mod (pv 4) pe_int)) pa_nil))) (pe_op op_add (pv 4) pe_int)) pe_int))
          (pss_cons (ps_if (PW.pt (pw_and (pt_cmpR op_lt (pv 6) pe_int (nomark _)) (pw_and1 (pt_cmpR op_gt (pe_callB call_len_seq (by rfl) T.len PySem.boot_len (pa_cons (pv 3) pa_nil)) pe_int (nomark _)))))
            (pss_cons (ps_set (i := 7) scLaw.nd rfl (.inl rfl) (pe_op op_mod (pe_fn GC hr (by decide) pass0 (pa_cons (pv 0) (pa_cons (pe_op op_add pe_int (pv 4)) pa_nil))) (pe_op op_add (pe_callB call_len_seq (by rfl) T.len PySem.boot_len (pa_cons (pv 3) pa_nil)) pe_int)))
              (pss_one (ps_if (pt_not (pt_val (pe_fn GLB hr (by decide) pass0 (pa_cons (pv 2) (pa_cons (pv 3) (pa_cons (pv 7) pa_nil))))))
                (pss_one (ps_ret pe_bl))
                (pss_nil))))
            (pss_one (ps_if (PW.pt (pw_and (pt_cmpR op_gt (pe_callB call_len_seq (by rfl) T.len PySem.boot_len (pa_cons (pv 5) pa_nil)) pe_int (nomark _)) (pw_and1 (pt_not (pt_val (pe_fn GLC hr (by decide) pass0 (pa_cons (pv 2) (pa_cons (pv 1) (pa_cons (pv 3) (pa_cons (pv 5) (pa_cons (pv 0) (pa_cons (pv 4) pa_nil))))))))))))
                (pss_one (ps_ret pe_bl))
                (pss_nil))))
          (pss_one (ps_if (pt_not (pt_val (pe_fn GLS hr (by decide) pass0 (pa_cons (pv 2) (pa_cons (pv 1) (pa_cons (pv 3) pa_nil))))))
            (pss_one (ps_ret pe_bl))
            (pss_nil)))))))
      (pss_one (ps_ret pe_bl))))), ?_⟩
    refine ⟨_, rfl, _, rfl, sa, ns, 0, rfl, hS, by decide, fun z0 => ⟨_, _, rfl, rfl, (by show (0 : Int) < 14; decide), _, _, rfl, rfl, ?_⟩⟩
    obtain ⟨m0, em0, hm0⟩ : ∃ m : Nat, (1 : Int) + z0 % 14 = (m : Int) ∧ m ≤ 14 := by
      have a1 := Int.emod_nonneg z0 (show (14 : Int) ≠ 0 by decide)
      have a2 := Int.emod_lt_of_pos z0 (show (0 : Int) < 14 by decide)
      exact ⟨((1 : Int) + z0 % 14).toNat, by omega, by omega⟩
    refine ⟨sa, ns, m0, by
      show [V.ref sa, V.int ((1 : Int) + z0 % 14)] = _
      rw [em0], hS, hm0, fun H1 da doc dok hd2 hdl s1 tda => ?_⟩
    have S1 := s1.seq hS
    have tab1 : GxR.TabG H1 Pt := (Ex.of tab s1).2
    refine ⟨_, rfl, _, doc, rfl, tda, by omega, dok.ok, fun H2 s2 => fun xa dx nx ndx ndn => ?_⟩
    have ndx2 : H2 dx = none := ndx
    have nx2 : H2 xa = none := nx
    have s3 : Same H2 (L2.upd (L2.upd H2 dx (.own xa)) xa (.ins c.CH dx [])) := (snew ndx).trans (snew (by rw [upd_ne (Ne.symm ndn)]; exact nx))
    have s13 := s2.trans s3
    refine ⟨xa, dx, doc, rfl, upd_same, dok, fun z => (by rw [z] at hd2; exact absurd hd2 (by decide)), by omega, (Ex.of tab1 s13).2, fun H3 ow3 hist keep => ⟨rfl, ?_⟩⟩
    obtain ⟨sh, hh⟩ := hist
    have keep2 : ∀ a o, H2 a = some o → H3 a = some o ∧ ow3 a = none := fun a o e => keep a o (s3 _ _ e) (ne_of_none e nx2)
    refine ⟨szT 0 (by decide), fun ca nca => ?_⟩
    have oca : ow3 ca = none := hh.fresh nca
    have s4 : Same H3 (L2.upd H3 ca (.lst [])) := snew nca
    have scr : Scr K (L2.upd H3 ca (.lst [])) ow3 ca sa (ns.map V.int) := by
      have n : ∀ {o}, H2 sa = some o → sa ≠ ca := fun e z => by
        have := (keep2 _ _ e).1
        rw [z, nca] at this
        cases this
      rcases s2.seq S1 with (e | ⟨o, e⟩) | e
      · exact .inl ⟨.inl (s4 _ _ (keep2 _ _ e).1), (keep2 _ _ e).2, n e⟩
      · exact .inl ⟨.inr ⟨o, s4 _ _ (keep2 _ _ e).1⟩, (keep2 _ _ e).2, n e⟩
      · exact .inr e
    have tk3 : Tk H1 (L2.upd H3 ca (.lst [])) := fun a xs e => s4 _ _ (keep2 a _ (s2 _ _ e)).1
    have dl : doc.length ≤ 40 := by omega
    have L0 : LSt c Pt (L2.upd H3 ca (.lst [])) ow3 xa da ca doc [] := ⟨⟨sh, hh.same s4⟩, Tp.mono tk3 tda, ⟨oca, [], upd_same, rfl, fun j v x e _ => by cases e⟩, LawSt.init dl, by decide⟩
    obtain ⟨H4, e4⟩ : ∃ H4, H4 = L2.upd H3 ca (.lst []) := ⟨_, rfl⟩
    rw [← e4] at scr L0 ⊢
    clear e4
    refine ⟨_, rfl, sa, ns, 1, rfl, scr.sq, by decide, fun z1 => ⟨_, _, rfl, rfl, (by show (0 : Int) < 12; decide), ?_⟩⟩
    obtain ⟨m, em, hm⟩ : ∃ m : Nat, z1 % 12 = (m : Int) ∧ m ≤ 11 := by
      have a1 := Int.emod_nonneg z1 (show (12 : Int) ≠ 0 by decide)
      have a2 := Int.emod_lt_of_pos z1 (show (0 : Int) < 12 by decide)
      exact ⟨(z1 % 12).toNat, by omega, by omega⟩
    refine ⟨(m : Int), by rw [← em], by omega, by omega, for_range (lo := 0) (n := m) (fun i σ H' => (∃ u4 u5 u6 u7, σ = [some (.ref sa), some (.ref da), some (.ref xa), some (.ref ca), u4, u5, u6, u7]) ∧ ∃ ow es, LSt c Pt H' ow xa da ca doc es ∧ Scr K H' ow ca sa (ns.map V.int) ∧ es.length ≤ i)
      ⟨⟨_, _, _, _, rfl⟩, ow3, [], L0, scr, Nat.le_refl _⟩ ?_ ?_⟩
    · rintro i σ H5 hi ⟨⟨u4, u5, u6, u7, rfl⟩, ow, es, L, sc, hes⟩
      rw [Int.zero_add]
      obtain ⟨sh5, hh5⟩ := L.hist
      have tab5 := L.tab
      have cl : (lcs0 doc es).length = es.length := lchs_len _ _ _
      refine ⟨_, rfl, _, rfl, da, ca, doc, lcs0 doc es, rfl, L.tda, L.lcx.lcs, L.law.repD L.few, fun H6 ra s6 nra hra => ?_⟩
      have ora : ow ra = none := hh5.fresh nra
      have L6 := L.ex (Ex.of tab5 s6)
      have sc6 : Scr K H6 ow ca sa (ns.map V.int) := sc.stay (Stay.ex (Ex.of tab5 s6) tab5) tab5
      obtain ⟨cx, hcx, cxl, _⟩ := L6.lcx.ex
      have raca : ra ≠ ca := fun z => by
        obtain ⟨cx5, hcx5, _⟩ := L.lcx.ex
        rw [z, hcx5] at nra
        cases nra
      refine ⟨_, rfl, _, rfl, _, _, rfl, rfl, (by show (0 : Int) < 5; decide), _, _, rfl, rfl, sa, ns, (20 : Int) + (i : Int) % 5, rfl, sc6.sq, by omega, fun z => ⟨_, rfl, _, _, rfl, rfl, _, _, rfl, rfl, ⟨by omega, by omega⟩, _, _, rfl, rfl, (by show (0 : Int) < 5; decide), ?_⟩⟩
      obtain ⟨ch, ech⟩ : ∃ ch : Int, ch = z.fdiv ((i : Int) + 1) % 5 := ⟨_, rfl⟩
      show gName 6 (V.int (z.fdiv ((i : Int) + 1) % 5)) _ _ _
      rw [← ech]
      refine g_if (decide (ch < 2) && decide (0 < es.length)) (fun R hR => ?_) ?_
      · refine ⟨_, rfl, _, _, rfl, rfl, _, rfl, ite2 (fun c1 => ⟨_, rfl, ca, cx, rfl, .inl (SqL.of hcx), _, _, rfl, rfl, _, rfl, ?_⟩) (fun c1 => ?_)⟩
        · rw [c1, Bool.true_and] at hR
          rw [show decide ((0 : Int) < (cx.length : Int)) = decide (0 < es.length) from by
            rw [cxl, cl, Bool.eq_iff_iff, decide_eq_true_iff, decide_eq_true_iff]
            omega]
          exact hR
        · rw [Bool.eq_false_iff.mpr c1, Bool.false_and] at hR
          exact hR
      · refine ite2 (fun _ => ?_) (fun _ => ?_)
        · refine ⟨_, rfl, _, rfl, _, _, rfl, rfl, sa, ns, (26 : Int) + (i : Int), rfl, sc6.sq, by omega, fun z3 => ⟨_, rfl, ca, cx, rfl, .inl (SqL.of hcx), _, _, rfl, rfl, _, _, rfl, rfl, (by show (0 : Int) < (cx.length : Int) + 2; omega), ?_⟩⟩
          obtain ⟨nn, enn, hnn⟩ : ∃ nn : Nat, z3 % ((cx.length : Int) + 2) = (nn : Int) ∧ nn ≤ es.length + 1 := by
            have a1 := Int.emod_nonneg z3 (show ((cx.length : Int) + 2) ≠ 0 by omega)
            have a2 := Int.emod_lt_of_pos z3 (show (0 : Int) < (cx.length : Int) + 2 by omega)
            exact ⟨(z3 % ((cx.length : Int) + 2)).toNat, by omega, by omega⟩
          show gName 7 (V.int (z3 % ((cx.length : Int) + 2))) _ _ _
          rw [enn]
          refine ⟨_, rfl, _, rfl, _, rfl, xa, da, ca, ow, doc, es, nn, rfl, L6, hnn, fun H7 ow7 es7 L7 hl7 st7 => ⟨_, rfl, iteF ?_⟩⟩
          refine ⟨_, rfl, _, rfl, _, rfl, xa, da, ca, ow7, doc, es7, rfl, L7, fun H8 x8 => ⟨_, rfl, iteF ⟨⟨_, _, _, _, rfl⟩, ow7, es7, L7.ex x8, ?_, by omega⟩⟩⟩
          exact (sc6.stay st7 L6.tab).stay (Stay.ex x8 L7.tab) L7.tab
        · obtain ⟨xs, hxs, tx⟩ := id hra
          have hxl : xs.length = (upRows doc (lcs0 doc es)).length := by rw [tx.len, List.length_map]
          refine ⟨_, rfl, ra, xs, rfl, .inl (SqL.of hxs), _, _, rfl, rfl, _, rfl, ite2 (fun pos => ?_) (fun _ => iteF ?_)⟩
          · have pos := of_decide_eq_true pos
            refine ⟨_, rfl, _, rfl, _, rfl, _, rfl, _, rfl, _, rfl, xa, da, ca, ra, sa, ow, doc, es, ns, i, rfl, L6, hra, ora, raca, fun z => (by rw [z] at hxl; have : xs.length = 0 := hxl; omega), sc6, by omega, by omega, fun H7 ow7 e L7 st7 => ⟨_, rfl, iteF ?_⟩⟩
            refine ⟨_, rfl, _, rfl, _, rfl, xa, da, ca, ow7, doc, _, rfl, L7, fun H8 x8 => ⟨_, rfl, iteF ⟨⟨_, _, _, _, rfl⟩, ow7, _, L7.ex x8, ?_, by rw [List.length_append]; show es.length + 1 ≤ i + 1; omega⟩⟩⟩
            exact (sc6.stay st7 L6.tab).stay (Stay.ex x8 L7.tab) L7.tab
          · refine ⟨_, rfl, _, rfl, _, rfl, xa, da, ca, ow, doc, es, rfl, L6, fun H8 x8 => ⟨_, rfl, iteF ⟨⟨_, _, _, _, rfl⟩, ow, es, L6.ex x8, ?_, by omega⟩⟩⟩
            exact sc6.stay (Stay.ex x8 L6.tab) L6.tab
    · rintro σ H5 ⟨⟨u4, u5, u6, u7, rfl⟩, _⟩
      exact q H5
end
end Wh

namespace Wh
open PySem PySem.Spec PyProof.Rows L2 Wf
/-! ### the head: what it must leave -/
def gfn (x : Str) (i : Nat) : He.DefD := ⟨(x, none), x, x, defArgs (top i), defBody (top i), defScope (top i), [], []⟩
def mfn (C x q : Str) (st : Stmt) : He.DefD := ⟨(C, some x), x, q, defArgs st, defBody st, defScope st, [], []⟩
def defsH : List He.DefD := [
  gfn "_law_cell" 24, gfn "_law_draws" 25, gfn "_law_history_fates" 26, gfn "_law_start" 27, gfn "_law_place" 28, gfn "_law_apply_named" 29, gfn "_law_replay" 30, gfn "_law_is_hanging" 31, gfn "_law_holder" 32, gfn "_law_change" 33, gfn "_law_back" 34, gfn "_law_is_shown" 35, gfn "law" 36,
  gfn "is_name_sign" 9, gfn "is_name" 10, gfn "use_of" 11, gfn "head_fault" 12, gfn "read_line" 13, gfn "read" 14, gfn "write_line" 15, gfn "write" 16, gfn "put_lines" 18,
  mfn "Kept" "__init__" "Kept.__init__" sKI, mfn "Change" "__init__" "Change.__init__" sCI, mfn "History" "__init__" "History.__init__" sHI, mfn "History" "stands" "History.stands" sStands, mfn "History" "is_there" "History.is_there" sIsThere, mfn "History" "last_text" "History.last_text" sLastT,
  mfn "History" "present" "History.present" sPresent, mfn "History" "shown" "History.shown" sShown, mfn "History" "document" "History.document" sDocm, mfn "History" "add_fate" "History.add_fate" sAddF, mfn "History" "change" "History.change" sChange, mfn "History" "log" "History.log" sLog,
  mfn "History" "given_by" "History.given_by" sGiven, mfn "History" "blame" "History.blame" sBlame, mfn "History" "is_held_by" "History.is_held_by" sHeldBy, mfn "History" "take_back" "History.take_back" sTake]
def glosH : List Str := ["_law_cell", "_law_draws", "_law_history_fates", "_law_start", "_law_place", "_law_apply_named", "_law_replay", "_law_is_hanging", "_law_holder", "_law_change", "_law_back", "_law_is_shown", "law", "is_name_sign", "is_name", "use_of", "head_fault", "read_line", "read", "write_line", "write", "put_lines", "Kept", "Change", "History", "NoChange", "Held"]
def freesH : List Str := ["len", "range", "str", "sorted", "dict", "list", "tuple", "any", "all", "enumerate", "reversed", "super"]
def methsH : List Str := ["stands", "is_there", "last_text", "present", "shown", "document", "add_fate", "change", "log", "given_by", "blame", "is_held_by", "take_back"]
def factsH : List He.Fa := glosH.map .glo ++ freesH.map .free ++ methsH.map (.meth "History") ++ [.int "NAME_MOST" 20, .cls "Kept", .cls "Change", .cls "History", .mkr "Kept", .mkr "Change", .mkr "History", .meth "NoChange" "__init__", .meth "Held" "__init__",
  .noat "History" "kept", .noat "History" "order", .noat "History" "changes", .noat "Kept" "born", .noat "Kept" "line", .noat "Kept" "texts", .noat "Kept" "dropped", .noat "Change" "author", .noat "Change" "stands", .noat "Change" "fates", .noat "Change" "put",
  .noat "NoChange" "number", .noat "Held" "number", .noat "Held" "by", .exm "NoChange" "NoChange" true, .exm "Held" "NoChange" false, .exm "Held" "Held" true]
/-- an own error over ValueError, by its class -/
def oexB (K : PySem.W.Frag) (C : Addr) : Bool := (match K.lookup C with
  | some ⟨.type "type", _, .cls cd, sl⟩ => (match cd.mro, sl.toList with
    | .ref D :: bm, [_, _, _, _, some (.builtin n), _] => D == C && (n == "ValueError.__new__" && (!cd.hasDel && (cd.hasDict && PySem.HandSPX.refsVE bm)))
    | _, _ => false)
  | _ => false) && (He.eqO (PySem.W.findIn K (.ref C) "__setattr__") (some (some (.builtin "object.__setattr__"))) && (decide (PySem.W.subIn K (.ref C) (.type "BaseException") = some true) && (decide (PySem.W.typeIn K (.ref C) = some (.type "type")) && PySem.W.keepIn K (.ref C))))
/-- its __init__: the class cell, the code object, the file -/
def supB (file : Str) (K : PySem.W.Frag) (x q : Str) : Bool := (match K.lookup (He.fAd K (x, some "__init__")) with
  | some ⟨_, _, .func fd, _⟩ => (match fd.closure, fd.code with
    | [(n, cc)], .ref cda => n == "__class__" && ((match fd.defaults with
      | .none => true
      | _ => false) && ((match K.lookup cc with
      | some ⟨_, _, .cell (some (.ref D)), _⟩ => D == He.ga K x
      | _ => false) && (PySem.W.codeIn K (.ref cda) q && (match K.lookup cda with
      | some ⟨_, _, .fields vs, _⟩ => (match (vs[2]? : Option Value) with
        | some (.str g _) => file == g
        | _ => false)
      | _ => false))))
    | _, _ => false)
  | _ => false) && (decide (PySem.W.mroIn K (He.ga K x) (.ref (He.ga K x)) = some true) && (decide (PySem.W.subIn K (.ref (He.ga K x)) (.type "ValueError") = some true) && (He.eqO (PySem.W.nsIn K cStatics "thirdparty.any") (some none) && (He.eqO (PySem.W.ks_superIn K (He.ga K x) (He.ga K x) "__init__") (some (some (.builtin "ValueError.__init__")))))))
abbrev Rr : PySem.W.OpenRow := PySem.W.OpenLaw.row PySem.Challenge.rw_weft_k62_whole_histories
def exB (K : PySem.W.Frag) : Bool := (oexB K (He.ga K "NoChange") && oexB K (He.ga K "Held")) && ((supB Rr.prog.main.file K "NoChange" "NoChange.__init__" && supB Rr.prog.main.file K "Held" "Held.__init__") && (xfB K (He.ga K "NoChange") && xfB K (He.ga K "Held")))
abbrev FnC : Type := Option (Str × Str × Arguments × FuncBody × Scope × Addr × Addr)
def fnC (K : PySem.W.Frag) (x : Str) : FnC := match K.lookup (He.fAd K (x, some "__init__")) with
  | some ⟨_, _, .func fd, _⟩ => some (fd.name, fd.qualname, fd.params, fd.body, fd.scope, fd.globals, fd.builtins)
  | _ => none
def fnV (q : Str) (st : Stmt) : FnC := some ("__init__", q, defArgs st, .stmts (defBody st), defScope st, mainGlobals, builtinsNs)
def Kz (g : Addr → Option Obj) : PySem.W.Frag := He.frT g (cStatics :: He.asD g 7)
abbrev AlZ : Type := He.AlD × Bool × FnC × FnC
def obsZ (g : Addr → Option Obj) : AlZ := (He.obsD factsH defsH (Kz g), exB (Kz g) && He.tabsB g [("History", some "is_there")] (Kz g), fnC (Kz g) "NoChange", fnC (Kz g) "Held")
def valZ : AlZ := (He.valD defsH, true, fnV "NoChange.__init__" sNoI, fnV "Held.__init__" sHeI)
structure SaysZ (h : Heap) (K : PySem.W.Frag) : Prop where
  d : He.SaysD factsH defsH K
  ex : exB K = true
  fN : fnC K "NoChange" = fnV "NoChange.__init__" sNoI
  fH : fnC K "Held" = fnV "Held.__init__" sHeI
  hd : PySem.W.codeHdIn K (He.cT K ("History", some "is_there")).1 (He.cT K ("History", some "is_there")).2 = true
  out : K.lookup (He.cT K ("History", some "is_there")).2 = none
  empty : h.get? (He.cT K ("History", some "is_there")).2 = some { cls := .none, data := .fields #[] }
theorem saysZ_of {h : Heap} (e : obsZ h.get? = valZ) : SaysZ h (Kz h.get?) := by
  have e1 : He.obsD factsH defsH (Kz h.get?) = He.valD defsH := congrArg (fun z : AlZ => z.1) e
  have e2 : (exB (Kz h.get?) && He.tabsB h.get? [("History", some "is_there")] (Kz h.get?)) = true := congrArg (fun z : AlZ => z.2.1) e
  obtain ⟨h1, h2⟩ := He.ba e2
  obtain ⟨h3, h4⟩ := He.ba (List.all_eq_true.mp h2 ("History", some "is_there") List.mem_cons_self)
  refine ⟨e1, h1, congrArg (fun z : AlZ => z.2.2.1) e, congrArg (fun z : AlZ => z.2.2.2) e, h3, ?_, ?_⟩
  · cases q : h.get? (He.cT (Kz h.get?) ("History", some "is_there")).2 with
    | none => rw [q] at h4; cases h4
    | some o => rw [q] at h4; exact He.frT_none q h4
  · cases q : h.get? (He.cT (Kz h.get?) ("History", some "is_there")).2 with
    | none => rw [q] at h4; cases h4
    | some o => rw [q] at h4; rw [He.emptyTab_eq h4]
def hkZ : PySem.W.Hook where
  α := AlZ
  obs := fun s => obsZ s.heap.get?
  val := fun _ => valZ
  says := fun _ h => ∃ K : PySem.W.Frag, K.In h ∧ SaysZ h K
  of := fun _ _ e => ⟨_, He.frT_in, saysZ_of e⟩
  keeps := fun _ _ _ ⟨K, hK, c⟩ k => ⟨K, PySem.W.Frag.In.keeps hK k, ⟨c.d, c.ex, c.fN, c.fH, c.hd, c.out, k _ _ c.empty⟩⟩
def obZ (s : PySem.W.SharedT) : AlZ := obsZ (HandSHeadRun.getT s)
theorem obZ_eq (s : PySem.W.SharedT) : obZ s = hkZ.obs s.abs := by
  have e : HandSHeadRun.getT s = s.abs.heap.get? := funext fun a => HandSHeadRun.getT_eq s a
  show obsZ (HandSHeadRun.getT s) = obsZ s.abs.heap.get?
  rw [e]
def looseH : List Str := ["_wall", "WeftError", "BadDocument", "NoChange", "Held", "NAME_MOST", "NAME_SIGNS", "is_name_sign", "is_name", "use_of", "head_fault", "read_line", "read", "write_line", "write", "put_lines", "Kept", "Change", "History",
  "_law_cell", "_law_draws", "_law_history_fates", "_law_start", "_law_place", "_law_apply_named", "_law_replay", "_law_is_hanging", "_law_holder", "_law_change", "_law_back", "_law_is_shown"]
end Wh

namespace Wh
open PySem PySem.W PySem.Calls PyProof.Rows
theorem runZ (w : World) : HandSHeadRun.RunEq Rr (view Rr.prog [36]) hkZ obZ 3000 looseH w := by
  intro os
  kernel_rfl
end Wh

namespace Wh
open PySem PySem.Spec PyProof.Rows L2 Wf
theorem oexB_ok {K : PySem.W.Frag} {C : Addr} (h : oexB K C = true) : OexC K C := by
  obtain ⟨h1, h2⟩ := He.ba h
  obtain ⟨h3, h4⟩ := He.ba h2
  obtain ⟨h5, h6⟩ := He.ba h4
  obtain ⟨h7, h8⟩ := He.ba h6
  refine ⟨?_, He.eqO_ok h3, of_decide_eq_true h5, of_decide_eq_true h7, h8⟩
  split at h1
  · rename_i dd cd sl ho
    split at h1
    · rename_i D bm k0 k1 k2 k3 n k5 hm hs
      obtain ⟨g1, g2⟩ := He.ba h1
      obtain ⟨g3, g4⟩ := He.ba g2
      obtain ⟨g5, g6⟩ := He.ba g4
      obtain ⟨g7, g8⟩ := He.ba g6
      obtain ⟨nm, bs, mro, ns, qn, hd, sn, sub, ab, col, del⟩ := cd
      dsimp only at hm g5 g7
      have eD := beq_iff_eq.mp g1
      have en := beq_iff_eq.mp g3
      have ed : del = false := by simpa using g5
      subst hm eD en ed g7
      have hsl : sl = #[k0, k1, k2, k3, some (.builtin "ValueError.__new__"), k5] := by
        obtain ⟨l⟩ := sl
        simp only at hs
        rw [hs]
      subst hsl
      exact ⟨nm, qn, ns, bs, bm, sn, sub, ab, col, dd, k0, k1, k2, k3, k5, ho, g8⟩
    · cases h1
  · cases h1
theorem supB_ok {P : Program} {h : Heap} {mg : Str → Option Value} {K : PySem.W.Frag} {x q : Str} {st : Stmt} (X : K.In h) (G : h.Ns mainGlobals mg) (b : supB P.main.file K x q = true) (e : fnC K x = fnV q st) (ox : OexC K (He.ga K x)) (top : (P.main.scope.names.lookup ("super" : Str)).isSome = false) (gl : mg "super" = none) :
    ∃ cc cda fd, SupD P K mg (He.ga K x) q st (He.fAd K (x, some "__init__")) cc cda fd := by
  obtain ⟨h1, h2⟩ := He.ba b
  obtain ⟨h3, h4⟩ := He.ba h2
  obtain ⟨h5, h6⟩ := He.ba h4
  obtain ⟨h7, h8⟩ := He.ba h6
  unfold fnC at e
  cases hk : K.lookup (He.fAd K (x, some "__init__")) with
  | none => rw [hk] at h1; cases h1
  | some o =>
    obtain ⟨oc, od, dt, osl⟩ := o
    rw [hk] at h1 e
    cases dt with
    | func fd =>
      obtain ⟨n1, n2, n3, n4, n5, n6, n7, n8, n9, n10, n11, n12, n13, n14, n15⟩ := fd
      have e2 : (some (n1, n2, n3, n4, n5, n6, n15) : FnC) = (some ("__init__", q, defArgs st, .stmts (defBody st), defScope st, mainGlobals, builtinsNs) : FnC) := e
      simp only [Option.some.injEq, Prod.mk.injEq] at e2
      obtain ⟨z1, z2, z3, z4, z5, z6, z7⟩ := e2
      subst z1 z2 z3 z4 z5 z6 z7
      dsimp only at h1
      split at h1
      · rename_i u1 u2 nm cc cda
        obtain ⟨g1, g2⟩ := He.ba h1
        obtain ⟨g3, g4⟩ := He.ba g2
        obtain ⟨g5, g6⟩ := He.ba g4
        obtain ⟨g7, g8⟩ := He.ba g6
        have en := beq_iff_eq.mp g1
        subst en
        have e8 : n8 = .none := by
          cases n8 with
          | none => rfl
          | _ => cases g3
        subst e8
        refine ⟨cc, cda, _, ⟨oc, od, n9, n10, n11, n12, n14, osl, rfl, hk⟩, g7, ?_, ?_, top, ox, of_decide_eq_true h3, of_decide_eq_true h5, He.eqO_ok h7, He.eqO_ok h8, gl⟩
        · split at g5
          · rename_i cl cld D csl hcc
            have := beq_iff_eq.mp g5
            subst this
            exact ⟨_, _, _, hcc⟩
          · cases g5
        · split at g8
          · rename_i ccl cdd vs ccs hcd
            split at g8
            · rename_i g tf hv
              exact ⟨_, _, _, _, g, tf, hcd, hv, g8⟩
            · cases g8
          · cases g8
      · cases h1
    | _ => cases h1
end Wh

namespace Wh
open PySem PySem.Spec PyProof.Rows L2 Wf
abbrev lawL : PySem.W.OpenLaw := PySem.Challenge.rw_weft_k62_whole_histories
theorem SupD.binds {P : Program} {K : PySem.W.Frag} {mg : Str → Option Value} {C f cc cda : Addr} {q : Str} {st : Stmt} {fd : FuncData} {ps : List Str} (S : SupD P K mg C q st f cc cda fd)
    (h : ∀ (kV doc pm : Value) (an : Option Addr) (ct : Value) (us : List Value), us.length = ps.length → bindArgs (PySem.W.ksFn "__init__" q (defArgs st) (defBody st) (defScope st) .none kV doc pm an (.ref cda) ct cc) ⟨us, []⟩ = pure (ps.zip us)) : Binds K fd ps [] := by
  obtain ⟨oc, od, kV, doc, pm, an, ct, osl, rfl, lk⟩ := S.ex
  exact .all (h kV doc pm an ct)
section
variable {w : World} {h : Heap} {K : PySem.W.Frag} {mg : Str → Option Value}
theorem gloZ (X : K.In h) (G : h.Ns mainGlobals mg) (c : SaysZ h K) {x : Str} (hx : x ∈ glosH) : mg x = some (.ref (He.ga K x)) :=
  He.glo_ok X G (c.d.facts (f := .glo x) (List.mem_append_left _ (List.mem_append_left _ (List.mem_append_left _ (List.mem_map.mpr ⟨x, hx, rfl⟩)))))
theorem freeZ (X : K.In h) (G : h.Ns mainGlobals mg) (c : SaysZ h K) {x : Str} (hx : x ∈ freesH) : mg x = none :=
  He.free_ok X G (c.d.facts (f := .free x) (List.mem_append_left _ (List.mem_append_left _ (List.mem_append_right _ (List.mem_map.mpr ⟨x, hx, rfl⟩)))))
theorem methZ (c : SaysZ h K) {x : Str} (hx : x ∈ methsH) : Meth K (He.ga K "History") x (He.ma K (He.ga K "History") x) :=
  He.meth_ok (c.d.facts (f := .meth "History" x) (List.mem_append_left _ (List.mem_append_right _ (List.mem_map.mpr ⟨x, hx, rfl⟩))))
def csZ (K : PySem.W.Frag) : Cs := ⟨He.ga K "History", He.ga K "Kept", He.ga K "Change"⟩
theorem tcZ (c : SaysZ h K) : Tc K mg (csZ K) where
  cH := He.cls_ok (c.d.fact 55 (f := .cls "History") rfl)
  cK := He.cls_ok (c.d.fact 53 (f := .cls "Kept") rfl)
  cC := He.cls_ok (c.d.fact 54 (f := .cls "Change") rfl)
  hKept := He.noat_ok (c.d.fact 61 (f := .noat "History" "kept") rfl)
  hOrder := He.noat_ok (c.d.fact 62 (f := .noat "History" "order") rfl)
  hChanges := He.noat_ok (c.d.fact 63 (f := .noat "History" "changes") rfl)
  kBorn := He.noat_ok (c.d.fact 64 (f := .noat "Kept" "born") rfl)
  kLine := He.noat_ok (c.d.fact 65 (f := .noat "Kept" "line") rfl)
  kTexts := He.noat_ok (c.d.fact 66 (f := .noat "Kept" "texts") rfl)
  kDropped := He.noat_ok (c.d.fact 67 (f := .noat "Kept" "dropped") rfl)
  cAuthor := He.noat_ok (c.d.fact 68 (f := .noat "Change" "author") rfl)
  cStands := He.noat_ok (c.d.fact 69 (f := .noat "Change" "stands") rfl)
  cFates := He.noat_ok (c.d.fact 70 (f := .noat "Change" "fates") rfl)
  cPut := He.noat_ok (c.d.fact 71 (f := .noat "Change" "put") rfl)
theorem btZ (X : K.In h) (G : h.Ns mainGlobals mg) (c : SaysZ h K) : Bt mg where
  len := freeZ X G c (by decide +kernel)
  range := freeZ X G c (by decide +kernel)
  str := freeZ X G c (by decide +kernel)
  sorted := freeZ X G c (by decide +kernel)
  dict := freeZ X G c (by decide +kernel)
  list := freeZ X G c (by decide +kernel)
  tuple := freeZ X G c (by decide +kernel)
  any := freeZ X G c (by decide +kernel)
  all := freeZ X G c (by decide +kernel)
  enumerate := freeZ X G c (by decide +kernel)
  reversed := freeZ X G c (by decide +kernel)
theorem lawAt {fa : Addr} (X : K.In h) (G : h.Ns mainGlobals mg) (hfa : mg "law" = some (.ref fa)) (c : SaysZ h K) : LamX.LawAtS lawL w K CX0 6 63 "_law_script" mg fa h := by
  have C := tcZ (mg := mg) c
  have T := btZ X G c
  obtain ⟨d0, F0⟩ := c.d.def_ 0 (d := gfn "_law_cell" 24) rfl
  obtain ⟨d1, F1⟩ := c.d.def_ 1 (d := gfn "_law_draws" 25) rfl
  obtain ⟨d2, F2⟩ := c.d.def_ 2 (d := gfn "_law_history_fates" 26) rfl
  obtain ⟨d3, F3⟩ := c.d.def_ 3 (d := gfn "_law_start" 27) rfl
  obtain ⟨d4, F4⟩ := c.d.def_ 4 (d := gfn "_law_place" 28) rfl
  obtain ⟨d5, F5⟩ := c.d.def_ 5 (d := gfn "_law_apply_named" 29) rfl
  obtain ⟨d6, F6⟩ := c.d.def_ 6 (d := gfn "_law_replay" 30) rfl
  obtain ⟨d7, F7⟩ := c.d.def_ 7 (d := gfn "_law_is_hanging" 31) rfl
  obtain ⟨d8, F8⟩ := c.d.def_ 8 (d := gfn "_law_holder" 32) rfl
  obtain ⟨d9, F9⟩ := c.d.def_ 9 (d := gfn "_law_change" 33) rfl
  obtain ⟨d10, F10⟩ := c.d.def_ 10 (d := gfn "_law_back" 34) rfl
  obtain ⟨d11, F11⟩ := c.d.def_ 11 (d := gfn "_law_is_shown" 35) rfl
  obtain ⟨d12, F12⟩ := c.d.def_ 12 (d := gfn "law" 36) rfl
  obtain ⟨d13, F13⟩ := c.d.def_ 13 (d := gfn "is_name_sign" 9) rfl
  obtain ⟨d15, F15⟩ := c.d.def_ 15 (d := gfn "use_of" 11) rfl
  obtain ⟨d16, F16⟩ := c.d.def_ 16 (d := gfn "head_fault" 12) rfl
  obtain ⟨d17, F17⟩ := c.d.def_ 17 (d := gfn "read_line" 13) rfl
  obtain ⟨d18, F18⟩ := c.d.def_ 18 (d := gfn "read" 14) rfl
  obtain ⟨d19, F19⟩ := c.d.def_ 19 (d := gfn "write_line" 15) rfl
  obtain ⟨d20, F20⟩ := c.d.def_ 20 (d := gfn "write" 16) rfl
  obtain ⟨d21, F21⟩ := c.d.def_ 21 (d := gfn "put_lines" 18) rfl
  obtain ⟨d22, F22⟩ := c.d.def_ 22 (d := mfn "Kept" "__init__" "Kept.__init__" sKI) rfl
  obtain ⟨d23, F23⟩ := c.d.def_ 23 (d := mfn "Change" "__init__" "Change.__init__" sCI) rfl
  obtain ⟨d24, F24⟩ := c.d.def_ 24 (d := mfn "History" "__init__" "History.__init__" sHI) rfl
  obtain ⟨d25, F25⟩ := c.d.def_ 25 (d := mfn "History" "stands" "History.stands" sStands) rfl
  obtain ⟨d26, F26⟩ := c.d.def_ 26 (d := mfn "History" "is_there" "History.is_there" sIsThere) rfl
  obtain ⟨d27, F27⟩ := c.d.def_ 27 (d := mfn "History" "last_text" "History.last_text" sLastT) rfl
  obtain ⟨d28, F28⟩ := c.d.def_ 28 (d := mfn "History" "present" "History.present" sPresent) rfl
  obtain ⟨d29, F29⟩ := c.d.def_ 29 (d := mfn "History" "shown" "History.shown" sShown) rfl
  obtain ⟨d30, F30⟩ := c.d.def_ 30 (d := mfn "History" "document" "History.document" sDocm) rfl
  obtain ⟨d31, F31⟩ := c.d.def_ 31 (d := mfn "History" "add_fate" "History.add_fate" sAddF) rfl
  obtain ⟨d32, F32⟩ := c.d.def_ 32 (d := mfn "History" "change" "History.change" sChange) rfl
  obtain ⟨d33, F33⟩ := c.d.def_ 33 (d := mfn "History" "log" "History.log" sLog) rfl
  obtain ⟨d34, F34⟩ := c.d.def_ 34 (d := mfn "History" "given_by" "History.given_by" sGiven) rfl
  obtain ⟨d35, F35⟩ := c.d.def_ 35 (d := mfn "History" "blame" "History.blame" sBlame) rfl
  obtain ⟨d36, F36⟩ := c.d.def_ 36 (d := mfn "History" "is_held_by" "History.is_held_by" sHeldBy) rfl
  obtain ⟨d37, F37⟩ := c.d.def_ 37 (d := mfn "History" "take_back" "History.take_back" sTake) rfl
  have e0 := hfa.symm.trans (gloZ X G c (x := "law") (by decide +kernel))
  cases e0
  obtain ⟨xN, xx⟩ := He.ba c.ex
  obtain ⟨xNo, xHe⟩ := He.ba xN
  obtain ⟨xS, xF⟩ := He.ba xx
  obtain ⟨sNo, sHe⟩ := He.ba xS
  obtain ⟨fNo, fHe⟩ := He.ba xF
  have gl := freeZ X G c (x := "super") (by decide +kernel)
  obtain ⟨cc1, cda1, dN, SN⟩ := supB_ok (P := lawL.prog) X G sNo c.fN (oexB_ok xNo) (by kernel_rfl) gl
  obtain ⟨cc2, cda2, dH, SH⟩ := supB_ok (P := lawL.prog) X G sHe c.fH (oexB_ok xHe) (by kernel_rfl) gl
  have nN : PySem.W.findIn K (.ref (He.ga K "NoChange")) "number" = some none := He.noat_ok (c.d.fact 72 (f := .noat "NoChange" "number") rfl)
  have nH : PySem.W.findIn K (.ref (He.ga K "Held")) "number" = some none := He.noat_ok (c.d.fact 73 (f := .noat "Held" "number") rfl)
  have nB : PySem.W.findIn K (.ref (He.ga K "Held")) "by" = some none := He.noat_ok (c.d.fact 74 (f := .noat "Held" "by") rfl)
  have iN := He.meth_ok (c.d.fact 59 (f := .meth "NoChange" "__init__") rfl)
  have iH := He.meth_ok (c.d.fact 60 (f := .meth "Held" "__init__") rfl)
  have xNN := He.exm_ok (c.d.fact 75 (f := .exm "NoChange" "NoChange" true) rfl)
  have xHN := He.exm_ok (c.d.fact 76 (f := .exm "Held" "NoChange" false) rfl)
  have xHH := He.exm_ok (c.d.fact 77 (f := .exm "Held" "Held" true) rfl)
  obtain ⟨tM, hMost⟩ := He.int_ok X G (c.d.fact 52 (f := .int "NAME_MOST" 20) rfl)
  have mN := gloZ X G c (x := "NoChange") (by decide +kernel)
  have mH := gloZ X G c (x := "Held") (by decide +kernel)
  obtain ⟨cd, hcd, ecd⟩ : ∃ cd, d26.code = .ref cd ∧ (He.cT K ("History", some "is_there")).1 = cd := by
    obtain ⟨oc, od, dV, kV, doc, pm, an, cdv, ct, osl, rfl, lk, hc, _, _⟩ := F26.ex
    obtain ⟨cd, rfl⟩ := He.codeIn_ref hc
    exact ⟨cd, rfl, He.codeOf_eq lk rfl⟩
  refine ⟨d12, [He.cT K ("History", some "is_there")], spLaw K (He.cT K ("History", some "is_there")).2, fun p hp => ?_, fun p hp => ?_, fun p hp => ?_, fun s u => FunD.bindsA (ps := ["_law_script"]) F12 (fun _ _ _ _ _ _ us hl => match us, hl with | [_], _ => rfl) s [u] rfl, fun H a ns _ _ hH hS => ⟨a, ns, rfl, hS, ⟨#[], hH _ List.mem_cons_self, trivial⟩, fun _ => rfl⟩, fun base Kb Gb hTB => ?_⟩
  · rw [List.mem_singleton.mp hp]; exact c.empty
  · rw [List.mem_singleton.mp hp]; exact c.out
  · rw [List.mem_singleton.mp hp]; exact PySem.W.codeHd_of_K X c.hd
  · have tb0 := hTB _ List.mem_cons_self
    obtain ⟨Pt, ePt⟩ : ∃ Pt, Pt = (He.cT K ("History", some "is_there")).2 := ⟨_, rfl⟩
    rw [← ePt] at tb0 ⊢
    rw [ecd] at tb0
    have TB : GxR.TabB base mg cd Pt := ⟨tb0.code, tb0.bm, tb0.gP⟩
    have GC := ok_cell (P := lawL.prog) (w := w) (base := base) F0 T (gloZ X G c (by decide +kernel))
    have GD := ok_draws (P := lawL.prog) (w := w) (base := base) F1 T (gloZ X G c (by decide +kernel))
    have GHF := ok_hf (P := lawL.prog) (w := w) (base := base) F2 T (gloZ X G c (by decide +kernel)) GC GD
    have GS := ok_start (P := lawL.prog) (w := w) (base := base) F3 T (gloZ X G c (by decide +kernel)) GC GD
    have GPc := ok_place (P := lawL.prog) (w := w) (base := base) F4 T (gloZ X G c (by decide +kernel))
    have GAN := ok_applyn (P := lawL.prog) (w := w) (base := base) F5 T (gloZ X G c (by decide +kernel)) GPc
    have GRp := ok_replay (P := lawL.prog) (w := w) (base := base) F6 T (gloZ X G c (by decide +kernel)) GAN
    have GIH := ok_hang (P := lawL.prog) (w := w) (base := base) F7 (gloZ X G c (by decide +kernel))
    have GHo := ok_holder (P := lawL.prog) (w := w) (base := base) F8 (gloZ X G c (by decide +kernel)) GIH
    have GSg := ok_sign (P := lawL.prog) (w := w) (base := base) F13 (gloZ X G c (by decide +kernel))
    have GU := ok_use (P := lawL.prog) (w := w) (base := base) F15 (gloZ X G c (by decide +kernel)) T
    have GHd := ok_fault (P := lawL.prog) (w := w) (base := base) F16 (gloZ X G c (by decide +kernel)) T hMost GSg
    have GRl := ok_rline (P := lawL.prog) (w := w) (base := base) F17 (gloZ X G c (by decide +kernel)) GU
    have GRd := ok_read (P := lawL.prog) (w := w) (base := base) F18 (gloZ X G c (by decide +kernel)) T GHd GRl
    have GWl := ok_wline (P := lawL.prog) (w := w) (base := base) F19 (gloZ X G c (by decide +kernel))
    have GWr := ok_write (P := lawL.prog) (w := w) (base := base) F20 (gloZ X G c (by decide +kernel)) GWl
    have GPL := ok_putl (P := lawL.prog) (w := w) (base := base) F21 (gloZ X G c (by decide +kernel))
    have MK : Mc lawL.prog w K mg base 1 "Kept" (csZ K).CK (spKI (csZ K)) := ⟨_, d22, ["self", "born", "line"], He.mkr_ok (c.d.fact 56 (f := .mkr "Kept") rfl), ok_ki F22 C, gloZ X G c (by decide +kernel), F22.bindsN fun _ _ _ _ _ _ us hl => match us, hl with | [_, _, _], _ => rfl⟩
    have MC : Mc lawL.prog w K mg base 1 "Change" (csZ K).CC (spCI (csZ K)) := ⟨_, d23, ["self", "author", "fates"], He.mkr_ok (c.d.fact 57 (f := .mkr "Change") rfl), ok_ci F23 C, gloZ X G c (by decide +kernel), F23.bindsN fun _ _ _ _ _ _ us hl => match us, hl with | [_, _, _], _ => rfl⟩
    have MH : Mc lawL.prog w K mg base 4 "History" (csZ K).CH (spHI (csZ K) Pt) := ⟨_, d24, ["self", "text"], He.mkr_ok (c.d.fact 58 (f := .mkr "History") rfl), ok_hi F24 T C MK GRd, gloZ X G c (by decide +kernel), F24.bindsN fun _ _ _ _ _ _ us hl => match us, hl with | [_, _], _ => rfl⟩
    have mSt := methZ c (x := "stands") (by decide +kernel)
    have GSt := ok_stands (P := lawL.prog) (w := w) (mg := mg) (base := base) (Pt := Pt) F25 C mSt
    have GIT := ok_isthere (P := lawL.prog) (w := w) (mg := mg) (base := base) (Pt := Pt) F26 T C (methZ c (by decide +kernel)) F25 mSt hcd TB GSt
    have GLT := ok_lastT (P := lawL.prog) (w := w) (mg := mg) (base := base) (Pt := Pt) F27 T C (methZ c (by decide +kernel)) GSt
    have GP := ok_present (P := lawL.prog) (w := w) (mg := mg) (base := base) (Pt := Pt) F28 C (methZ c (by decide +kernel)) GIT
    have GSh := ok_shown (P := lawL.prog) (w := w) (mg := mg) (base := base) (Pt := Pt) F29 T C (methZ c (by decide +kernel)) GLT
    have GDoc := ok_docm (P := lawL.prog) (w := w) (mg := mg) (base := base) (Pt := Pt) F30 T C (methZ c (by decide +kernel)) GP GSh
    have GAF := ok_addf (P := lawL.prog) (w := w) (mg := mg) (base := base) (Pt := Pt) F31 T C (methZ c (by decide +kernel)) GPL MK
    have GCh := ok_change (P := lawL.prog) (w := w) (mg := mg) (base := base) (Pt := Pt) F32 T C (methZ c (by decide +kernel)) GP GAF MC
    have GLog := ok_log (P := lawL.prog) (w := w) (mg := mg) (base := base) (Pt := Pt) F33 T C (methZ c (by decide +kernel))
    have GGB := ok_given (P := lawL.prog) (w := w) (mg := mg) (base := base) (Pt := Pt) F34 T C (methZ c (by decide +kernel)) GLT
    have GBl := ok_blame (P := lawL.prog) (w := w) (mg := mg) (base := base) (Pt := Pt) F35 C (methZ c (by decide +kernel)) GP GGB
    have GHB := ok_heldby (P := lawL.prog) (w := w) (mg := mg) (base := base) F36 C (methZ c (by decide +kernel))
    have EN : Er lawL.prog w K mg base 1 "NoChange" (He.ga K "NoChange") (spNo (He.ga K "NoChange")) := ⟨_, dN, ["self", "number"], oexB_ok xNo, iN.at_, beq_iff_eq.mp iN.fn, ok_noI SN nN, SN.binds (fun _ _ _ _ _ us hl => match us, hl with | [_, _], _ => rfl), mN⟩
    have EH : Er lawL.prog w K mg base 1 "Held" (He.ga K "Held") (spHe (He.ga K "Held")) := ⟨_, dH, ["self", "number", "by"], oexB_ok xHe, iH.at_, beq_iff_eq.mp iH.fn, ok_heI SH nH nB, SH.binds (fun _ _ _ _ _ us hl => match us, hl with | [_, _, _], _ => rfl), mH⟩
    have GT := ok_take (P := lawL.prog) (w := w) (mg := mg) (base := base) (Pt := Pt) F37 T C (methZ c (by decide +kernel)) GSt GHB EN EH
    have GLC := ok_lch (P := lawL.prog) (w := w) (base := base) (Pt := Pt) F9 T (gloZ X G c (by decide +kernel)) GC GHF GCh
    have GLB := ok_back (P := lawL.prog) (w := w) (base := base) (Pt := Pt) F10 T (gloZ X G c (by decide +kernel)) GHo GT mN mH (xfB_ok fNo) (xfB_ok fHe) nN nH nB xNN xHN xHH
    have GLS := ok_shw (P := lawL.prog) (w := w) (base := base) (Pt := Pt) F11 T (gloZ X G c (by decide +kernel)) GRp GDoc GBl GLog
    exact ok_law F12 T GC GS GWr MH GRp GLB GLC GLS
end
end Wh

open PySem PySem.W PySem.Calls PyProof.Rows
theorem PySem.Challenge.cw_weft_k62_whole_histories_holds : PySem.Challenge.rw_weft_k62_whole_histories.Holds := by
  w_on; o_law
  refine HandSHeadRun.head_any (r := Wh.Rr) (q := view Wh.Rr.prog [36]) (H := Wh.hkZ) (ob := Wh.obZ) (M := 3000) (loose := Wh.looseH) (d := HandSHeadRun.topDef Wh.Rr.prog 36) (kwd := []) Wh.obZ_eq
    (by kernel_rfl) (fun s => by kernel_rfl) Wh.runZ (by kernel_rfl) (by kernel_rfl) (by kernel_rfl) (by rfl) (by first | assumption | decide +kernel) (by decide +kernel) ⟨rfl, rfl, rfl, rfl, rfl, by decide +kernel⟩ ?hw ?hc
  case hw => w_witness2
  case hc =>
    refine LamX.walk_ofTsE (l := Wh.lawL) (n := 63) (k := 6) (x := "_law_script") (CX := fun _ => L2.CX0) rfl (by decide) (by kernel_rfl) ⟨rfl, by decide, by decide⟩ ?F (fun _ _ _ _ _ z => z)
    intro w mg fa h Y G hmg0
    obtain ⟨K, KX, c⟩ := Y
    have hmg : mg ("law" : PySem.Str) = some (.ref fa) := by
      have e : (HandSHeadRun.topDef Wh.Rr.prog 36).name = ("law" : PySem.Str) := by kernel_rfl
      rw [← e]
      exact hmg0
    exact ⟨K, KX, Wh.lawAt KX G hmg c⟩

