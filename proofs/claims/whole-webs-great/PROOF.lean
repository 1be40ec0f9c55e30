import PyProof.Rows.All
import Wide.All
import OpenK.AllK
import Wide.FinOn
import HandS.ForMost
import HandS.Deep
import HandS.DictComp
import HandS.Conv
import HandS.Star
import HandS.Zip
import HandS.TupAny
import HandS.Defaults
import HandS.Style
import HandS.Flow
import HandS.IsInst
import HandS.CallRecv
import HandS.Words
import KE.GoesMore
import KE.GoesZip
import KE.GoesEnum
import HandS.Iter
import HandS.Zip0
import KE.KDictList
import KE.KItemsList
import PyProof.TupleOfSeq
import PyProof.TupleCall
import PyProof.Rows.Range3
import KE.KStateDown
import HandS.Head0
import HandS.Head1
import HandS.Head2
import HandS.HeadEnd
import HandS.HeadHook1
import HandS.HeadHook2
import PySem.Challenge.RW_lastopen_k64_whole_webs_great
set_option Elab.async false
set_option linter.all false
set_option maxRecDepth 100000
set_option maxHeartbeats 0
/-! KMath -/
/-! Plain mathematics: literals, clauses, models, search, shortest consequences, propagation over a tree of tables. -/
namespace KM
variable {N : Type} [DecidableEq N]

structure Lt (N : Type) where
  pos : Bool
  nm : N
deriving DecidableEq

def Lt.neg (l : Lt N) : Lt N := ⟨!l.pos, l.nm⟩
theorem neg_neg (l : Lt N) : l.neg.neg = l := by cases l with | mk p n => cases p <;> rfl
theorem neg_nm (l : Lt N) : l.neg.nm = l.nm := rfl
theorem neg_ne (l : Lt N) : l.neg ≠ l := by
  intro h
  have := congrArg Lt.pos h
  cases l with | mk p n => cases p <;> simp [Lt.neg] at this
theorem neg_inj {a b : Lt N} (h : a.neg = b.neg) : a = b := by rw [← neg_neg a, h, neg_neg]
theorem same_nm {a b : Lt N} (h : a.nm = b.nm) : a = b ∨ a = b.neg := by
  cases a with | mk p n => cases b with | mk q m => simp at h; subst h; cases p <;> cases q <;> simp [Lt.neg]

abbrev Cl (N : Type) := List (Lt N)
abbrev Asg (N : Type) := N → Bool
def tr (A : Asg N) (l : Lt N) : Prop := A l.nm = l.pos
instance (A : Asg N) (l : Lt N) : Decidable (tr A l) := by unfold tr; infer_instance
def mt (A : Asg N) (c : Cl N) : Prop := ∃ l ∈ c, tr A l
def ag (A : Asg N) (ls : Cl N) : Prop := ∀ l ∈ ls, tr A l
def Mods (cl : List (Cl N)) (A : Asg N) : Prop := ∀ c ∈ cl, mt A c
def Con (L : Cl N) : Prop := ∀ l ∈ L, l.neg ∉ L
theorem tr_neg {A : Asg N} {l : Lt N} : tr A l.neg ↔ ¬ tr A l := by
  unfold tr Lt.neg
  cases l with | mk p n => simp; cases A n <;> cases p <;> simp
theorem ag_append {A : Asg N} {xs ys : Cl N} : ag A (xs ++ ys) ↔ ag A xs ∧ ag A ys := by
  unfold ag; constructor
  · intro h; exact ⟨fun l hl => h l (List.mem_append_left _ hl), fun l hl => h l (List.mem_append_right _ hl)⟩
  · rintro ⟨h1, h2⟩ l hl
    rcases List.mem_append.mp hl with h | h
    · exact h1 l h
    · exact h2 l h
theorem ag_single {A : Asg N} {l : Lt N} : ag A [l] ↔ tr A l := by unfold ag; simp

/-! ### counting -/
theorem len_le_of_sub {α : Type} [DecidableEq α] : ∀ {xs ys : List α}, xs.Nodup → (∀ x ∈ xs, x ∈ ys) → xs.length ≤ ys.length
  | [], _, _, _ => Nat.zero_le _
  | x :: xs, ys, hn, hs => by
    rw [List.nodup_cons] at hn
    have hx : x ∈ ys := hs x List.mem_cons_self
    have h1 : ∀ y ∈ xs, y ∈ ys.erase x := fun y hy => by
      have hne : y ≠ x := fun e => hn.1 (e ▸ hy)
      exact (List.mem_erase_of_ne hne).mpr (hs y (List.mem_cons_of_mem _ hy))
    have ih := len_le_of_sub hn.2 h1
    have hl := List.length_erase_of_mem hx
    have hp : 0 < ys.length := List.length_pos_of_mem hx
    simp only [List.length_cons]
    omega
theorem nodup_map_nm {L : Cl N} (hn : L.Nodup) (hc : Con L) : (L.map Lt.nm).Nodup := by
  induction L with
  | nil => simp
  | cons l r ih =>
    rw [List.nodup_cons] at hn
    rw [List.map_cons, List.nodup_cons]
    refine ⟨fun h => ?_, ih hn.2 fun k hk hk' => hc k (List.mem_cons_of_mem _ hk) (List.mem_cons_of_mem _ hk')⟩
    obtain ⟨k, hk, e⟩ := List.mem_map.mp h
    rcases same_nm e with e | e
    · exact hn.1 (e ▸ hk)
    · exact hc l List.mem_cons_self (List.mem_cons_of_mem _ (e ▸ hk))
theorem con_len {L : Cl N} {names : List N} (hn : L.Nodup) (hc : Con L) (hs : ∀ l ∈ L, l.nm ∈ names) : L.length ≤ names.length := by
  have h := len_le_of_sub (nodup_map_nm hn hc) (ys := names) fun x hx => by
    obtain ⟨l, hl, e⟩ := List.mem_map.mp hx
    exact e ▸ hs l hl
  rw [List.length_map] at h
  exact h
theorem con_of_nodup_nm {L : Cl N} (h : (L.map Lt.nm).Nodup) : Con L := by
  induction L with
  | nil => intro l hl; cases hl
  | cons a r ih =>
    rw [List.map_cons, List.nodup_cons] at h
    intro l hl hn
    rcases List.mem_cons.mp hl with e | hl
    · rcases List.mem_cons.mp hn with e2 | hn
      · rw [e] at e2; exact neg_ne a e2
      · refine h.1 (List.mem_map.mpr ⟨_, hn, ?_⟩); rw [neg_nm, e]
    · rcases List.mem_cons.mp hn with e2 | hn
      · refine h.1 (List.mem_map.mpr ⟨_, hl, ?_⟩); rw [← e2]; rfl
      · exact ih h.2 l hl hn

/-! ### following -/
structure Chz (cl : List (Cl N)) (st L : Cl N) : Prop where
  sub : ∀ l ∈ st, l ∈ L
  con : Con L
  imp : ∀ A, Mods cl A → ag A st → ag A L
  fix : ∀ c ∈ cl, ∃ l ∈ c, l.neg ∉ L
def NoMod (cl : List (Cl N)) (st : Cl N) : Prop := ∀ A, Mods cl A → ¬ ag A st
/-- on the way -/
structure Chi (cl : List (Cl N)) (st L : Cl N) : Prop where
  sub : ∀ l ∈ st, l ∈ L
  con : Con L
  imp : ∀ A, Mods cl A → ag A st → ag A L
theorem Chi.start {cl : List (Cl N)} {st : Cl N} (h : Con st) : Chi cl st st := ⟨fun _ h => h, h, fun _ _ h => h⟩
theorem Chi.of_mem {cl : List (Cl N)} {st L L' : Cl N} (h : Chi cl st L) (e : ∀ l, l ∈ L' ↔ l ∈ L) : Chi cl st L' :=
  ⟨fun l hl => (e l).mpr (h.sub l hl), fun l hl hn => h.con l ((e l).mp hl) ((e _).mp hn), fun A hm ha l hl => h.imp A hm ha l ((e l).mp hl)⟩
theorem Chi.dead {cl : List (Cl N)} {st L c : Cl N} (h : Chi cl st L) (hc : c ∈ cl) (hd : ∀ l ∈ c, l.neg ∈ L) : NoMod cl st := fun A hm ha => by
  obtain ⟨l, hl, ht⟩ := hm c hc
  exact (tr_neg.mp (h.imp A hm ha _ (hd l hl))) ht
theorem Chi.unit {cl : List (Cl N)} {st L c : Cl N} {l : Lt N} (h : Chi cl st L) (hc : c ∈ cl) (hl : l.neg ∉ L) (ho : ∀ k ∈ c, k.neg ∉ L → k = l) : Chi cl st (L ++ [l]) := by
  refine ⟨fun k hk => List.mem_append_left _ (h.sub k hk), fun k hk hn => ?_, fun A hm ha => ?_⟩
  · rcases List.mem_append.mp hk with hk | hk
    · rcases List.mem_append.mp hn with hn | hn
      · exact h.con k hk hn
      · have e : k.neg = l := by simpa using hn
        exact hl (by rw [← e, neg_neg]; exact hk)
    · have e : k = l := by simpa using hk
      subst e
      rcases List.mem_append.mp hn with hn | hn
      · exact hl hn
      · have e : k.neg = k := by simpa using hn
        exact neg_ne k e
  · have hL := h.imp A hm ha
    refine ag_append.mpr ⟨hL, ag_single.mpr ?_⟩
    obtain ⟨k, hk, ht⟩ := hm c hc
    have : k.neg ∉ L := fun hn => (tr_neg.mp (hL _ hn)) ht
    rw [← ho k hk this]; exact ht
theorem Chi.done {cl : List (Cl N)} {st L : Cl N} (h : Chi cl st L) (hf : ∀ c ∈ cl, ∃ l ∈ c, l.neg ∉ L) : Chz cl st L := ⟨h.sub, h.con, h.imp, hf⟩

/-! ### assignments of literals -/
def ofL (L : Cl N) (d : Asg N) : Asg N := fun n => if (⟨true, n⟩ : Lt N) ∈ L then true else if (⟨false, n⟩ : Lt N) ∈ L then false else d n
theorem ofL_ag {L : Cl N} (d : Asg N) (hc : Con L) : ag (ofL L d) L := fun l hl => by
  unfold tr ofL
  cases l with | mk p n =>
  cases p with
  | true => simp [hl]
  | false =>
    have : (⟨true, n⟩ : Lt N) ∉ L := fun h => hc _ hl h
    simp [this, hl]
theorem ofL_free {L : Cl N} (d : Asg N) {l : Lt N} (h1 : l ∉ L) (h2 : l.neg ∉ L) : ofL L d l.nm = d l.nm := by
  unfold ofL
  cases l with | mk p n =>
  cases p with
  | true =>
    have h2 : (⟨false, n⟩ : Lt N) ∉ L := h2
    simp [h1, h2]
  | false =>
    have h2 : (⟨true, n⟩ : Lt N) ∉ L := h2
    simp [h1, h2]

/-! ### the law's search -/
structure Fnd (cl : List (Cl N)) (st L : Cl N) : Prop where
  sub : ∀ l ∈ st, l ∈ L
  con : Con L
  tru : ∀ c ∈ cl, ∃ l ∈ c, l ∈ L
theorem Fnd.of {cl : List (Cl N)} {st L : Cl N} (h : Chz cl st L) (hd : ∀ c ∈ cl, ∀ l ∈ c, l ∈ L ∨ l.neg ∈ L) : Fnd cl st L := by
  refine ⟨h.sub, h.con, fun c hc => ?_⟩
  obtain ⟨l, hl, hn⟩ := h.fix c hc
  rcases hd c hc l hl with h1 | h1
  · exact ⟨l, hl, h1⟩
  · exact absurd h1 hn
theorem Fnd.up {cl : List (Cl N)} {st L L' : Cl N} (h : Chz cl st L) {l : Lt N} (f : Fnd cl (L ++ [l]) L') : Fnd cl st L' :=
  ⟨fun k hk => f.sub k (List.mem_append_left _ (h.sub k hk)), f.con, f.tru⟩
theorem NoMod.up {cl : List (Cl N)} {st L : Cl N} (h : Chz cl st L) {l : Lt N} (h1 : NoMod cl (L ++ [l])) (h2 : NoMod cl (L ++ [l.neg])) : NoMod cl st := fun A hm ha => by
  have hL := h.imp A hm ha
  by_cases ht : tr A l
  · exact h1 A hm (ag_append.mpr ⟨hL, ag_single.mpr ht⟩)
  · exact h2 A hm (ag_append.mpr ⟨hL, ag_single.mpr (tr_neg.mpr ht)⟩)
theorem Fnd.mods {cl : List (Cl N)} {st L : Cl N} (f : Fnd cl st L) (d : Asg N) : Mods cl (ofL L d) ∧ ag (ofL L d) st ∧ ag (ofL L d) L := by
  have hL := ofL_ag d f.con
  refine ⟨fun c hc => ?_, fun l hl => hL l (f.sub l hl), hL⟩
  obtain ⟨l, hl, h⟩ := f.tru c hc
  exact ⟨l, hl, hL l h⟩
/-- what holds in all models is found -/
theorem Fnd.has {cl : List (Cl N)} {st L : Cl N} (f : Fnd cl st L) {l : Lt N} (h : ∀ A, Mods cl A → ag A st → tr A l) : l ∈ L := by
  by_cases h1 : l ∈ L
  · exact h1
  by_cases h2 : l.neg ∈ L
  · obtain ⟨m1, m2, m3⟩ := f.mods (fun _ => true)
    exact absurd (h _ m1 m2) (tr_neg.mp (m3 _ h2))
  · obtain ⟨m1, m2, _⟩ := f.mods (fun _ => !l.pos)
    have := h _ m1 m2
    unfold tr at this
    rw [ofL_free _ h1 h2] at this
    cases hp : l.pos <;> rw [hp] at this <;> cases this
theorem Con.snoc {L : Cl N} {l : Lt N} (h : Con L) (h2 : l.neg ∉ L) : Con (L ++ [l]) := fun k hk hn => by
  rcases List.mem_append.mp hk with hk | hk
  · rcases List.mem_append.mp hn with hn | hn
    · exact h k hk hn
    · have e : k.neg = l := by simpa using hn
      exact h2 (by rw [← e, neg_neg]; exact hk)
  · have e : k = l := by simpa using hk
    subst e
    rcases List.mem_append.mp hn with hn | hn
    · exact h2 hn
    · exact neg_ne k (by simpa using hn)

/-! ### the package's filling -/
theorem fil_done {cl : List (Cl N)} {st L : Cl N} {names : List N} (h : Chz cl st L) (hn : ∀ c ∈ cl, ∀ l ∈ c, l.nm ∈ names) (hd : ∀ n ∈ names, (⟨true, n⟩ : Lt N) ∈ L ∨ (⟨false, n⟩ : Lt N) ∈ L) : ∃ A, Mods cl A ∧ ag A st := by
  have f : Fnd cl st L := .of h fun c hc l hl => by
    cases l with | mk p n =>
    rcases hd n (hn c hc _ hl) with h1 | h1 <;> cases p
    · exact .inr h1
    · exact .inl h1
    · exact .inl h1
    · exact .inr h1
  exact ⟨_, (f.mods fun _ => true).1, (f.mods fun _ => true).2.1⟩
theorem fil_up {cl : List (Cl N)} {st L : Cl N} (h : Chz cl st L) {l : Lt N} (x : ∃ A, Mods cl A ∧ ag A (L ++ [l])) : ∃ A, Mods cl A ∧ ag A st := by
  obtain ⟨A, hm, ha⟩ := x
  exact ⟨A, hm, fun k hk => ha k (List.mem_append_left _ (h.sub k hk))⟩

/-! ### full settings -/
def lits (S : List N) (A : Asg N) : Cl N := S.map fun n => ⟨A n, n⟩
theorem lits_nm (S : List N) (A : Asg N) : (lits S A).map Lt.nm = S := by
  unfold lits; rw [List.map_map]; exact List.map_id' S
theorem ag_lits (S : List N) (A : Asg N) : ag A (lits S A) := fun l hl => by
  obtain ⟨n, _, rfl⟩ := List.mem_map.mp hl; rfl
theorem lits_of_ag {A : Asg N} : ∀ {s : Cl N} {S : List N}, s.map Lt.nm = S → ag A s → s = lits S A
  | [], S, h, _ => by subst h; rfl
  | l :: r, S, h, ha => by
    subst h
    have ih := lits_of_ag (s := r) rfl fun k hk => ha k (List.mem_cons_of_mem _ hk)
    have h1 : tr A l := ha l List.mem_cons_self
    show l :: r = (⟨A l.nm, l.nm⟩ : Lt N) :: lits (r.map Lt.nm) A
    rw [← ih]
    unfold tr at h1
    rw [h1]
theorem mem_lits {S : List N} {A : Asg N} {l : Lt N} : l ∈ lits S A ↔ l.nm ∈ S ∧ tr A l := by
  unfold lits tr
  rw [List.mem_map]
  constructor
  · rintro ⟨n, hn, rfl⟩; exact ⟨hn, rfl⟩
  · rintro ⟨h1, h2⟩; exact ⟨l.nm, h1, by cases l; simp at h2 ⊢; exact h2⟩
theorem lits_congr {S : List N} {A B : Asg N} (h : ∀ n ∈ S, A n = B n) : lits S A = lits S B := by
  unfold lits
  exact List.map_congr_left fun n hn => by rw [h n hn]
/-- the assignment of a full setting -/
def asgOf (s : Cl N) : Asg N := fun n => decide ((⟨true, n⟩ : Lt N) ∈ s)
theorem asgOf_ag {s : Cl N} (h : Con s) : ag (asgOf s) s := fun l hl => by
  unfold tr asgOf
  cases l with | mk p n =>
  cases p with
  | true => simp [hl]
  | false =>
    have : (⟨true, n⟩ : Lt N) ∉ s := fun h2 => h _ hl h2
    simp [this]
theorem full_eq {s : Cl N} {S : List N} (h : s.map Lt.nm = S) (hn : S.Nodup) : s = lits S (asgOf s) :=
  lits_of_ag h (asgOf_ag (con_of_nodup_nm (by rw [h]; exact hn)))
theorem full_dec {s : Cl N} {S : List N} (h : s.map Lt.nm = S) {l : Lt N} (hl : l.nm ∈ S) : l ∈ s ∨ l.neg ∈ s := by
  rw [← h] at hl
  obtain ⟨k, hk, e⟩ := List.mem_map.mp hl
  rcases same_nm e with e | e
  · exact .inl (e ▸ hk)
  · exact .inr (e ▸ hk)

def fulls : List N → List (Cl N) := fun S => S.foldl (fun acc n => acc.flatMap fun s => [s ++ [⟨true, n⟩], s ++ [⟨false, n⟩]]) [[]]
theorem mem_fulls_go {c : Cl N} : ∀ (S : List N) (acc : List (Cl N)), c ∈ S.foldl (fun acc n => acc.flatMap fun s => [s ++ [(⟨true, n⟩ : Lt N)], s ++ [⟨false, n⟩]]) acc ↔ ∃ a ∈ acc, ∃ t : Cl N, t.map Lt.nm = S ∧ c = a ++ t
  | [], acc => by
    simp only [List.foldl_nil]
    constructor
    · intro h; exact ⟨c, h, [], rfl, by simp⟩
    · rintro ⟨a, ha, t, ht, rfl⟩
      have : t = [] := by cases t with | nil => rfl | cons x y => simp at ht
      subst this; simpa using ha
  | n :: S, acc => by
    rw [List.foldl_cons, mem_fulls_go S]
    constructor
    · rintro ⟨a, ha, t, ht, rfl⟩
      obtain ⟨s, hs, h⟩ := List.mem_flatMap.mp ha
      simp only [List.mem_cons, List.not_mem_nil, or_false] at h
      rcases h with rfl | rfl
      · exact ⟨s, hs, ⟨true, n⟩ :: t, by simp [ht], by simp⟩
      · exact ⟨s, hs, ⟨false, n⟩ :: t, by simp [ht], by simp⟩
    · rintro ⟨a, ha, t, ht, rfl⟩
      cases t with
      | nil => simp at ht
      | cons l t =>
        simp only [List.map_cons, List.cons.injEq] at ht
        refine ⟨a ++ [l], List.mem_flatMap.mpr ⟨a, ha, ?_⟩, t, ht.2, by simp⟩
        cases l with | mk p m =>
        have e : m = n := ht.1
        subst e
        cases p <;> simp
theorem mem_fulls {S : List N} {c : Cl N} : c ∈ fulls S ↔ c.map Lt.nm = S := by
  unfold fulls
  rw [mem_fulls_go]
  constructor
  · rintro ⟨a, ha, t, ht, rfl⟩
    have : a = [] := by simpa using ha
    subst this; simpa using ht
  · intro h; exact ⟨[], by simp, c, h, by simp⟩
theorem fulls_go_len : ∀ (S : List N) (acc : List (Cl N)), (S.foldl (fun acc n => acc.flatMap fun s => [s ++ [(⟨true, n⟩ : Lt N)], s ++ [⟨false, n⟩]]) acc).length = acc.length * 2 ^ S.length
  | [], acc => by simp
  | n :: S, acc => by
    rw [List.foldl_cons, fulls_go_len S]
    have : (acc.flatMap fun s => [s ++ [(⟨true, n⟩ : Lt N)], s ++ [⟨false, n⟩]]).length = acc.length * 2 := by
      induction acc with
      | nil => rfl
      | cons a r ih => rw [List.flatMap_cons, List.length_append, ih, List.length_cons]; simp; omega
    rw [this, List.length_cons, Nat.pow_succ, Nat.mul_assoc, Nat.mul_comm 2]
theorem fulls_len (S : List N) : (fulls S).length = 2 ^ S.length := by
  unfold fulls; rw [fulls_go_len]; simp

/-! ### the rule of a code, by helpers -/
theorem allowed_iff {S Hs : List N} {cl : List (Cl N)} {s : Cl N} (hs : s.map Lt.nm = S) (hnd : (S ++ Hs).Nodup) (hn : ∀ c ∈ cl, ∀ l ∈ c, l.nm ∈ S ++ Hs) :
    (∃ t ∈ fulls Hs, ∀ c ∈ cl, ∃ l ∈ c, l ∈ s ++ t) ↔ ∃ A, Mods cl A ∧ ag A s := by
  constructor
  · rintro ⟨t, ht, hc⟩
    have e : (s ++ t).map Lt.nm = S ++ Hs := by rw [List.map_append, hs, mem_fulls.mp ht]
    have hcon : Con (s ++ t) := con_of_nodup_nm (by rw [e]; exact hnd)
    refine ⟨asgOf (s ++ t), fun c h => ?_, fun l hl => asgOf_ag hcon l (List.mem_append_left _ hl)⟩
    obtain ⟨l, h1, h2⟩ := hc c h
    exact ⟨l, h1, asgOf_ag hcon l h2⟩
  · rintro ⟨A, hm, ha⟩
    refine ⟨lits Hs A, mem_fulls.mpr (lits_nm Hs A), fun c hc => ?_⟩
    obtain ⟨l, hl, ht⟩ := hm c hc
    refine ⟨l, hl, ?_⟩
    have e : s ++ lits Hs A = lits (S ++ Hs) A := by rw [lits_of_ag hs ha]; unfold lits; rw [List.map_append]
    rw [e]
    exact mem_lits.mpr ⟨hn c hc l hl, ht⟩

/-! ### shortest consequences -/
def within (p c : Cl N) : Bool := p.all fun l => decide (l ∈ c)
def meets (c s : Cl N) : Bool := c.any fun l => decide (l ∈ s)
theorem within_iff {p c : Cl N} : within p c = true ↔ ∀ l ∈ p, l ∈ c := by unfold within; simp
theorem meets_iff {p c : Cl N} : meets p c = true ↔ ∃ l ∈ p, l ∈ c := by unfold meets; simp
def shortStep (T : List (Cl N)) (acc : List (Cl N)) (c : Cl N) : List (Cl N) :=
  if (acc.any fun p => within p c) = true then acc else if (T.all fun s => meets c s) = true then acc ++ [c] else acc
def shortest (hs : List (Cl N)) (T : List (Cl N)) : List (Cl N) := hs.foldl (shortStep T) []
theorem shortStep_mem {T acc : List (Cl N)} {c p : Cl N} (h : p ∈ shortStep T acc c) : p ∈ acc ∨ (p = c ∧ ∀ s ∈ T, ∃ l ∈ p, l ∈ s) := by
  unfold shortStep at h
  split at h
  · exact .inl h
  · split at h
    · rename_i h2
      rcases List.mem_append.mp h with h | h
      · exact .inl h
      · have e : p = c := by simpa using h
        refine .inr ⟨e, fun s hs => ?_⟩
        rw [e]
        exact meets_iff.mp (List.all_eq_true.mp h2 s hs)
    · exact .inl h
theorem shortStep_len (T acc : List (Cl N)) (c : Cl N) : (shortStep T acc c).length ≤ acc.length + 1 := by
  unfold shortStep
  split
  · omega
  · split
    · simp
    · omega
theorem shortest_go_mem {T : List (Cl N)} {p : Cl N} : ∀ (hs acc : List (Cl N)), p ∈ hs.foldl (shortStep T) acc → p ∈ acc ∨ (p ∈ hs ∧ ∀ s ∈ T, ∃ l ∈ p, l ∈ s)
  | [], acc, h => .inl h
  | c :: hs, acc, h => by
    rw [List.foldl_cons] at h
    rcases shortest_go_mem hs _ h with h | h
    · rcases shortStep_mem h with h | ⟨e, h⟩
      · exact .inl h
      · exact .inr ⟨e ▸ List.mem_cons_self, h⟩
    · exact .inr ⟨List.mem_cons_of_mem _ h.1, h.2⟩
theorem shortest_mem {hs T : List (Cl N)} {p : Cl N} (h : p ∈ shortest hs T) : p ∈ hs ∧ ∀ s ∈ T, ∃ l ∈ p, l ∈ s := by
  rcases shortest_go_mem hs [] h with h | h
  · cases h
  · exact h
theorem shortStep_keep {T acc : List (Cl N)} {c p : Cl N} (h : p ∈ acc) : p ∈ shortStep T acc c := by
  unfold shortStep
  split
  · exact h
  · split
    · exact List.mem_append_left _ h
    · exact h
theorem shortest_go_keep {T : List (Cl N)} {p : Cl N} : ∀ (hs acc : List (Cl N)), p ∈ acc → p ∈ hs.foldl (shortStep T) acc
  | [], acc, h => h
  | c :: hs, acc, h => by rw [List.foldl_cons]; exact shortest_go_keep hs _ (shortStep_keep h)
theorem shortest_go_has {T : List (Cl N)} {c : Cl N} (hc : ∀ s ∈ T, ∃ l ∈ c, l ∈ s) : ∀ (hs acc : List (Cl N)), c ∈ hs → ∃ p ∈ hs.foldl (shortStep T) acc, ∀ l ∈ p, l ∈ c
  | [], acc, h => by cases h
  | d :: hs, acc, h => by
    rw [List.foldl_cons]
    rcases List.mem_cons.mp h with e | h
    · subst e
      have : ∃ p ∈ shortStep T acc c, ∀ l ∈ p, l ∈ c := by
        unfold shortStep
        split
        · rename_i h1
          obtain ⟨p, hp, hw⟩ := List.any_eq_true.mp h1
          exact ⟨p, hp, within_iff.mp hw⟩
        · have : (T.all fun s => meets c s) = true := List.all_eq_true.mpr fun s hs => meets_iff.mpr (hc s hs)
          rw [if_pos this]
          exact ⟨c, by simp, fun _ h => h⟩
      obtain ⟨p, hp, hw⟩ := this
      exact ⟨p, shortest_go_keep hs _ hp, hw⟩
    · exact shortest_go_has hc hs _ h
theorem shortest_len (hs T : List (Cl N)) : (shortest hs T).length ≤ hs.length := by
  have : ∀ (hs acc : List (Cl N)), (hs.foldl (shortStep T) acc).length ≤ acc.length + hs.length := by
    intro hs
    induction hs with
    | nil => intro acc; simp
    | cons c r ih =>
      intro acc
      rw [List.foldl_cons, List.length_cons]
      have h1 := ih (shortStep T acc c)
      have h2 := shortStep_len T acc c
      omega
  have := this hs []
  simpa [shortest] using this
/-- the shortest consequences say just the table -/
theorem shortest_says {S : List N} {hs T : List (Cl N)} (hnd : S.Nodup) (hT : ∀ s ∈ T, s.map Lt.nm = S) (hh : ∀ c : Cl N, c.map Lt.nm = S → c ∈ hs) (hn : ∀ c ∈ hs, ∀ l ∈ c, l.nm ∈ S) (A : Asg N) :
    Mods (shortest hs T) A ↔ lits S A ∈ T := by
  constructor
  · intro hm
    by_cases h : lits S A ∈ T
    · exact h
    · have hc : ∀ s ∈ T, ∃ l ∈ lits S (fun n => !A n), l ∈ s := fun s hs => by
        by_cases hd : ∃ l ∈ lits S (fun n => !A n), l ∈ s
        · exact hd
        · have ha : ag A s := fun l hl => by
            have hln : l.nm ∈ S := by rw [← hT s hs]; exact List.mem_map.mpr ⟨l, hl, rfl⟩
            by_cases ht : tr A l
            · exact ht
            · refine absurd ⟨l, mem_lits.mpr ⟨hln, ?_⟩, hl⟩ hd
              unfold tr at ht ⊢
              cases h1 : A l.nm <;> cases h2 : l.pos <;> simp [h1, h2] at ht ⊢
          exact absurd (lits_of_ag (hT s hs) ha ▸ hs) h
      obtain ⟨p, hp, hw⟩ := shortest_go_has hc hs [] (hh _ (lits_nm S _))
      obtain ⟨l, hl, ht⟩ := hm p hp
      obtain ⟨_, h2⟩ := mem_lits.mp (hw l hl)
      unfold tr at ht h2
      dsimp only at h2
      rw [ht] at h2
      cases hp : l.pos <;> rw [hp] at h2 <;> cases h2
  · intro h p hp
    obtain ⟨_, h2⟩ := shortest_mem hp
    obtain ⟨l, hl, hl2⟩ := h2 _ h
    exact ⟨l, hl, (mem_lits.mp hl2).2⟩

/-! ### tables joined like a tree -/
structure Tab (N : Type) where
  S : List N
  T : List (Cl N)
def compat (T : List (Cl N)) (ks : Cl N) : List (Cl N) := T.filter fun s => ks.all fun k => decide (k ∈ s)
def forcedLits (T : List (Cl N)) (ks : Cl N) : Option (Cl N) :=
  match compat T ks with
  | [] => none
  | s :: r => some (s.filter fun l => !decide (l ∈ ks) && (s :: r).all fun o => decide (l ∈ o))
def restr (known : Cl N) (S : List N) : Cl N := known.filter fun k => decide (k.nm ∈ S)
theorem mem_compat {T : List (Cl N)} {ks : Cl N} {s : Cl N} : s ∈ compat T ks ↔ s ∈ T ∧ ∀ k ∈ ks, k ∈ s := by
  unfold compat; simp
theorem mem_restr {known : Cl N} {S : List N} {k : Lt N} : k ∈ restr known S ↔ k ∈ known ∧ k.nm ∈ S := by
  unfold restr; simp
theorem forced_none {T : List (Cl N)} {ks : Cl N} : forcedLits T ks = none ↔ ∀ s ∈ T, ¬ ∀ k ∈ ks, k ∈ s := by
  unfold forcedLits
  cases h : compat T ks with
  | nil =>
    simp only [true_iff]
    intro s hs hk
    have : s ∈ compat T ks := mem_compat.mpr ⟨hs, hk⟩
    rw [h] at this; cases this
  | cons s r =>
    simp only [reduceCtorEq, false_iff]
    intro hh
    have : s ∈ compat T ks := by rw [h]; exact List.mem_cons_self
    exact hh s (mem_compat.mp this).1 (mem_compat.mp this).2
theorem forced_some {T : List (Cl N)} {ks f : Cl N} (h : forcedLits T ks = some f) : ∃ s0 ∈ T, (∀ k ∈ ks, k ∈ s0) ∧ (∀ l, l ∈ f ↔ l ∈ s0 ∧ l ∉ ks ∧ ∀ s ∈ T, (∀ k ∈ ks, k ∈ s) → l ∈ s) ∧ f = s0.filter (fun l => decide (l ∈ f)) := by
  unfold forcedLits at h
  cases e : compat T ks with
  | nil => rw [e] at h; cases h
  | cons s r =>
    rw [e] at h
    have h := Option.some.inj h
    have hs : s ∈ compat T ks := by rw [e]; exact List.mem_cons_self
    have hf : ∀ l, l ∈ f ↔ l ∈ s ∧ l ∉ ks ∧ ∀ o ∈ T, (∀ k ∈ ks, k ∈ o) → l ∈ o := fun l => by
      rw [← h, List.mem_filter, Bool.and_eq_true, List.all_eq_true, ← e]
      simp only [Bool.not_eq_true', decide_eq_false_iff_not, decide_eq_true_eq]
      constructor
      · rintro ⟨h1, h2, h3⟩; exact ⟨h1, h2, fun o ho hk => h3 o (mem_compat.mpr ⟨ho, hk⟩)⟩
      · rintro ⟨h1, h2, h3⟩; exact ⟨h1, h2, fun o ho => h3 o (mem_compat.mp ho).1 (mem_compat.mp ho).2⟩
    refine ⟨s, (mem_compat.mp hs).1, (mem_compat.mp hs).2, hf, ?_⟩
    conv => lhs; rw [← h]
    refine List.filter_congr fun l hl => ?_
    rw [Bool.eq_iff_iff, decide_eq_true_iff, ← h, List.mem_filter]
    simp [hl]
def Sol (cs : List (Tab N)) (A : Asg N) : Prop := ∀ c ∈ cs, lits c.S A ∈ c.T
def namesOf (cs : List (Tab N)) : List N := cs.flatMap Tab.S
theorem mem_namesOf {cs : List (Tab N)} {n : N} : n ∈ namesOf cs ↔ ∃ c ∈ cs, n ∈ c.S := by unfold namesOf; exact List.mem_flatMap
/-- what propagation keeps -/
structure Kn (cs : List (Tab N)) (half known : Cl N) : Prop where
  sub : ∀ l ∈ half, l ∈ known
  con : Con known
  nod : known.Nodup
  nms : ∀ l ∈ known, l.nm ∈ namesOf cs
  imp : ∀ A, Sol cs A → ag A half → ag A known
theorem Kn.start {cs : List (Tab N)} {half : Cl N} (h : (half.map Lt.nm).Nodup) (hn : ∀ l ∈ half, l.nm ∈ namesOf cs) : Kn cs half half := by
  refine ⟨fun _ h => h, con_of_nodup_nm h, ?_, hn, fun _ _ h => h⟩
  exact List.Pairwise.imp (fun {a b} hab e => hab (by rw [e])) (List.pairwise_map.mp h)
theorem Kn.dead {cs : List (Tab N)} {half known : Cl N} (h : Kn cs half known) {c : Tab N} (hc : c ∈ cs) (hf : forcedLits c.T (restr known c.S) = none) : ∀ A, Sol cs A → ¬ ag A half := fun A hs ha => by
  have hk := h.imp A hs ha
  refine forced_none.mp hf _ (hs c hc) fun k hk' => ?_
  obtain ⟨h1, h2⟩ := mem_restr.mp hk'
  exact mem_lits.mpr ⟨h2, hk k h1⟩
theorem Kn.step {cs : List (Tab N)} {half known f : Cl N} (h : Kn cs half known) {c : Tab N} (hc : c ∈ cs) (hS : c.S.Nodup) (hT : ∀ s ∈ c.T, s.map Lt.nm = c.S) (hf : forcedLits c.T (restr known c.S) = some f) : Kn cs half (known ++ f) := by
  obtain ⟨s0, hs0, hk0, hm, he⟩ := forced_some hf
  have hcon0 : Con s0 := con_of_nodup_nm (by rw [hT s0 hs0]; exact hS)
  have hnd0 : s0.Nodup := by
    have := hT s0 hs0
    have h2 : (s0.map Lt.nm).Nodup := by rw [this]; exact hS
    exact List.Pairwise.imp (fun {a b} hab e => hab (by rw [e])) (List.pairwise_map.mp h2)
  have hfS : ∀ l ∈ f, l.nm ∈ c.S := fun l hl => by
    rw [← hT s0 hs0]; exact List.mem_map.mpr ⟨l, ((hm l).mp hl).1, rfl⟩
  have hfk : ∀ l ∈ f, l ∉ known := fun l hl hk => ((hm l).mp hl).2.1 (mem_restr.mpr ⟨hk, hfS l hl⟩)
  have hfn : ∀ l ∈ f, l.neg ∉ known := fun l hl hk => by
    have : l.neg ∈ s0 := hk0 _ (mem_restr.mpr ⟨hk, by rw [neg_nm]; exact hfS l hl⟩)
    exact hcon0 l ((hm l).mp hl).1 this
  refine ⟨fun l hl => List.mem_append_left _ (h.sub l hl), fun l hl hn => ?_, ?_, fun l hl => ?_, fun A hs ha => ?_⟩
  · rcases List.mem_append.mp hl with hl | hl
    · rcases List.mem_append.mp hn with hn | hn
      · exact h.con l hl hn
      · exact hfn _ hn (by rw [neg_neg]; exact hl)
    · rcases List.mem_append.mp hn with hn | hn
      · exact hfn l hl hn
      · exact hcon0 l ((hm l).mp hl).1 ((hm _).mp hn).1
  · rw [List.nodup_append]
    refine ⟨h.nod, by rw [he]; exact List.Pairwise.filter _ hnd0, fun a ha b hb e => hfk b hb (e ▸ ha)⟩
  · rcases List.mem_append.mp hl with hl | hl
    · exact h.nms l hl
    · exact mem_namesOf.mpr ⟨c, hc, hfS l hl⟩
  · have hk := h.imp A hs ha
    refine ag_append.mpr ⟨hk, fun l hl => ?_⟩
    have := ((hm l).mp hl).2.2 _ (hs c hc) fun k hk' => mem_lits.mpr ⟨(mem_restr.mp hk').2, hk k (mem_restr.mp hk').1⟩
    exact (mem_lits.mp this).2

def Tree (prev : List N) : List (Tab N) → Prop
  | [] => True
  | c :: r => (∀ x ∈ c.S, ∀ y ∈ c.S, x ∈ prev → y ∈ prev → x = y) ∧ Tree (prev ++ c.S) r
def Good (known : Cl N) (pre : List (Tab N)) : Prop :=
  (∀ l : Lt N, l.nm ∈ namesOf pre → l.neg ∉ known → ∃ A, Sol pre A ∧ (∀ k ∈ known, k.nm ∈ namesOf pre → tr A k) ∧ tr A l) ∧
  ∃ A, Sol pre A ∧ ∀ k ∈ known, k.nm ∈ namesOf pre → tr A k
theorem tree_comb {known : Cl N} {pre : List (Tab N)} {c : Tab N} (hS : c.S.Nodup) (hT : ∀ s ∈ c.T, s.map Lt.nm = c.S) {A : Asg N} (hA : Sol pre A) (hk : ∀ k ∈ known, k.nm ∈ namesOf pre → tr A k)
    {s : Cl N} (hs : s ∈ c.T) (hks : ∀ k ∈ known, k.nm ∈ c.S → k ∈ s) (hx : ∀ x ∈ c.S, x ∈ namesOf pre → (⟨A x, x⟩ : Lt N) ∈ s) :
    ∃ B, Sol (pre ++ [c]) B ∧ (∀ k ∈ known, k.nm ∈ namesOf (pre ++ [c]) → tr B k) ∧ (∀ n ∈ namesOf pre, B n = A n) ∧ ag B s := by
  have hcon : Con s := con_of_nodup_nm (by rw [hT s hs]; exact hS)
  refine ⟨fun n => if n ∈ namesOf pre then A n else asgOf s n, ?_⟩
  have hBA : ∀ n ∈ namesOf pre, (if n ∈ namesOf pre then A n else asgOf s n) = A n := fun n hn => if_pos hn
  have hBs : ag (fun n => if n ∈ namesOf pre then A n else asgOf s n) s := fun l hl => by
    show (if l.nm ∈ namesOf pre then A l.nm else asgOf s l.nm) = l.pos
    have hln : l.nm ∈ c.S := by rw [← hT s hs]; exact List.mem_map.mpr ⟨l, hl, rfl⟩
    split
    · rename_i hp
      have h1 := hx _ hln hp
      by_cases e : A l.nm = l.pos
      · exact e
      · exfalso
        refine hcon l hl ?_
        have : l.neg = ⟨A l.nm, l.nm⟩ := by
          have e2 : A l.nm = !l.pos := by
            revert e
            generalize A l.nm = a
            generalize l.pos = b
            cases a <;> cases b <;> simp
          rw [e2]; rfl
        rw [this]; exact h1
    · exact asgOf_ag hcon l hl
  have hSol : Sol (pre ++ [c]) (fun n => if n ∈ namesOf pre then A n else asgOf s n) := fun d hd => by
    rcases List.mem_append.mp hd with hd | hd
    · rw [lits_congr (B := A) fun n hn => hBA n (mem_namesOf.mpr ⟨d, hd, hn⟩)]
      exact hA d hd
    · have e : d = c := by simpa using hd
      subst e
      rw [← lits_of_ag (hT s hs) hBs]
      exact hs
  refine ⟨hSol, fun k hkk hkn => ?_, hBA, hBs⟩
  by_cases hp : k.nm ∈ namesOf pre
  · have := hk k hkk hp
    unfold tr at this ⊢
    exact (hBA _ hp).trans this
  · obtain ⟨d, hd, hn⟩ := mem_namesOf.mp hkn
    rcases List.mem_append.mp hd with hd | hd
    · exact absurd (mem_namesOf.mpr ⟨d, hd, hn⟩) hp
    · have e : d = c := by simpa using hd
      subst e
      exact hBs k (hks k hkk hn)
theorem fix_a {known : Cl N} {c : Tab N} (hf : forcedLits c.T (restr known c.S) = some []) : ∃ s ∈ c.T, ∀ k ∈ known, k.nm ∈ c.S → k ∈ s := by
  obtain ⟨s0, hs0, hk0, _, _⟩ := forced_some hf
  exact ⟨s0, hs0, fun k hk hn => hk0 k (mem_restr.mpr ⟨hk, hn⟩)⟩
theorem fix_b {known : Cl N} {c : Tab N} (hS : c.S.Nodup) (hT : ∀ s ∈ c.T, s.map Lt.nm = c.S) (hf : forcedLits c.T (restr known c.S) = some []) {l : Lt N} (hl : l.nm ∈ c.S) (hn : l.neg ∉ known) :
    ∃ s ∈ c.T, (∀ k ∈ known, k.nm ∈ c.S → k ∈ s) ∧ l ∈ s := by
  obtain ⟨s0, hs0, hk0, hm, _⟩ := forced_some hf
  rcases full_dec (hT s0 hs0) hl with h | h
  · exact ⟨s0, hs0, fun k hk hn => hk0 k (mem_restr.mpr ⟨hk, hn⟩), h⟩
  · have h1 : l.neg ∉ ([] : Cl N) := by simp
    rw [hm] at h1
    have h2 : ¬ ∀ s ∈ c.T, (∀ k ∈ restr known c.S, k ∈ s) → l.neg ∈ s := fun hh => h1 ⟨h, fun hk => hn (mem_restr.mp hk).1, hh⟩
    by_cases h3 : ∃ s ∈ c.T, (∀ k ∈ restr known c.S, k ∈ s) ∧ l.neg ∉ s
    · obtain ⟨s, hs, hk, hns⟩ := h3
      refine ⟨s, hs, fun k hk' hn' => hk k (mem_restr.mpr ⟨hk', hn'⟩), ?_⟩
      rcases full_dec (hT s hs) hl with h | h
      · exact h
      · exact absurd h hns
    · refine absurd (fun s hs hk => ?_) h2
      by_cases h4 : l.neg ∈ s
      · exact h4
      · exact absurd ⟨s, hs, hk, h4⟩ h3
theorem Good.snoc {known : Cl N} {pre : List (Tab N)} {c : Tab N} (g : Good known pre) (hS : c.S.Nodup) (hT : ∀ s ∈ c.T, s.map Lt.nm = c.S) (hf : forcedLits c.T (restr known c.S) = some [])
    (ht : ∀ x ∈ c.S, ∀ y ∈ c.S, x ∈ namesOf pre → y ∈ namesOf pre → x = y) : Good known (pre ++ [c]) := by
  -- an assignment of the names ahead goes on
  have ext : ∀ A : Asg N, Sol pre A → (∀ k ∈ known, k.nm ∈ namesOf pre → tr A k) → ∃ B, Sol (pre ++ [c]) B ∧ (∀ k ∈ known, k.nm ∈ namesOf (pre ++ [c]) → tr B k) ∧ ∀ n ∈ namesOf pre, B n = A n := fun A hA hk => by
    by_cases hx : ∃ x ∈ c.S, x ∈ namesOf pre
    · obtain ⟨x, hxc, hxp⟩ := hx
      have hn : (⟨A x, x⟩ : Lt N).neg ∉ known := fun h => by
        have := hk _ h hxp
        exact (tr_neg.mp this) rfl
      obtain ⟨s, hs, hks, hl⟩ := fix_b hS hT hf (l := ⟨A x, x⟩) hxc hn
      obtain ⟨B, h1, h2, h3, _⟩ := tree_comb hS hT hA hk hs hks fun y hy hyp => by rw [ht y hy x hxc hyp hxp]; exact hl
      exact ⟨B, h1, h2, h3⟩
    · obtain ⟨s, hs, hks⟩ := fix_a hf
      obtain ⟨B, h1, h2, h3, _⟩ := tree_comb hS hT hA hk hs hks fun y hy hyp => absurd ⟨y, hy, hyp⟩ hx
      exact ⟨B, h1, h2, h3⟩
  refine ⟨fun l hl hn => ?_, ?_⟩
  · by_cases hp : l.nm ∈ namesOf pre
    · obtain ⟨A, hA, hk, hl2⟩ := g.1 l hp hn
      obtain ⟨B, h1, h2, h3⟩ := ext A hA hk
      refine ⟨B, h1, h2, ?_⟩
      unfold tr at hl2 ⊢
      rw [h3 _ hp]; exact hl2
    · have hlc : l.nm ∈ c.S := by
        obtain ⟨d, hd, hn2⟩ := mem_namesOf.mp hl
        rcases List.mem_append.mp hd with hd | hd
        · exact absurd (mem_namesOf.mpr ⟨d, hd, hn2⟩) hp
        · have e : d = c := by simpa using hd
          exact e ▸ hn2
      obtain ⟨s, hs, hks, hls⟩ := fix_b hS hT hf hlc hn
      have hcon : Con s := con_of_nodup_nm (by rw [hT s hs]; exact hS)
      by_cases hx : ∃ x ∈ c.S, x ∈ namesOf pre
      · obtain ⟨x, hxc, hxp⟩ := hx
        -- the side of x in s
        obtain ⟨lx, hlx, hlxs⟩ : ∃ lx : Lt N, lx.nm = x ∧ lx ∈ s := by
          have : x ∈ s.map Lt.nm := by rw [hT s hs]; exact hxc
          obtain ⟨lx, h1, h2⟩ := List.mem_map.mp this
          exact ⟨lx, h2, h1⟩
        have hnx : lx.neg ∉ known := fun h => hcon lx hlxs (hks _ h (by rw [neg_nm, hlx]; exact hxc))
        obtain ⟨A, hA, hk, htx⟩ := g.1 lx (by rw [hlx]; exact hxp) hnx
        obtain ⟨B, h1, h2, _, h4⟩ := tree_comb hS hT hA hk hs hks fun y hy hyp => by
          rw [ht y hy x hxc hyp hxp]
          have : (⟨A x, x⟩ : Lt N) = lx := by
            unfold tr at htx; rw [hlx] at htx
            cases lx with | mk p n => simp at hlx htx ⊢; exact ⟨htx, hlx.symm⟩
          rw [this]; exact hlxs
        exact ⟨B, h1, h2, h4 l hls⟩
      · obtain ⟨A, hA, hk⟩ := g.2
        obtain ⟨B, h1, h2, _, h4⟩ := tree_comb hS hT hA hk hs hks fun y hy hyp => absurd ⟨y, hy, hyp⟩ hx
        exact ⟨B, h1, h2, h4 l hls⟩
  · obtain ⟨A, hA, hk⟩ := g.2
    obtain ⟨B, h1, h2, _⟩ := ext A hA hk
    exact ⟨B, h1, h2⟩
theorem namesOf_snoc (pre : List (Tab N)) (c : Tab N) : namesOf (pre ++ [c]) = namesOf pre ++ c.S := by
  unfold namesOf; rw [List.flatMap_append, List.flatMap_singleton]
theorem tree_good {known : Cl N} : ∀ (r pre : List (Tab N)), Tree (namesOf pre) r → (∀ c ∈ r, c.S.Nodup ∧ (∀ s ∈ c.T, s.map Lt.nm = c.S) ∧ forcedLits c.T (restr known c.S) = some []) → Good known pre → Good known (pre ++ r)
  | [], pre, _, _, g => by rw [List.append_nil]; exact g
  | c :: r, pre, t, h, g => by
    obtain ⟨h1, h2, h3⟩ := h c List.mem_cons_self
    have g2 := g.snoc h1 h2 h3 t.1
    have := tree_good r (pre ++ [c]) (by rw [namesOf_snoc]; exact t.2) (fun d hd => h d (List.mem_cons_of_mem _ hd)) g2
    rw [List.append_assoc] at this
    exact this
theorem Good.nil (known : Cl N) : Good known ([] : List (Tab N)) :=
  ⟨fun l hl => (List.not_mem_nil hl).elim, ⟨fun _ => true, fun c hc => (List.not_mem_nil hc).elim, fun k _ hn => (List.not_mem_nil hn).elim⟩⟩
/-- at the end of propagation: solutions, with any literal that is not denied -/
theorem tree_end {cs : List (Tab N)} {half known : Cl N} (t : Tree [] cs) (hv : ∀ c ∈ cs, c.S.Nodup ∧ ∀ s ∈ c.T, s.map Lt.nm = c.S) (k : Kn cs half known) (hf : ∀ c ∈ cs, forcedLits c.T (restr known c.S) = some []) :
    (∃ A, Sol cs A ∧ ag A half) ∧ ∀ l : Lt N, l.nm ∈ namesOf cs → l ∉ known → ∃ A, Sol cs A ∧ ag A half ∧ tr A l.neg := by
  have g := tree_good (known := known) cs [] t (fun c hc => ⟨(hv c hc).1, (hv c hc).2, hf c hc⟩) (Good.nil known)
  rw [List.nil_append] at g
  refine ⟨?_, fun l hl hn => ?_⟩
  · obtain ⟨A, h1, h2⟩ := g.2
    exact ⟨A, h1, fun l hl => h2 l (k.sub l hl) (k.nms l (k.sub l hl))⟩
  · obtain ⟨A, h1, h2, h3⟩ := g.1 l.neg hl (by rw [neg_neg]; exact hn)
    exact ⟨A, h1, fun j hj => h2 j (k.sub j hj) (k.nms j (k.sub j hj)), h3⟩

/-! ### the law's questions -/
/-- what web.forced promises -/
def Told (cs : List (Tab N)) (half : Cl N) : Option (Cl N) → Prop
  | none => ∀ A, Sol cs A → ¬ ag A half
  | some told => ∃ known, Kn cs half known ∧ (∀ c ∈ cs, forcedLits c.T (restr known c.S) = some []) ∧ ∀ l, l ∈ told ↔ l ∈ known ∧ l ∉ half
/-- what the law's search promises -/
def Sought (cl : List (Cl N)) (half : Cl N) : Option (Cl N) → Prop
  | none => NoMod cl half
  | some L => Fnd cl half L
section
variable {cs : List (Tab N)} {cl : List (Cl N)} (t : Tree [] cs) (hv : ∀ c ∈ cs, c.S.Nodup ∧ ∀ s ∈ c.T, s.map Lt.nm = c.S) (hm : ∀ A, Mods cl A ↔ Sol cs A) {half : Cl N}
include t hv hm
theorem law_none {full told : Option (Cl N)} (hs : Sought cl half full) (ht : Told cs half told) : full = none ↔ told = none := by
  cases full with
  | none =>
    cases told with
    | none => simp
    | some td =>
      obtain ⟨kn, hk, hf, _⟩ := ht
      obtain ⟨A, h1, h2⟩ := (tree_end t hv hk hf).1
      exact absurd h2 (hs A ((hm A).mpr h1))
  | some L =>
    cases told with
    | none =>
      obtain ⟨h1, h2, _⟩ := Fnd.mods (show Fnd cl half L from hs) fun _ => true
      exact absurd h2 (ht _ ((hm _).mp h1))
    | some td => simp
theorem law_has {L td : Cl N} (hs : Fnd cl half L) (ht : Told cs half (some td)) : ∀ l ∈ td, l ∈ L := fun l hl => by
  obtain ⟨kn, hk, hf, hx⟩ := ht
  exact hs.has fun A h1 h2 => hk.imp A ((hm A).mp h1) h2 l ((hx l).mp hl).1
theorem law_lit {td : Cl N} (ht : Told cs half (some td)) {l : Lt N} (hl : l.nm ∈ namesOf cs) (hh : l ∉ half) {r : Option (Cl N)} (hs : Sought cl (half ++ [l.neg]) r) : l ∈ td ↔ r = none := by
  obtain ⟨kn, hk, hf, hx⟩ := ht
  rw [hx]
  cases r with
  | none =>
    simp only [iff_true]
    refine ⟨?_, hh⟩
    by_cases h : l ∈ kn
    · exact h
    · obtain ⟨A, h1, h2, h3⟩ := (tree_end t hv hk hf).2 l hl h
      exact absurd (ag_append.mpr ⟨h2, ag_single.mpr h3⟩) (hs A ((hm A).mpr h1))
  | some L =>
    simp only [reduceCtorEq, iff_false, not_and]
    intro h1 _
    obtain ⟨m1, m2, _⟩ := Fnd.mods (show Fnd cl _ L from hs) fun _ => true
    obtain ⟨m3, m4⟩ := ag_append.mp m2
    exact (tr_neg.mp (ag_single.mp m4)) (hk.imp _ ((hm _).mp m1) m3 l h1)
end
end KM

/-! KLay -/
/-! A layer over HandS: a persistent part G of the heap H, what stands for what (Rp), owned cells, judgements by symbolic states. -/
namespace KL
open PySem PySem.Spec PyProof.Rows L2

/-! ### representation -/
structure Rp where
  p : Hp → V → Prop
  mono : ∀ {G G' : Hp} {v : V}, Same G G' → p G v → p G' v
abbrev All2 (G : Hp) (rs : List Rp) (vs : List V) : Prop := Paired (fun (r : Rp) (v : V) => r.p G v) rs vs
theorem All2.mono {G G' : Hp} (s : Same G G') {rs : List Rp} {vs : List V} (h : All2 G rs vs) : All2 G' rs vs := Paired.mapP h fun r _ q => r.mono s q
theorem All2.get {G : Hp} : ∀ {rs : List Rp} {vs : List V} {i : Nat} {r : Rp}, All2 G rs vs → rs[i]? = some r → ∃ v, vs[i]? = some v ∧ r.p G v
  | _, _, _, _, .nil, e => by simp at e
  | _, _, 0, _, .cons h _, e => by simp at e; subst e; exact ⟨_, rfl, h⟩
  | _, _, i + 1, r, .cons _ t, e => by
    obtain ⟨v, h1, h2⟩ := All2.get (i := i) (r := r) t (by simpa using e)
    exact ⟨v, by simpa using h1, h2⟩
theorem All2.get' {G : Hp} : ∀ {rs : List Rp} {vs : List V} {i : Nat} {v : V}, All2 G rs vs → vs[i]? = some v → ∃ r, rs[i]? = some r ∧ r.p G v
  | _, _, _, _, .nil, e => by simp at e
  | _, _, 0, _, .cons h _, e => by simp at e; subst e; exact ⟨_, rfl, h⟩
  | _, _, i + 1, r, .cons _ t, e => by
    obtain ⟨v, h1, h2⟩ := All2.get' (i := i) t (by simpa using e)
    exact ⟨v, by simpa using h1, h2⟩
theorem All2.append {G : Hp} : ∀ {rs ss : List Rp} {vs ws : List V}, All2 G rs vs → All2 G ss ws → All2 G (rs ++ ss) (vs ++ ws)
  | _, _, _, _, .nil, s => s
  | _, _, _, _, .cons r t, s => .cons r (All2.append t s)
theorem All2.snoc {G : Hp} {rs : List Rp} {vs : List V} {r : Rp} {v : V} (h : All2 G rs vs) (q : r.p G v) : All2 G (rs ++ [r]) (vs ++ [v]) := h.append (.cons q .nil)
theorem All2.take {G : Hp} : ∀ {rs : List Rp} {vs : List V} (n : Nat), All2 G rs vs → All2 G (rs.take n) (vs.take n)
  | _, _, 0, _ => .nil
  | _, _, _ + 1, .nil => .nil
  | _, _, n + 1, .cons r t => .cons r (All2.take n t)
theorem All2.drop {G : Hp} : ∀ {rs : List Rp} {vs : List V} (n : Nat), All2 G rs vs → All2 G (rs.drop n) (vs.drop n)
  | _, _, 0, r => r
  | _, _, _ + 1, .nil => .nil
  | _, _, n + 1, .cons _ t => All2.drop n t
theorem All2.eraseIdx {G : Hp} : ∀ {rs : List Rp} {vs : List V} (i : Nat), All2 G rs vs → All2 G (rs.eraseIdx i) (vs.eraseIdx i)
  | _, _, _, .nil => .nil
  | _, _, 0, .cons _ t => t
  | _, _, i + 1, .cons r t => .cons r (All2.eraseIdx i t)
theorem All2.set {G : Hp} {r : Rp} {v : V} (q : r.p G v) : ∀ {rs : List Rp} {vs : List V} (i : Nat), All2 G rs vs → All2 G (rs.set i r) (vs.set i v)
  | _, _, _, .nil => .nil
  | _, _, 0, .cons _ t => .cons q t
  | _, _, i + 1, .cons r t => .cons r (All2.set q i t)
theorem All2.len {G : Hp} {rs : List Rp} {vs : List V} (h : All2 G rs vs) : rs.length = vs.length := Paired.length h

def rV (x : V) : Rp := ⟨fun _ v => v = x, fun _ h => h⟩
abbrev rS (x : Str) : Rp := rV (.str x)
abbrev rI (i : Int) : Rp := rV (.int i)
abbrev rB (b : Bool) : Rp := rV (.bl b)
abbrev rN : Rp := rV .non
def rAny : Rp := ⟨fun _ _ => True, fun _ h => h⟩
/-- what an object holds -/
structure Wp where
  w : Hp → HO → Prop
  mono : ∀ {G G' : Hp} {o : HO}, Same G G' → w G o → w G' o
def rOf (W : Wp) : Rp := ⟨fun G v => ∃ a o, v = .ref a ∧ G a = some o ∧ W.w G o, fun s ⟨a, o, e, h, t⟩ => ⟨a, o, e, s _ _ h, W.mono s t⟩⟩
def wL (rs : List Rp) : Wp := ⟨fun G o => ∃ vs, o = .lst vs ∧ All2 G rs vs, fun s ⟨vs, e, t⟩ => ⟨vs, e, t.mono s⟩⟩
def wT (rs : List Rp) : Wp := ⟨fun G o => ∃ vs, o = .tup vs ∧ All2 G rs vs, fun s ⟨vs, e, t⟩ => ⟨vs, e, t.mono s⟩⟩
abbrev rL (rs : List Rp) : Rp := rOf (wL rs)
abbrev rT (rs : List Rp) : Rp := rOf (wT rs)
/-- entries of a dict with text keys -/
abbrev KVs (G : Hp) (es : List (Str × Rp)) (kvs : List (Key × V)) : Prop := Paired (fun (e : Str × Rp) (q : Key × V) => q.1 = Sum.inr e.1 ∧ e.2.p G q.2) es kvs
theorem KVs.mono {G G' : Hp} (s : Same G G') {es : List (Str × Rp)} {kvs : List (Key × V)} (h : KVs G es kvs) : KVs G' es kvs := Paired.mapP h fun e _ q => ⟨q.1, e.2.mono s q.2⟩
def wD (es : List (Str × Rp)) : Wp := ⟨fun G o => ∃ kvs, o = .dK kvs ∧ KVs G es kvs, fun s ⟨vs, e, t⟩ => ⟨vs, e, t.mono s⟩⟩
abbrev rD (es : List (Str × Rp)) : Rp := rOf (wD es)
/-- a dict whose keys are tuples of texts, whatever stands under them -/
def wK (ks : List (List Str)) : Wp := ⟨fun _ o => ∃ kvs, o = .dT kvs ∧ kvs.map (·.1) = ks.map fun k => k.map Sum.inr, fun _ ⟨vs, e, t⟩ => ⟨vs, e, t⟩⟩
abbrev rK (ks : List (List Str)) : Rp := rOf (wK ks)
/-- an instance's attributes -/
abbrev FVs (G : Hp) (es : List (Str × Rp)) (fs : List (Str × V)) : Prop := Paired (fun (e : Str × Rp) (q : Str × V) => q.1 = e.1 ∧ e.2.p G q.2) es fs
theorem FVs.mono {G G' : Hp} (s : Same G G') {es : List (Str × Rp)} {fs : List (Str × V)} (h : FVs G es fs) : FVs G' es fs := Paired.mapP h fun e _ q => ⟨q.1, e.2.mono s q.2⟩
def wO (C : Addr) (es : List (Str × Rp)) : Wp := ⟨fun G o => ∃ dx fs, o = .ins C dx fs ∧ FVs G es fs, fun s ⟨dx, vs, e, t⟩ => ⟨dx, vs, e, t.mono s⟩⟩
abbrev rO (C : Addr) (es : List (Str × Rp)) : Rp := rOf (wO C es)

/-! ### how heaps go on -/
def isTup : HO → Bool
  | .tup _ => true
  | _ => false
structure Grow (G H G' H' : Hp) : Prop where
  gg : Same G G'
  sub : Same G' H'
  hh : Same H H'
  new : ∀ a o, G' a = some o → G a = some o ∨ H a = none ∨ isTup o = true
structure Move (F : Addr → Prop) (G H G' H' : Hp) : Prop where
  gg : Same G G'
  sub : Same G' H'
  keep : ∀ a o, ¬ F a → H a = some o → H' a = some o
  there : ∀ a, H a ≠ none → H' a ≠ none
  new : ∀ a o, G' a = some o → G a = some o ∨ H a = none ∨ isTup o = true
theorem Grow.refl {G H : Hp} (s : Same G H) : Grow G H G H := ⟨Same.refl G, s, Same.refl H, fun _ _ h => .inl h⟩
theorem Grow.trans {G H G1 H1 G2 H2 : Hp} (a : Grow G H G1 H1) (b : Grow G1 H1 G2 H2) : Grow G H G2 H2 :=
  ⟨a.gg.trans b.gg, b.sub, a.hh.trans b.hh, fun x o h => by
    rcases b.new x o h with h | h | h
    · exact a.new x o h
    · exact .inr (.inl (a.hh.free h))
    · exact .inr (.inr h)⟩
theorem Same.there {H H' : Hp} (s : Same H H') (a : Addr) (h : H a ≠ none) : H' a ≠ none := fun e => h (s.free e)
theorem Grow.move {F : Addr → Prop} {G H G' H' : Hp} (g : Grow G H G' H') : Move F G H G' H' :=
  ⟨g.gg, g.sub, fun a o _ h => g.hh a o h, fun a h => Same.there g.hh a h, g.new⟩
theorem Move.trans {F : Addr → Prop} {G H G1 H1 G2 H2 : Hp} (a : Move F G H G1 H1) (b : Move F G1 H1 G2 H2) : Move F G H G2 H2 :=
  ⟨a.gg.trans b.gg, b.sub, fun x o n h => b.keep x o n (a.keep x o n h), fun x h => b.there x (a.there x h), fun x o h => by
    rcases b.new x o h with h | h | h
    · exact a.new x o h
    · refine .inr (.inl ?_)
      cases q : H x with
      | none => rfl
      | some u => exact absurd h (a.there x (by rw [q]; exact fun z => nomatch z))
    · exact .inr (.inr h)⟩
theorem Move.refl {F : Addr → Prop} {G H : Hp} (s : Same G H) : Move F G H G H := (Grow.refl s).move
/-- a set of written addresses, told otherwise: what F' writes beyond F did not stand before -/
theorem Move.wider {F F' : Addr → Prop} {G0 H0 G H G' H' : Hp} (a : Move F G0 H0 G H) (b : Move F' G H G' H') (h : ∀ x, F' x → F x ∨ H0 x = none) : Move F G0 H0 G' H' :=
  ⟨a.gg.trans b.gg, b.sub, fun x o n e => b.keep x o (fun f => (h x f).elim n fun z => by rw [z] at e; cases e) (a.keep x o n e), fun x e => b.there x (a.there x e), fun x o e => by
    rcases b.new x o e with z | z | z
    · exact a.new x o z
    · refine .inr (.inl ?_)
      cases q : H0 x with
      | none => rfl
      | some u => exact absurd z (a.there x (by rw [q]; exact fun z => nomatch z))
    · exact .inr (.inr z)⟩

/-! ### owned cells -/
structure Cell where
  foot : List Addr
  ok : Hp → Hp → Prop
  keep : ∀ {G G' H H' : Hp}, Same G G' → (∀ a ∈ foot, H' a = H a) → ok G H → ok G' H'
  nt : ∀ {G H : Hp}, ok G H → ∀ a ∈ foot, ∀ o, H a = some o → isTup o = false
/-- such objects are no tuples -/
class NT (W : Wp) : Prop where
  nt : ∀ G o, W.w G o → isTup o = false
instance {rs : List Rp} : NT (wL rs) := ⟨fun _ _ ⟨_, e, _⟩ => by rw [e]; rfl⟩
instance {es : List (Str × Rp)} : NT (wD es) := ⟨fun _ _ ⟨_, e, _⟩ => by rw [e]; rfl⟩
instance {ks : List (List Str)} : NT (wK ks) := ⟨fun _ _ ⟨_, e, _⟩ => by rw [e]; rfl⟩
instance {C : Addr} {es : List (Str × Rp)} : NT (wO C es) := ⟨fun _ _ ⟨_, _, e, _⟩ => by rw [e]; rfl⟩
def cOf (a : Addr) (W : Wp) [n : NT W] : Cell := ⟨[a], fun G H => ∃ o, H a = some o ∧ W.w G o, fun s k ⟨o, h, t⟩ => ⟨o, by rw [k a (by simp)]; exact h, W.mono s t⟩, fun ⟨o, h, t⟩ b hb u hu => by
  have e : b = a := by simpa using hb
  rw [e, h] at hu
  cases hu
  exact n.nt _ _ t⟩
abbrev cL (a : Addr) (rs : List Rp) : Cell := cOf a (wL rs)
abbrev cD (a : Addr) (es : List (Str × Rp)) : Cell := cOf a (wD es)
/-- an instance in the making: its own dict with it -/
def cO (a dx C : Addr) (es : List (Str × Rp)) : Cell := ⟨[a, dx], fun G H => ∃ fs, H a = some (.ins C dx fs) ∧ FVs G es fs ∧ H dx = some (.own a) ∧ dx ≠ a, fun s k ⟨fs, h, t, d, n⟩ => ⟨fs, by rw [k a (by simp)]; exact h, t.mono s, by rw [k dx (by simp)]; exact d, n⟩, fun ⟨fs, h, _, d, _⟩ b hb u hu => by
  have e : b = a ∨ b = dx := by simpa using hb
  rcases e with e | e
  · rw [e, h] at hu; cases hu; rfl
  · rw [e, d] at hu; cases hu; rfl⟩
structure Mem (G H : Hp) (M : List Cell) : Prop where
  ok : ∀ c ∈ M, c.ok G H
  out : ∀ c ∈ M, ∀ a ∈ c.foot, G a = none
  there : ∀ c ∈ M, ∀ a ∈ c.foot, H a ≠ none
  apart : M.Pairwise fun c d => ∀ a ∈ c.foot, a ∉ d.foot
theorem Mem.nil {G H : Hp} : Mem G H [] := ⟨fun _ h => by simp at h, fun _ h => by simp at h, fun _ h => by simp at h, .nil⟩
theorem Mem.grow {G H G' H' : Hp} {M : List Cell} (m : Mem G H M) (g : Grow G H G' H') : Mem G' H' M := by
  have kk : ∀ c ∈ M, ∀ a ∈ c.foot, H' a = H a := fun c hc a ha => by
    cases q : H a with
    | none => exact absurd q (m.there c hc a ha)
    | some o => exact g.hh a o q
  refine ⟨fun c hc => c.keep g.gg (kk c hc) (m.ok c hc), fun c hc a ha => ?_, fun c hc a ha => by rw [kk c hc a ha]; exact m.there c hc a ha, m.apart⟩
  cases q : G' a with
  | none => rfl
  | some o =>
    rcases g.new a o q with z | z | z
    · rw [m.out c hc a ha] at z; cases z
    · exact absurd z (m.there c hc a ha)
    · have h1 := g.sub a o q
      rw [kk c hc a ha] at h1
      rw [c.nt (m.ok c hc) a ha o h1] at z; cases z
theorem Mem.sub {G H : Hp} {M M' : List Cell} (m : Mem G H M) (s : M'.Sublist M) : Mem G H M' :=
  ⟨fun c hc => m.ok c (s.subset hc), fun c hc => m.out c (s.subset hc), fun c hc => m.there c (s.subset hc), m.apart.sublist s⟩
theorem apart_symm {c d : Cell} (h : ∀ a ∈ c.foot, a ∉ d.foot) : ∀ a ∈ d.foot, a ∉ c.foot := fun a ha hc => h a hc ha
theorem Mem.perm {G H : Hp} {M M' : List Cell} (m : Mem G H M) (s : M.Perm M') : Mem G H M' :=
  ⟨fun c hc => m.ok c (s.symm.subset hc), fun c hc => m.out c (s.symm.subset hc), fun c hc => m.there c (s.symm.subset hc), s.pairwise m.apart fun h => apart_symm h⟩
/-- a cell has changed -/
theorem Mem.set {G H H' : Hp} {M : List Cell} {j : Nat} {c c' : Cell} (m : Mem G H M) (hj : M[j]? = some c) (hf : c'.foot = c.foot) (hH : ∀ a, a ∉ c.foot → H' a = H a) (ht : ∀ a ∈ c.foot, H' a ≠ none) (ok : c'.ok G H') : Mem G H' (M.set j c') := by
  obtain ⟨hl, hc⟩ := List.getElem?_eq_some_iff.mp hj
  have hmem : c ∈ M := List.mem_of_getElem? hj
  have other : ∀ i d, i ≠ j → M[i]? = some d → ∀ a ∈ d.foot, a ∉ c.foot := fun i d hij hi a ha hac => by
    obtain ⟨hl2, hd⟩ := List.getElem?_eq_some_iff.mp hi
    rcases Nat.lt_or_gt_of_ne hij with h | h
    · have := List.pairwise_iff_getElem.mp m.apart i j hl2 hl h
      rw [hd, hc] at this
      exact this a ha hac
    · have := List.pairwise_iff_getElem.mp m.apart j i hl hl2 h
      rw [hd, hc] at this
      exact this a hac ha
  have each : ∀ d ∈ M.set j c', d = c' ∨ (d ∈ M ∧ ∀ a ∈ d.foot, a ∉ c.foot) := fun d hd => by
    obtain ⟨i, hi⟩ := List.getElem?_of_mem hd
    by_cases hij : i = j
    · subst hij
      rw [List.getElem?_set_self hl] at hi
      exact .inl (Option.some.inj hi).symm
    · rw [List.getElem?_set_ne (Ne.symm hij)] at hi
      exact .inr ⟨List.mem_of_getElem? hi, other i d hij hi⟩
  refine ⟨fun d hd => ?_, fun d hd a ha => ?_, fun d hd a ha => ?_, ?_⟩
  · rcases each d hd with e | ⟨h1, h2⟩
    · rw [e]; exact ok
    · exact d.keep (Same.refl G) (fun a ha => hH a (h2 a ha)) (m.ok d h1)
  · rcases each d hd with e | ⟨h1, _⟩
    · rw [e, hf] at ha; exact m.out c hmem a ha
    · exact m.out d h1 a ha
  · rcases each d hd with e | ⟨h1, h2⟩
    · rw [e, hf] at ha; exact ht a ha
    · rw [hH a (h2 a ha)]; exact m.there d h1 a ha
  · rw [List.pairwise_iff_getElem]
    intro i k hi hk hik a ha
    rw [List.length_set] at hi hk
    have e1 : (M.set j c')[i].foot = M[i].foot := by
      by_cases hij : j = i
      · subst hij; rw [List.getElem_set_self, hf, ← hc]
      · rw [List.getElem_set_ne hij]
    have e2 : (M.set j c')[k].foot = M[k].foot := by
      by_cases hij : j = k
      · subst hij; rw [List.getElem_set_self, hf, ← hc]
      · rw [List.getElem_set_ne hij]
    rw [e1] at ha
    rw [e2]
    exact List.pairwise_iff_getElem.mp m.apart i k hi hk hik a ha
def feet (M : List Cell) (a : Addr) : Prop := ∃ c ∈ M, a ∈ c.foot
/-- a callee has written its cells M1; the others stand -/
theorem Mem.frame {G H G' H' : Hp} {M1 M1' R : List Cell} (m : Mem G H (M1 ++ R)) (v : Move (feet M1) G H G' H') (m' : Mem G' H' M1') (e : M1'.map Cell.foot = M1.map Cell.foot) : Mem G' H' (M1' ++ R) := by
  have hap := List.pairwise_append.mp m.apart
  have nf : ∀ c ∈ R, ∀ a ∈ c.foot, ¬ feet M1 a := fun c hc a ha ⟨d, hd, had⟩ => hap.2.2 d hd c hc a had ha
  have kk : ∀ c ∈ R, ∀ a ∈ c.foot, H' a = H a := fun c hc a ha => by
    cases q : H a with
    | none => exact absurd q (m.there c (List.mem_append_right _ hc) a ha)
    | some o => exact v.keep a o (nf c hc a ha) q
  have ft : ∀ c ∈ M1', ∃ d ∈ M1, d.foot = c.foot := fun c hc => by
    have : c.foot ∈ M1.map Cell.foot := by rw [← e]; exact List.mem_map.mpr ⟨c, hc, rfl⟩
    obtain ⟨d, hd, h⟩ := List.mem_map.mp this
    exact ⟨d, hd, h⟩
  refine ⟨fun c hc => ?_, fun c hc a ha => ?_, fun c hc a ha => ?_, List.pairwise_append.mpr ⟨m'.apart, hap.2.1, fun c hc d hd a ha => ?_⟩⟩
  · rcases List.mem_append.mp hc with hc | hc
    · exact m'.ok c hc
    · exact c.keep v.gg (kk c hc) (m.ok c (List.mem_append_right _ hc))
  · rcases List.mem_append.mp hc with hc | hc
    · exact m'.out c hc a ha
    · cases q : G' a with
      | none => rfl
      | some o =>
        rcases v.new a o q with z | z | z
        · rw [m.out c (List.mem_append_right _ hc) a ha] at z; cases z
        · exact absurd z (m.there c (List.mem_append_right _ hc) a ha)
        · have h1 := v.sub a o q
          rw [kk c hc a ha] at h1
          rw [c.nt (m.ok c (List.mem_append_right _ hc)) a ha o h1] at z; cases z
  · rcases List.mem_append.mp hc with hc | hc
    · exact m'.there c hc a ha
    · rw [kk c hc a ha]; exact m.there c (List.mem_append_right _ hc) a ha
  · obtain ⟨c0, h0, e0⟩ := ft c hc
    exact hap.2.2 c0 h0 d hd a (by rw [e0]; exact ha)

/-! ### symbolic states -/
abbrev Sl := List (Option Rp)
structure Slots (G : Hp) (ρ : Sl) (σ : L2.St) : Prop where
  len : ρ.length = σ.length
  at_ : ∀ (i : Nat) (r : Rp), ρ[i]? = some (some r) → ∃ v : V, σ[i]? = some (some v) ∧ r.p G v
theorem Slots.mono {G G' : Hp} {ρ : Sl} {σ : L2.St} (s : Same G G') (h : Slots G ρ σ) : Slots G' ρ σ := ⟨h.len, fun i r e => let ⟨v, a, b⟩ := h.at_ i r e; ⟨v, a, r.mono s b⟩⟩
theorem Slots.set {G : Hp} {ρ : Sl} {σ : L2.St} (h : Slots G ρ σ) {i : Nat} {r : Rp} {v : V} (q : r.p G v) : Slots G (ρ.set i (some r)) (σ.set i (some v)) := by
  refine ⟨by rw [List.length_set, List.length_set]; exact h.len, fun j r' e => ?_⟩
  by_cases hj : i = j
  · subst hj
    by_cases hl : i < ρ.length
    · rw [List.getElem?_set_self hl] at e
      cases e
      exact ⟨v, List.getElem?_set_self (by rw [← h.len]; exact hl), q⟩
    · rw [List.getElem?_eq_none (by rw [List.length_set]; omega)] at e; cases e
  · rw [List.getElem?_set_ne hj] at e
    obtain ⟨u, a, b⟩ := h.at_ j r' e
    exact ⟨u, by rw [List.getElem?_set_ne hj]; exact a, b⟩
/-- less is known -/
def Less : Sl → Sl → Prop
  | [], [] => True
  | none :: a, _ :: b => Less a b
  | some r :: a, x :: b => x = some r ∧ Less a b
  | _, _ => False
theorem Less.refl : ∀ ρ : Sl, Less ρ ρ
  | [] => trivial
  | none :: a => Less.refl a
  | some r :: a => ⟨rfl, Less.refl a⟩
theorem Less.len : ∀ {a b : Sl}, Less a b → a.length = b.length
  | [], [], _ => rfl
  | none :: a, _ :: b, h => by rw [List.length_cons, List.length_cons, Less.len (a := a) (b := b) h]
  | some _ :: a, _ :: b, h => by rw [List.length_cons, List.length_cons, Less.len (a := a) (b := b) h.2]
theorem Less.get : ∀ {a b : Sl} {i : Nat} {r : Rp}, Less a b → a[i]? = some (some r) → b[i]? = some (some r)
  | [], [], _, _, _, e => by simp at e
  | none :: a, _ :: b, 0, _, _, e => by simp at e
  | none :: a, _ :: b, i + 1, _, h, e => by simpa using Less.get (a := a) (b := b) (i := i) h (by simpa using e)
  | some _ :: a, _ :: b, 0, _, h, e => by simp at e; subst e; simpa using h.1
  | some _ :: a, _ :: b, i + 1, _, h, e => by simpa using Less.get (a := a) (b := b) (i := i) h.2 (by simpa using e)
theorem Slots.less {G : Hp} {ρ ρ' : Sl} {σ : L2.St} (h : Slots G ρ σ) (l : Less ρ' ρ) : Slots G ρ' σ := ⟨l.len.trans h.len, fun i r e => h.at_ i r (l.get e)⟩

structure Base where
  F : Addr → Prop
  G : Hp
  H : Hp
  P : Hp → Prop
  pm : ∀ {G G' : Hp}, Same G G' → P G → P G'
/-- with another fact that stays -/
def Base.wp (B : Base) (P : Hp → Prop) (pm : ∀ {G G' : Hp}, Same G G' → P G → P G') : Base := ⟨B.F, B.G, B.H, P, pm⟩
structure Stt (B : Base) (ρ : Sl) (M : List Cell) (σ : L2.St) (G H : Hp) : Prop where
  mv : Move B.F B.G B.H G H
  slots : Slots G ρ σ
  mem : Mem G H M
  pf : B.P G
section
variable {B : Base} {ρ ρ' : Sl} {M M' : List Cell} {σ : L2.St} {G H G' H' : Hp}
theorem Stt.grow (s : Stt B ρ M σ G H) (g : Grow G H G' H') : Stt B ρ M σ G' H' := ⟨s.mv.trans g.move, s.slots.mono g.gg, s.mem.grow g, B.pm g.gg s.pf⟩
theorem Stt.sub (s : Stt B ρ M σ G H) : Same G H := s.mv.sub
theorem Stt.set (s : Stt B ρ M σ G H) {i : Nat} {r : Rp} {v : V} (q : r.p G v) : Stt B (ρ.set i (some r)) M (σ.set i (some v)) G H := ⟨s.mv, s.slots.set q, s.mem, s.pf⟩
theorem Stt.less (s : Stt B ρ M σ G H) (l : Less ρ' ρ) : Stt B ρ' M σ G H := ⟨s.mv, s.slots.less l, s.mem, s.pf⟩
theorem Stt.drop (s : Stt B ρ M σ G H) (l : M'.Sublist M) : Stt B ρ M' σ G H := ⟨s.mv, s.slots, s.mem.sub l, s.pf⟩
theorem Stt.perm (s : Stt B ρ M σ G H) (l : M.Perm M') : Stt B ρ M' σ G H := ⟨s.mv, s.slots, s.mem.perm l, s.pf⟩
theorem Stt.none_of (s : Stt B ρ M σ G H) {a : Addr} (h : H a = none) : B.H a = none := by
  cases q : B.H a with
  | none => rfl
  | some o => exact absurd h (s.mv.there a (by rw [q]; exact fun z => nomatch z))
/-- a new object becomes an owned cell -/
theorem Stt.own {c : Cell} (s : Stt B ρ M σ G H) (ok : c.ok G H) (fr : ∀ a ∈ c.foot, G a = none ∧ H a ≠ none ∧ ∀ d ∈ M, a ∉ d.foot) : Stt B ρ (c :: M) σ G H := by
  refine ⟨s.mv, s.slots, ⟨fun d hd => ?_, fun d hd a ha => ?_, fun d hd a ha => ?_, List.pairwise_cons.mpr ⟨fun d hd a ha => (fr a ha).2.2 d hd, s.mem.apart⟩⟩, s.pf⟩
  · rcases List.mem_cons.mp hd with e | hd
    · rw [e]; exact ok
    · exact s.mem.ok d hd
  · rcases List.mem_cons.mp hd with e | hd
    · exact (fr a (e ▸ ha)).1
    · exact s.mem.out d hd a ha
  · rcases List.mem_cons.mp hd with e | hd
    · exact (fr a (e ▸ ha)).2.1
    · exact s.mem.there d hd a ha
/-- an owned cell's object becomes part of G -/
theorem Stt.pub {a : Addr} {o : HO} {c : Cell} (s : Stt B ρ (c :: M) σ G H) (hf : a ∈ c.foot) (h : H a = some o) (hb : B.H a = none) : Stt B ρ M σ (upd G a o) H := by
  have ga : G a = none := s.mem.out c List.mem_cons_self a hf
  have hap := List.pairwise_cons.mp s.mem.apart
  have ss : Same G (upd G a o) := fun b u e => by rw [upd_ne (ne_of_none e ga)]; exact e
  have key : ∀ b u, upd G a o b = some u → G b = some u ∨ (b = a ∧ u = o) := fun b u e => by
    by_cases hb : b = a
    · subst hb; rw [upd_same] at e; exact .inr ⟨rfl, (Option.some.inj e).symm⟩
    · rw [upd_ne hb] at e; exact .inl e
  refine ⟨⟨s.mv.gg.trans ss, fun b u e => ?_, s.mv.keep, s.mv.there, fun b u e => ?_⟩, s.slots.mono ss, ⟨fun d hd => d.keep ss (fun _ _ => rfl) (s.mem.ok d (List.mem_cons_of_mem _ hd)), fun d hd b hb => ?_, fun d hd => s.mem.there d (List.mem_cons_of_mem _ hd), hap.2⟩, B.pm ss s.pf⟩
  · rcases key b u e with e | ⟨rfl, rfl⟩
    · exact s.mv.sub b u e
    · exact h
  · rcases key b u e with e | ⟨rfl, rfl⟩
    · exact s.mv.new b u e
    · exact .inr (.inl hb)
  · rw [upd_ne (fun (e : b = a) => hap.1 d hd a hf (by rw [← e]; exact hb))]
    exact s.mem.out d (List.mem_cons_of_mem _ hd) b hb
/-- a cell's own objects have changed -/
theorem Stt.upd {j : Nat} {c c' : Cell} (s : Stt B ρ M σ G H) (hj : M[j]? = some c) (hw : ∀ a ∈ c.foot, B.F a ∨ B.H a = none) (hf : c'.foot = c.foot) (hH : ∀ a, a ∉ c.foot → H' a = H a) (ht : ∀ a ∈ c.foot, H' a ≠ none) (ok : c'.ok G H') : Stt B ρ (M.set j c') σ G H' := by
  have hmem : c ∈ M := List.mem_of_getElem? hj
  refine ⟨⟨s.mv.gg, fun a o e => ?_, fun a o n e => ?_, fun a e => ?_, s.mv.new⟩, s.slots, s.mem.set hj hf hH ht ok, s.pf⟩
  · by_cases hac : a ∈ c.foot
    · rw [s.mem.out c hmem a hac] at e; cases e
    · rw [hH a hac]; exact s.mv.sub a o e
  · by_cases hac : a ∈ c.foot
    · rcases hw a hac with z | z
      · exact absurd z n
      · rw [z] at e; cases e
    · rw [hH a hac]; exact s.mv.keep a o n e
  · by_cases hac : a ∈ c.foot
    · exact ht a hac
    · rw [hH a hac]; exact s.mv.there a e
end
end KL

/-! KJud -/
/-! Judgements by symbolic states, and their rules. -/
namespace KL
open PySem PySem.Spec PyProof.Rows L2

/-! ### readings that are the semantics itself -/
structure SemE (X : Cx) (e : Expr) (σ : L2.St) (H : Hp) (Q : VK) : Prop where
  run : ∀ (pins : List (Addr × Obj)) (s : Shared), Inv X pins σ H s → wpAny (model X.prog X.w) X.A (eval e X.env) (EP X pins σ Q) X.xe s
structure SemT (X : Cx) (e : Expr) (σ : L2.St) (H : Hp) (Q : Bool → Hp → Prop) : Prop where
  run : ∀ (pins : List (Addr × Obj)) (s : Shared), Inv X pins σ H s → wpAny (model X.prog X.w) X.A (isTrue e X.env (eval e X.env)) (TP X pins σ Q) X.xe s
structure SemA (X : Cx) (es : List Expr) (σ : L2.St) (H : Hp) (Q : List V → Hp → Prop) : Prop where
  run : ∀ (pos : Pos) (pins : List (Addr × Obj)) (s : Shared), Inv X pins σ H s → wpAny (model X.prog X.w) X.A (spliced (backTo pos (starEach es X.env))) (AP X pins σ Q) X.xe s
structure SemS (X : Cx) (st : Stmt) (D : Ends) (σ : L2.St) (H : Hp) : Prop where
  run : ∀ (pins : List (Addr × Obj)) (s : Shared), Inv X pins σ H s → wpAny (model X.prog X.w) X.A (exec st X.env) (SP X pins D) X.xe s
structure SemSs (X : Cx) (sts : List Stmt) (D : Ends) (σ : L2.St) (H : Hp) : Prop where
  run : ∀ (pins : List (Addr × Obj)) (s : Shared), Inv X pins σ H s → wpAny (model X.prog X.w) X.A (execs sts X.env) (SP X pins D) X.xe s
section
variable {X : Cx} {e : Expr} {es : List Expr} {st : Stmt} {sts : List Stmt} {te : TE} {tt : TT} {ta : TA} {ts : TS}
theorem pe_sem : PE X e (SemE X e) := ⟨fun pins s _ _ _ I h => h.run pins s I⟩
theorem pt_sem : PT X e (SemT X e) := ⟨fun pins s _ _ _ I h => h.run pins s I⟩
theorem pa_sem : PA X es (SemA X es) := ⟨fun pos pins s _ _ _ I h => h.run pos pins s I⟩
theorem ps_sem : PS X st (SemS X st) := ⟨fun pins s _ _ _ I h => h.run pins s I⟩
theorem pss_sem : PSs X sts (SemSs X sts) := ⟨fun pins s _ _ _ I h => h.run pins s I⟩
theorem sem_e (h : PE X e te) {σ H Q} (q : te σ H Q) : SemE X e σ H Q := ⟨fun pins s I => h.run pins s σ H Q I q⟩
theorem sem_t (h : PT X e tt) {σ H Q} (q : tt σ H Q) : SemT X e σ H Q := ⟨fun pins s I => h.run pins s σ H Q I q⟩
theorem sem_a (h : PA X es ta) {σ H Q} (q : ta σ H Q) : SemA X es σ H Q := ⟨fun pos pins s I => h.run pos pins s σ H Q I q⟩
theorem sem_s (h : PS X st ts) {D σ H} (q : ts D σ H) : SemS X st D σ H := ⟨fun pins s I => h.run pins s σ H D I q⟩
theorem sem_ss (h : PSs X sts ts) {D σ H} (q : ts D σ H) : SemSs X sts D σ H := ⟨fun pins s I => h.run pins s σ H D I q⟩
end

/-! ### judgements -/
section
variable (X : Cx) (B : Base) (ρ : Sl) (M : List Cell)
/-- e gives, without writing, a value that stands for R -/
def DE (e : Expr) (R : Rp) : Prop := ∀ (σ : L2.St) (G H : Hp), Stt B ρ M σ G H → ∀ Q : VK, (∀ v G' H', Grow G H G' H' → R.p G' v → Q v H') → SemE X e σ H Q
/-- .. a new object -/
def NE (e : Expr) (W : Wp) : Prop := ∀ (σ : L2.St) (G H : Hp), Stt B ρ M σ G H → ∀ Q : VK, (∀ p o G' H', Grow G H G' H' → G' p = none → H p = none → H' p = some o → W.w G' o → Q (.ref p) H') → SemE X e σ H Q
def DT (e : Expr) (b : Bool) : Prop := ∀ (σ : L2.St) (G H : Hp), Stt B ρ M σ G H → ∀ Q : Bool → Hp → Prop, (∀ G' H', Grow G H G' H' → Q b H') → SemT X e σ H Q
def DA (es : List Expr) (Rs : List Rp) : Prop := ∀ (σ : L2.St) (G H : Hp), Stt B ρ M σ G H → ∀ Q : List V → Hp → Prop, (∀ vs G' H', Grow G H G' H' → All2 G' Rs vs → Q vs H') → SemA X es σ H Q
/-- e gives some R x, the cells are then M' x, for some x with P x -/
def XE (e : Expr) {α : Type} (P : α → Prop) (R : α → Rp) (M' : α → List Cell) : Prop := ∀ (σ : L2.St) (G H : Hp), Stt B ρ M σ G H → ∀ Q : VK,
  (∀ x v G' H', P x → Same G G' → Stt B ρ (M' x) σ G' H' → (R x).p G' v → Q v H') → SemE X e σ H Q
def XA (es : List Expr) {α : Type} (P : α → Prop) (R : α → List Rp) (M' : α → List Cell) : Prop := ∀ (σ : L2.St) (G H : Hp), Stt B ρ M σ G H → ∀ Q : List V → Hp → Prop,
  (∀ x vs G' H', P x → Same G G' → Stt B ρ (M' x) σ G' H' → All2 G' (R x) vs → Q vs H') → SemA X es σ H Q
def XT (e : Expr) {α : Type} (P : α → Prop) (b : α → Bool) (M' : α → List Cell) : Prop := ∀ (σ : L2.St) (G H : Hp), Stt B ρ M σ G H → ∀ Q : Bool → Hp → Prop,
  (∀ x G' H', P x → Same G G' → Stt B ρ (M' x) σ G' H' → Q (b x) H') → SemT X e σ H Q
/-- statements, from a symbolic state -/
def Tr (sts : List Stmt) (D : Ends) : Prop := ∀ (σ : L2.St) (G H : Hp), Stt B ρ M σ G H → SemSs X sts D σ H
end

section
variable {X : Cx} {B : Base} {ρ : Sl} {M : List Cell} {e a b : Expr} {es : List Expr} {R Ra Rb : Rp} {W : Wp} {pos : Pos}
/-! ### from one to another -/
theorem pub_grow {G H G' H' : Hp} {p : Addr} {o : HO} (g : Grow G H G' H') (hg : G' p = none) (hh : H p = none) (h : H' p = some o) : Grow G H (upd G' p o) H' := by
  have ss : Same G' (upd G' p o) := fun b u q => by rw [upd_ne (ne_of_none q hg)]; exact q
  refine ⟨g.gg.trans ss, fun b u q => ?_, g.hh, fun b u q => ?_⟩
  · by_cases hb : b = p
    · subst hb; rw [upd_same] at q; cases q; exact h
    · rw [upd_ne hb] at q; exact g.sub b u q
  · by_cases hb : b = p
    · subst hb; exact .inr (.inl hh)
    · rw [upd_ne hb] at q; exact g.new b u q
theorem NE.de (h : NE X B ρ M e W) : DE X B ρ M e (rOf W) := fun σ G H s Q k => h σ G H s Q fun p o G' H' g hg hh hp w => by
  have ss : Same G' (upd G' p o) := fun b u q => by rw [upd_ne (ne_of_none q hg)]; exact q
  exact k _ (upd G' p o) H' (pub_grow g hg hh hp) ⟨p, o, rfl, upd_same, W.mono ss w⟩
theorem DE.xe (h : DE X B ρ M e R) : XE X B ρ M e (fun _ : Unit => True) (fun _ => R) (fun _ => M) := fun σ G H s Q k => h σ G H s Q fun v G' H' g r => k () v G' H' trivial g.gg (s.grow g) r
theorem DA.xa {Rs : List Rp} (h : DA X B ρ M es Rs) : XA X B ρ M es (fun _ : Unit => True) (fun _ => Rs) (fun _ => M) := fun σ G H s Q k => h σ G H s Q fun v G' H' g r => k () v G' H' trivial g.gg (s.grow g) r
theorem DT.xt {c : Bool} (h : DT X B ρ M e c) : XT X B ρ M e (fun _ : Unit => True) (fun _ => c) (fun _ => M) := fun σ G H s Q k => h σ G H s Q fun G' H' g => k () G' H' trivial g.gg (s.grow g)
theorem DE.weak (h : DE X B ρ M e Ra) (k : ∀ G v, Ra.p G v → R.p G v) : DE X B ρ M e R := fun σ G H s Q q => h σ G H s Q fun v G' H' g r => q v G' H' g (k G' v r)
theorem DE.is (h : DE X B ρ M e Ra) (k : Ra = R) : DE X B ρ M e R := k ▸ h
theorem XE.weak {α β : Type} {P : α → Prop} {S : α → Rp} {M' : α → List Cell} {P' : β → Prop} {S' : β → Rp} {N' : β → List Cell} (h : XE X B ρ M e P S M') (f : α → β) (hp : ∀ x, P x → P' (f x)) (hr : ∀ x G v, P x → (S x).p G v → (S' (f x)).p G v) (hm : ∀ x, M' x = N' (f x)) :
    XE X B ρ M e P' S' N' := fun σ G H s Q q => h σ G H s Q fun x v G' H' p sg st r => q (f x) v G' H' (hp x p) sg (hm x ▸ st) (hr x G' v p r)

/-! ### values -/
theorem de_var (i : Nat) {x : Str} (h : ρ[i]? = some (some R) := by rfl) (hN : X.N[i]? = some x := by rfl) (hv : Vis X.env.scope x := by first | exact Or.inl rfl | exact Or.inr (Or.inl rfl) | exact Or.inr (Or.inr rfl))
    (hd : (x == ("__debug__" : Str)) = false := by decide) (hcd : (x == ("__classdict__" : Str)) = false := by decide) : DE X B ρ M (.Name x pos) R := fun σ G H s Q q => by
  obtain ⟨v, h1, h2⟩ := s.slots.at_ i R h
  exact sem_e (pe_var hN hv hd hcd) ⟨v, h1, q v G H (Grow.refl s.sub) h2⟩
theorem de_c {v : V} (h : PE X e (tC v)) : DE X B ρ M e (rV v) := fun σ G H s Q q => sem_e h (q v G H (Grow.refl s.sub) rfl)
theorem de_int {i : Int} {j : Nat} : DE X B ρ M (.Constant (.int i) j pos) (rI i) := de_c pe_int
theorem de_bl {c : Bool} {j : Nat} : DE X B ρ M (.Constant (.bool c) j pos) (rB c) := de_c pe_bl
theorem de_non {j : Nat} : DE X B ρ M (.Constant .none j pos) rN := de_c pe_non
theorem de_str {x : Str} {j : Nat} : DE X B ρ M (.Constant (.str x) j pos) (rS x) := de_c pe_str
theorem de_glob {x : Str} {v : V} {u : Value} (hm : X.mg x = some u) (r : RelV v u) (hg : Gl X x := by rfl) (hd : (x == ("__debug__" : Str)) = false := by decide) : DE X B ρ M (.Name x pos) (rV v) := de_c (pe_glob hg hm r hd)
theorem de_bltn {x : Str} {v : V} {u : Value} (hm : X.mg x = none) (hv : bootBuiltins x = some u) (r : RelV v u) (hg : Gl X x := by rfl) (hn : x ≠ "__name__" := by decide) (hd : (x == ("__debug__" : Str)) = false := by decide) : DE X B ρ M (.Name x pos) (rV v) := de_c (pe_bltn hg hm hv r hn hd)

/-! ### two in a row -/
theorem de_2 (ha : DE X B ρ M a Ra) (hb : DE X B ρ M b Rb) {σ : L2.St} {G H : Hp} (s : Stt B ρ M σ G H) {k : V → V → Hp → Prop}
    (q : ∀ x y G' H', Grow G H G' H' → Ra.p G' x → Rb.p G' y → k x y H') : SemE X a σ H fun x H1 => SemE X b σ H1 fun y H2 => k x y H2 :=
  ha σ G H s _ fun x G1 H1 g1 r1 => hb σ G1 H1 (s.grow g1) _ fun y G2 H2 g2 r2 => q x y G2 H2 (g1.trans g2) (Ra.mono g2.gg r1) r2
/-- what an operation on values gives -/
def Opv (M : List Cell) (Ra Rb : Rp) (r : L2.R2) (R : Rp) : Prop := ∀ (x y : V) (G H : Hp), Same G H → Mem G H M → Ra.p G x → Rb.p G y → ∀ Q : VK, (∀ v G' H', Grow G H G' H' → R.p G' v → Q v H') → r x y H Q
def Unv (M : List Cell) (Ra : Rp) (r : V → Hp → VK → Prop) (R : Rp) : Prop := ∀ (x : V) (G H : Hp), Same G H → Mem G H M → Ra.p G x → ∀ Q : VK, (∀ v G' H', Grow G H G' H' → R.p G' v → Q v H') → r x H Q
def Clv (M : List Cell) (Rs : List Rp) (r : List V → Hp → VK → Prop) (R : Rp) : Prop := ∀ (xs : List V) (G H : Hp), Same G H → Mem G H M → All2 G Rs xs → ∀ Q : VK, (∀ v G' H', Grow G H G' H' → R.p G' v → Q v H') → r xs H Q
/-- the same where a new object is given -/
def OpN (M : List Cell) (Ra Rb : Rp) (r : L2.R2) (W : Wp) : Prop := ∀ (x y : V) (G H : Hp), Same G H → Mem G H M → Ra.p G x → Rb.p G y → ∀ Q : VK, (∀ p o G' H', Grow G H G' H' → G' p = none → H p = none → H' p = some o → W.w G' o → Q (.ref p) H') → r x y H Q
def ClN (M : List Cell) (Rs : List Rp) (r : List V → Hp → VK → Prop) (W : Wp) : Prop := ∀ (xs : List V) (G H : Hp), Same G H → Mem G H M → All2 G Rs xs → ∀ Q : VK, (∀ p o G' H', Grow G H G' H' → G' p = none → H p = none → H' p = some o → W.w G' o → Q (.ref p) H') → r xs H Q
theorem de_op {op : Operator} {r : L2.R2} (ho : OpR X (binaryOp op) r) (ha : DE X B ρ M a Ra) (hb : DE X B ρ M b Rb) (hr : Opv M Ra Rb r R) : DE X B ρ M (.BinOp a op b pos) R := fun σ G H s Q q =>
  sem_e (pe_op ho pe_sem pe_sem) (de_2 ha hb s fun x y G1 H1 g1 r1 r2 => hr x y G1 H1 g1.sub (s.mem.grow g1) r1 r2 Q fun v G2 H2 g2 h => q v G2 H2 (g1.trans g2) h)
theorem ne_op {op : Operator} {r : L2.R2} (ho : OpR X (binaryOp op) r) (ha : DE X B ρ M a Ra) (hb : DE X B ρ M b Rb) (hr : OpN M Ra Rb r W) : NE X B ρ M (.BinOp a op b pos) W := fun σ G H s Q q =>
  sem_e (pe_op ho pe_sem pe_sem) (de_2 ha hb s fun x y G1 H1 g1 r1 r2 => hr x y G1 H1 g1.sub (s.mem.grow g1) r1 r2 Q fun p o G2 H2 g2 h1 h2 h3 h4 => q p o G2 H2 (g1.trans g2) h1 (g1.hh.free h2) h3 h4)
theorem de_cmp {op : CmpOp} {r : L2.R2} (ho : OpR X (compareOp op) r) (ha : DE X B ρ M a Ra) (hb : DE X B ρ M b Rb) (hr : Opv M Ra Rb r R) (hm : behindInMarks op b = false := by first | exact nomark _ | rfl) : DE X B ρ M (.Compare a [op] [b] pos) R := fun σ G H s Q q =>
  sem_e (pe_cmpR ho pe_sem pe_sem hm) (de_2 ha hb s fun x y G1 H1 g1 r1 r2 => hr x y G1 H1 g1.sub (s.mem.grow g1) r1 r2 Q fun v G2 H2 g2 h => q v G2 H2 (g1.trans g2) h)
theorem dt_cmp {op : CmpOp} {r : L2.R2} {c : Bool} (ho : OpR X (compareOp op) r) (ha : DE X B ρ M a Ra) (hb : DE X B ρ M b Rb) (hr : Opv M Ra Rb r (rB c)) (hm : behindInMarks op b = false := by first | exact nomark _ | rfl) : DT X B ρ M (.Compare a [op] [b] pos) c := fun σ G H s Q q =>
  sem_t (pt_cmpR ho pe_sem pe_sem hm) (de_2 ha hb s fun x y G1 H1 g1 r1 r2 => hr x y G1 H1 g1.sub (s.mem.grow g1) r1 r2 _ fun v G2 H2 g2 h => ⟨c, h, q G2 H2 (g1.trans g2)⟩)
theorem de_un {op : UnaryOp} {r : V → Hp → VK → Prop} (ho : UnR X (unaryOp op) r) (ha : DE X B ρ M a Ra) (hr : Unv M Ra r R) : DE X B ρ M (.UnaryOp op a pos) R := fun σ G H s Q q =>
  sem_e (pe_un ho pe_sem) (ha σ G H s _ fun x G1 H1 g1 r1 => hr x G1 H1 g1.sub (s.mem.grow g1) r1 Q fun v G2 H2 g2 h => q v G2 H2 (g1.trans g2) h)
theorem de_ix {r : L2.R2} (ho : IxR X r) (ha : DE X B ρ M a Ra) (hb : DE X B ρ M b Rb) (hr : Opv M Ra Rb r R) (hs : PlainIx b := by exact fun _ _ => rfl) : DE X B ρ M (.Subscript a b pos) R := fun σ G H s Q q =>
  sem_e (pe_ix ho pe_sem pe_sem hs) (de_2 ha hb s fun x y G1 H1 g1 r1 r2 => hr x y G1 H1 g1.sub (s.mem.grow g1) r1 r2 Q fun v G2 H2 g2 h => q v G2 H2 (g1.trans g2) h)

/-! ### tests -/
/-- an expression that gives a bool, as a test -/
theorem dt_val {c : Bool} (h : DE X B ρ M e (rB c)) (he : ∀ whole, isTrue e X.env whole = (do let v ← whole; standAt e.pos; holding [v] (truthy v)) := by intro _; rfl) : DT X B ρ M e c := fun σ G H s Q q =>
  sem_t (pt_val pe_sem he) (h σ G H s _ fun v G1 H1 g1 r1 => ⟨c, r1, q G1 H1 g1⟩)
theorem dt_not {c : Bool} (h : DT X B ρ M e c) : DT X B ρ M (.UnaryOp .Not e pos) (!c) := fun σ G H s Q q => sem_t (pt_not pt_sem) (h σ G H s _ fun G1 H1 g1 => q G1 H1 g1)
theorem de_not {c : Bool} (h : DE X B ρ M e (rB c)) : DE X B ρ M (.UnaryOp .Not e pos) (rB (!c)) := fun σ G H s Q q => sem_e (pe_not pe_sem) (h σ G H s _ fun v G1 H1 g1 r1 => ⟨c, r1, q _ G1 H1 g1 rfl⟩)
/-- and, or: as tests with any whole -/
def DW (X : Cx) (B : Base) (ρ : Sl) (M : List Cell) (e : Expr) (c : Bool) : Prop := ∃ t : TT, PW X e t ∧ ∀ (σ : L2.St) (G H : Hp), Stt B ρ M σ G H → ∀ Q : Bool → Hp → Prop, (∀ G' H', Grow G H G' H' → Q c H') → t σ H Q
theorem dw_and1 {c : Bool} (h : DT X B ρ M a c) : DW X B ρ M (.BoolOp .And [a] pos) c := ⟨_, pw_and1 pt_sem, fun σ G H s Q q => h σ G H s Q q⟩
theorem dw_or1 {c : Bool} (h : DT X B ρ M a c) : DW X B ρ M (.BoolOp .Or [a] pos) c := ⟨_, pw_or1 pt_sem, fun σ G H s Q q => h σ G H s Q q⟩
theorem dw_and {c d : Bool} {rest : List Expr} (h : DT X B ρ M a c) (k : c = true → DW X B ρ M (.BoolOp .And (b :: rest) pos) d) : DW X B ρ M (.BoolOp .And (a :: b :: rest) pos) (c && d) := by
  cases c with
  | true =>
    obtain ⟨t, pw, ht⟩ := k rfl
    exact ⟨_, pw_and pt_sem pw, fun σ G H s Q q => h σ G H s _ fun G1 H1 g1 => iteT (ht σ G1 H1 (s.grow g1) Q fun G2 H2 g2 => q G2 H2 (g1.trans g2))⟩
  | false => exact ⟨_, pw_and (tB' := fun _ _ _ => False) pt_sem ⟨fun _ _ _ _ _ _ _ z => z.elim⟩, fun σ G H s Q q => h σ G H s _ fun G1 H1 g1 => iteF (q G1 H1 g1)⟩
theorem dw_or {c d : Bool} {rest : List Expr} (h : DT X B ρ M a c) (k : c = false → DW X B ρ M (.BoolOp .Or (b :: rest) pos) d) : DW X B ρ M (.BoolOp .Or (a :: b :: rest) pos) (c || d) := by
  cases c with
  | false =>
    obtain ⟨t, pw, ht⟩ := k rfl
    exact ⟨_, pw_or pt_sem pw, fun σ G H s Q q => h σ G H s _ fun G1 H1 g1 => iteF (ht σ G1 H1 (s.grow g1) Q fun G2 H2 g2 => q G2 H2 (g1.trans g2))⟩
  | true => exact ⟨_, pw_or (tB' := fun _ _ _ => False) pt_sem ⟨fun _ _ _ _ _ _ _ z => z.elim⟩, fun σ G H s Q q => h σ G H s _ fun G1 H1 g1 => iteT (q G1 H1 g1)⟩
theorem DW.dt {c : Bool} (h : DW X B ρ M e c) : DT X B ρ M e c := fun σ G H s Q q => let ⟨_, pw, ht⟩ := h; sem_t pw.pt (ht σ G H s Q q)
/-- .. as values, all but the last bools -/
theorem de_one {op : PySem.BoolOp} (h : DE X B ρ M a R) : DE X B ρ M (.BoolOp op [a] pos) R := fun σ G H s Q q => sem_e (pe_one pe_sem) (h σ G H s Q q)
theorem de_and {c : Bool} {rest : List Expr} (h : DE X B ρ M a (rB c)) (k : c = true → DE X B ρ M (.BoolOp .And (b :: rest) pos) R) (k0 : c = false → R = rB false) : DE X B ρ M (.BoolOp .And (a :: b :: rest) pos) R := fun σ G H s Q q =>
  sem_e (pe_and pe_sem pe_sem) (h σ G H s _ fun v G1 H1 g1 r1 => ⟨c, r1, by
    cases c with
    | true => exact iteT (k rfl σ G1 H1 (s.grow g1) Q fun v G2 H2 g2 r => q v G2 H2 (g1.trans g2) r)
    | false => exact iteF (q _ G1 H1 g1 (by rw [k0 rfl]; exact rfl))⟩)
theorem de_ifE {c : Expr} {d : Bool} (hc : DT X B ρ M c d) (ha : d = true → DE X B ρ M a R) (hb : d = false → DE X B ρ M b R) : DE X B ρ M (.IfExp c a b pos) R := fun σ G H s Q q =>
  sem_e (pe_ifExp pt_sem pe_sem pe_sem) (hc σ G H s _ fun G1 H1 g1 => by
    cases d with
    | true => exact iteT (ha rfl σ G1 H1 (s.grow g1) Q fun v G2 H2 g2 r => q v G2 H2 (g1.trans g2) r)
    | false => exact iteF (hb rfl σ G1 H1 (s.grow g1) Q fun v G2 H2 g2 r => q v G2 H2 (g1.trans g2) r))

/-! ### arguments, displays -/
theorem da_nil : DA X B ρ M [] [] := fun σ G H s Q q => sem_a pa_nil (q [] G H (Grow.refl s.sub) .nil)
theorem da_cons {Rs : List Rp} (he : DE X B ρ M e R) (hr : DA X B ρ M es Rs) (hs : starEach (e :: es) X.env = (false, eval e X.env) :: starEach es X.env := by rfl) : DA X B ρ M (e :: es) (R :: Rs) := fun σ G H s Q q =>
  sem_a (pa_cons pe_sem pa_sem hs) (he σ G H s _ fun v G1 H1 g1 r1 => hr σ G1 H1 (s.grow g1) _ fun vs G2 H2 g2 r2 => q (v :: vs) G2 H2 (g1.trans g2) (.cons (R.mono g2.gg r1) r2))
theorem new_grow {G H : Hp} (s : Same G H) {p : Addr} {o : HO} (h : H p = none) : Grow G H G (upd H p o) ∧ G p = none :=
  ⟨⟨Same.refl G, fun b u q => by rw [upd_ne (ne_of_none (s b u q) h)]; exact s b u q, fun b u q => by rw [upd_ne (ne_of_none q h)]; exact q, fun _ _ q => .inl q⟩, s.free h⟩
theorem small5 {n : Nat} (h : n ≤ 100000) : n ≤ sizeLine := Nat.le_trans h (by decide)
theorem small5' {n : Nat} (h : n < 100000) : n < sizeLine := Nat.lt_of_lt_of_le h (by decide)
theorem ne_lst {Rs : List Rp} (h : DA X B ρ M es Rs) (hz : Rs.length ≤ 100000) : NE X B ρ M (.List es pos) (wL Rs) := fun σ G H s Q q =>
  sem_e (pe_lst pa_sem) (h σ G H s _ fun vs G1 H1 g1 r1 => ⟨small5 (r1.len ▸ hz), fun p hp => by
    obtain ⟨g2, hg⟩ := new_grow (o := .lst vs) g1.sub hp
    exact q p _ _ _ (g1.trans g2) hg (g1.hh.free hp) upd_same ⟨vs, rfl, r1⟩⟩)
theorem ne_tup {Rs : List Rp} {x1 : Nat} (h : DA X B ρ M es Rs) (hz : Rs.length ≤ 100000) : NE X B ρ M (.Tuple es x1 pos) (wT Rs) := fun σ G H s Q q =>
  sem_e (pe_tup pa_sem) (h σ G H s _ fun vs G1 H1 g1 r1 => ⟨small5 (r1.len ▸ hz), fun p hp => by
    obtain ⟨g2, hg⟩ := new_grow (o := .tup vs) g1.sub hp
    exact q p _ _ _ (g1.trans g2) hg (g1.hh.free hp) upd_same ⟨vs, rfl, r1⟩⟩)

/-! ### built-ins by name -/
variable {x : Str} {p : Pos} {id T : String} {r : List V → Hp → VK → Prop} {Rs : List Rp}
theorem de_callB (hc : CallR X (.builtin id) r) (hm : X.mg x = none) (hv : bootBuiltins x = some (.builtin id)) (ha : DA X B ρ M (e :: es) Rs) (hr : Clv M Rs r R) (hg : Gl X x := by rfl) (hn : x ≠ "__name__" := by decide) (hdb : (x == ("__debug__" : Str)) = false := by decide)
    (he : starEach (e :: es) X.env = (false, eval e X.env) :: starEach es X.env := by rfl) (hpl : (backTo pos (starEach es X.env)).any (·.1) = false := by rfl) : DE X B ρ M (.Call (.Name x p) (e :: es) [] pos) R := fun σ G H s Q q =>
  sem_e (pe_callB hc hg hm hv pa_sem hn hdb he hpl) (ha σ G H s _ fun vs G1 H1 g1 r1 => hr vs G1 H1 g1.sub (s.mem.grow g1) r1 Q fun v G2 H2 g2 h => q v G2 H2 (g1.trans g2) h)
theorem de_callTy (hc : CallR X (.type T) r) (hm : X.mg x = none) (hv : bootBuiltins x = some (.type T)) (ha : DA X B ρ M (e :: es) Rs) (hr : Clv M Rs r R) (hg : Gl X x := by rfl) (hn : x ≠ "__name__" := by decide) (hdb : (x == ("__debug__" : Str)) = false := by decide)
    (he : starEach (e :: es) X.env = (false, eval e X.env) :: starEach es X.env := by rfl) (hpl : (backTo pos (starEach es X.env)).any (·.1) = false := by rfl) : DE X B ρ M (.Call (.Name x p) (e :: es) [] pos) R := fun σ G H s Q q =>
  sem_e (pe_callTy hc hg hm hv pa_sem hn hdb he hpl) (ha σ G H s _ fun vs G1 H1 g1 r1 => hr vs G1 H1 g1.sub (s.mem.grow g1) r1 Q fun v G2 H2 g2 h => q v G2 H2 (g1.trans g2) h)
theorem ne_callTy (hc : CallR X (.type T) r) (hm : X.mg x = none) (hv : bootBuiltins x = some (.type T)) (ha : DA X B ρ M (e :: es) Rs) (hr : ClN M Rs r W) (hg : Gl X x := by rfl) (hn : x ≠ "__name__" := by decide) (hdb : (x == ("__debug__" : Str)) = false := by decide)
    (he : starEach (e :: es) X.env = (false, eval e X.env) :: starEach es X.env := by rfl) (hpl : (backTo pos (starEach es X.env)).any (·.1) = false := by rfl) : NE X B ρ M (.Call (.Name x p) (e :: es) [] pos) W := fun σ G H s Q q =>
  sem_e (pe_callTy hc hg hm hv pa_sem hn hdb he hpl) (ha σ G H s _ fun vs G1 H1 g1 r1 => hr vs G1 H1 g1.sub (s.mem.grow g1) r1 Q fun p o G2 H2 g2 h1 h2 h3 h4 => q p o G2 H2 (g1.trans g2) h1 (g1.hh.free h2) h3 h4)
end
end KL

/-! KSt -/
/-! Statements, contracts, calls. -/
namespace KL
open PySem PySem.Spec PyProof.Rows L2

theorem perm_erase {α : Type} : ∀ {M : List α} {j : Nat} {c : α}, M[j]? = some c → M.Perm (c :: M.eraseIdx j)
  | [], _, _, h => by simp at h
  | a :: M, 0, c, h => by
    have e : a = c := by simpa using h
    subst e
    exact List.Perm.refl _
  | a :: M, j + 1, c, h => by
    have ih := perm_erase (M := M) (j := j) (c := c) (by simpa using h)
    rw [List.eraseIdx_cons_succ]
    exact (ih.cons a).trans (List.Perm.swap c a _)

section
variable {X : Cx} {B : Base} {ρ : Sl} {M : List Cell} {e : Expr} {st : Stmt} {rest : List Stmt} {R : Rp} {W : Wp} {pos p' : Pos} {D : Ends}
theorem tr_nil (h : ∀ σ G H, Stt B ρ M σ G H → D.nx σ H) : Tr X B ρ M [] D := fun σ G H s => sem_ss pss_nil (h σ G H s)
theorem tr_sem (h : ∀ σ G H, Stt B ρ M σ G H → SemS X st { D with nx := SemSs X rest D } σ H) : Tr X B ρ M (st :: rest) D := fun σ G H s => sem_ss (pss_cons ps_sem pss_sem) (h σ G H s)
/-- behind a block: the rest -/
theorem tr_go {rt' : VK} {bk' ct' : L2.St → Hp → Prop} (h : Tr X B ρ M rest D) : Tr X B ρ M [] ⟨SemSs X rest D, rt', bk', ct'⟩ := tr_nil fun σ G H s => h σ G H s
theorem Tr.less {ρ' : Sl} (h : Tr X B ρ' M rest D) (l : Less ρ' ρ) : Tr X B ρ M rest D := fun σ G H s => h σ G H (s.less l)
theorem Tr.drop {M' : List Cell} (h : Tr X B ρ M' rest D) (l : M'.Sublist M) : Tr X B ρ M rest D := fun σ G H s => h σ G H (s.drop l)
theorem Tr.perm {M' : List Cell} (h : Tr X B ρ M' rest D) (l : M.Perm M') : Tr X B ρ M rest D := fun σ G H s => h σ G H (s.perm l)

/-! ### x = e -/
theorem tr_set (i : Nat) {x : Str} (nd : X.N.Nodup) (he : DE X B ρ M e R) (k : Tr X B (ρ.set i (some R)) M rest D) (hi : X.N[i]? = some x := by rfl) (hx : Loc X.env.scope x := by first | exact .inl rfl | exact .inr rfl)
    (hs : swapsWith e (some (.Name x p')) pos.line X.env = pure false := by rfl) (hf : X.fn x = true ∨ X.env.scope.names.lookup x = some .local := by first | exact .inl rfl | exact .inr rfl | assumption) : Tr X B ρ M (.Assign [.Name x p'] e pos :: rest) D :=
  tr_sem fun σ G H s => sem_s (ps_set nd hi hx pe_sem hs hf) (he σ G H s _ fun v G' H' g r => k _ G' H' ((s.grow g).set r))
theorem tr_setX (i : Nat) {x : Str} {α : Type} {P : α → Prop} {S : α → Rp} {M' : α → List Cell} (nd : X.N.Nodup) (he : XE X B ρ M e P S M') (k : ∀ z, P z → Tr X B (ρ.set i (some (S z))) (M' z) rest D) (hi : X.N[i]? = some x := by rfl) (hx : Loc X.env.scope x := by first | exact .inl rfl | exact .inr rfl)
    (hs : swapsWith e (some (.Name x p')) pos.line X.env = pure false := by rfl) (hf : X.fn x = true ∨ X.env.scope.names.lookup x = some .local := by first | exact .inl rfl | exact .inr rfl | assumption) : Tr X B ρ M (.Assign [.Name x p'] e pos :: rest) D :=
  tr_sem fun σ G H s => sem_s (ps_set nd hi hx pe_sem hs hf) (he σ G H s _ fun z v G' H' hp _ s' r => k z hp _ G' H' (s'.set r))
theorem own_new [NT W] {σ : L2.St} {G H G' H' : Hp} {p : Addr} {o : HO} (s : Stt B ρ M σ G H) (g : Grow G H G' H') (hg : G' p = none) (hh : H p = none) (hp : H' p = some o) (hw : W.w G' o) : Stt B ρ (M ++ [cOf p W]) σ G' H' := by
  have s' := s.grow g
  refine (s'.own (c := cOf p W) ⟨o, hp, hw⟩ fun a ha => ?_).perm (List.perm_append_comm (l₁ := [cOf p W]))
  have e : a = p := by simpa [cOf] using ha
  subst e
  exact ⟨hg, (by rw [hp]; exact (fun z => nomatch z)), fun d hd had => s.mem.there d hd a had hh⟩
/-- x = e, e a new object that stays x's own -/
theorem tr_own [NT W] (i : Nat) {x : Str} (nd : X.N.Nodup) (he : NE X B ρ M e W) (k : ∀ a, B.H a = none → Tr X B (ρ.set i (some (rV (.ref a)))) (M ++ [cOf a W]) rest D) (hi : X.N[i]? = some x := by rfl) (hx : Loc X.env.scope x := by first | exact .inl rfl | exact .inr rfl)
    (hs : swapsWith e (some (.Name x p')) pos.line X.env = pure false := by rfl) (hf : X.fn x = true ∨ X.env.scope.names.lookup x = some .local := by first | exact .inl rfl | exact .inr rfl | assumption) : Tr X B ρ M (.Assign [.Name x p'] e pos :: rest) D :=
  tr_sem fun σ G H s => sem_s (ps_set nd hi hx pe_sem hs hf) (he σ G H s _ fun p o G' H' g hg hh hp hw => k p (s.none_of hh) _ G' H' ((own_new s g hg hh hp hw).set rfl))
/-- a ghost step: the cell becomes data -/
theorem tr_pub [NT W] (i j : Nat) {a : Addr} (hb : B.H a = none) (hi : ρ[i]? = some (some (rV (.ref a)))) (hj : M[j]? = some (cOf a W)) (k : Tr X B (ρ.set i (some (rOf W))) (M.eraseIdx j) rest D) : Tr X B ρ M rest D := fun σ G H s => by
  have s1 := s.perm (perm_erase hj)
  obtain ⟨o, ho, hw⟩ := s1.mem.ok _ List.mem_cons_self
  have s2 := s1.pub (a := a) (o := o) (by simp [cOf]) ho hb
  obtain ⟨v, hv, e⟩ := s.slots.at_ i _ hi
  have e : v = .ref a := e
  subst e
  have ss : Same G (upd G a o) := fun b u q => by rw [upd_ne (ne_of_none q (s1.mem.out _ List.mem_cons_self a (by simp [cOf])))]; exact q
  have hset : σ.set i (some (V.ref a)) = σ := by
    obtain ⟨hl, e⟩ := List.getElem?_eq_some_iff.mp hv
    rw [← e]; exact List.set_getElem_self hl
  have s3 := s2.set (i := i) (r := rOf W) (v := .ref a) ⟨a, o, rfl, upd_same, W.mono ss hw⟩
  rw [hset] at s3
  exact k _ _ _ s3

/-! ### e; return -/
theorem tr_drop (he : DE X B ρ M e R) (k : Tr X B ρ M rest D) (hs : swapsWith e none pos.line X.env = pure false := by rfl) : Tr X B ρ M (.Expr e pos :: rest) D :=
  tr_sem fun σ G H s => sem_s (ps_expr pe_sem hs) (he σ G H s _ fun v G' H' g r => k _ G' H' (s.grow g))
theorem tr_dropX {α : Type} {P : α → Prop} {S : α → Rp} {M' : α → List Cell} (he : XE X B ρ M e P S M') (k : ∀ z, P z → Tr X B ρ (M' z) rest D) (hs : swapsWith e none pos.line X.env = pure false := by rfl) : Tr X B ρ M (.Expr e pos :: rest) D :=
  tr_sem fun σ G H s => sem_s (ps_expr pe_sem hs) (he σ G H s _ fun z v G' H' hp _ s' r => k z hp _ G' H' s')
theorem tr_doc {x : Str} {j : Nat} (k : Tr X B ρ M rest D) : Tr X B ρ M (.Expr (.Constant (.str x) j p') pos :: rest) D := tr_sem fun σ G H s => sem_s ps_doc (k σ G H s)
theorem tr_ret (he : DE X B ρ M e R) (k : ∀ v σ G H, Stt B ρ M σ G H → R.p G v → D.rt v H) : Tr X B ρ M (.Return (some e) pos :: rest) D :=
  tr_sem fun σ G H s => sem_s (ps_ret pe_sem) (he σ G H s _ fun v G' H' g r => k v σ G' H' (s.grow g) r)
theorem tr_retX {α : Type} {P : α → Prop} {S : α → Rp} {M' : α → List Cell} (he : XE X B ρ M e P S M') (k : ∀ z v σ G H, P z → Stt B ρ (M' z) σ G H → (S z).p G v → D.rt v H) : Tr X B ρ M (.Return (some e) pos :: rest) D :=
  tr_sem fun σ G H s => sem_s (ps_ret pe_sem) (he σ G H s _ fun z v G' H' hp _ s' r => k z v σ G' H' hp s' r)

/-! ### if -/
theorem tr_if {c : Expr} {b : Bool} {sa sb : List Stmt} (ht : DT X B ρ M c b) (h1 : b = true → Tr X B ρ M sa { D with nx := SemSs X rest D }) (h0 : b = false → Tr X B ρ M sb { D with nx := SemSs X rest D }) : Tr X B ρ M (.If c sa sb pos :: rest) D :=
  tr_sem fun σ G H s => sem_s (ps_if pt_sem pss_sem pss_sem) (ht σ G H s _ fun G' H' g => by
    cases b with
    | true => exact iteT (h1 rfl σ G' H' (s.grow g))
    | false => exact iteF (h0 rfl σ G' H' (s.grow g)))
theorem tr_ifX {c : Expr} {α : Type} {P : α → Prop} {b : α → Bool} {M' : α → List Cell} {sa sb : List Stmt} (ht : XT X B ρ M c P b M') (h1 : ∀ z, P z → b z = true → Tr X B ρ (M' z) sa { D with nx := SemSs X rest D }) (h0 : ∀ z, P z → b z = false → Tr X B ρ (M' z) sb { D with nx := SemSs X rest D }) :
    Tr X B ρ M (.If c sa sb pos :: rest) D :=
  tr_sem fun σ G H s => sem_s (ps_if pt_sem pss_sem pss_sem) (ht σ G H s _ fun z G' H' hp _ s' => by
    cases hb : b z with
    | true => exact iteT (h1 z hp hb σ G' H' s')
    | false => exact iteF (h0 z hp hb σ G' H' s'))

/-! ### while -/
theorem tr_while {S : Type} {c : Expr} {body : List Stmt} (hp : PassesOwn (model X.prog X.w) X.A X.env X.xe) (ρs : S → Sl) (Ms : S → List Cell) (J : S → Prop) (μ : S → Nat) (b : S → Bool) (s0 : S) (j0 : J s0) (l0 : Less (ρs s0) ρ) (m0 : Ms s0 = M)
    (test : ∀ s, J s → DT X B (ρs s) (Ms s) c (b s))
    (turn : ∀ s, J s → b s = true → ∀ D' : Ends, (∀ s', J s' → μ s' < μ s → ∀ σ G H, Stt B (ρs s') (Ms s') σ G H → D'.nx σ H) → D'.rt = D.rt → Tr X B (ρs s) (Ms s) body D')
    (done : ∀ s, J s → b s = false → Tr X B (ρs s) (Ms s) rest D) : Tr X B ρ M (.While c body [] pos :: rest) D :=
  tr_sem fun σ G H s => sem_s (ps_while hp pt_sem pss_sem) ⟨fun m σ H => ∃ z G, J z ∧ m = μ z ∧ Stt B (ρs z) (Ms z) σ G H, ⟨_, s0, G, j0, rfl, by rw [m0]; exact s.less l0⟩, by
    rintro m σ1 H1 ⟨z, G1, jz, rfl, s1⟩
    refine test z jz σ1 G1 H1 s1 _ fun G2 H2 g2 => ?_
    cases hb : b z with
    | true =>
      refine iteT (show ∃ N : L2.St → Hp → Prop, _ from ⟨fun σ' H' => ∃ z' G', J z' ∧ μ z' < μ z ∧ Stt B (ρs z') (Ms z') σ' G' H', fun σ' H' ⟨z', G', h1, h2, h3⟩ => ⟨_, h2, z', G', h1, rfl, h3⟩, ?_⟩)
      exact turn z jz hb ⟨fun σ' H' => ∃ z' G', J z' ∧ μ z' < μ z ∧ Stt B (ρs z') (Ms z') σ' G' H', D.rt, SemSs X rest D, fun σ' H' => ∃ z' G', J z' ∧ μ z' < μ z ∧ Stt B (ρs z') (Ms z') σ' G' H'⟩ (fun z' h1 h2 σ G H h3 => ⟨z', G, h1, h2, h3⟩) rfl σ1 G2 H2 (s1.grow g2)
    | false => exact iteF (done z jz hb σ1 G2 H2 (s1.grow g2))⟩

/-! ### what is walked: a list or a tuple -/
def Walked (J : It) (hs : Hp → List V → Prop) : Prop :=
  (∀ i H vs x, hs H vs → vs[i]? = some x → J.go i H) ∧ (∀ i H vs, hs H vs → vs.length ≤ i → J.stop i H) ∧ (∀ i H x H', J.yld i H x H' → H' = H ∧ ∀ vs, hs H vs → vs[i]? = some x)
theorem walked_l {K : PySem.W.Frag} {a : Addr} : Walked (Itl K a) fun H vs => H a = some (.lst vs) :=
  ⟨fun i H vs x h e => ⟨vs, x, .of h, e⟩, fun i H vs h e => ⟨vs, .of h, e⟩, fun i H x H' ⟨e, y⟩ => ⟨e, fun vs h => y vs (.of h)⟩⟩
theorem walked_t {K : PySem.W.Frag} {a : Addr} : Walked (Itt K a) fun H vs => H a = some (.tup vs) :=
  ⟨fun i H vs x h e => ⟨vs, x, .of h, e⟩, fun i H vs h e => ⟨vs, .of h, e⟩, fun i H x H' ⟨e, y⟩ => ⟨e, fun vs h => y vs (.of h)⟩⟩
/-- iterating over a list or a tuple at a -/
def iSeq (tl : TE) : TI := fun σ H R => tl σ H fun x H1 => ∃ (a : Addr) (mk : List V → HO) (vs : List V), x = .ref a ∧ (mk = HO.lst ∨ mk = HO.tup) ∧ H1 a = some (mk vs) ∧ ∀ J, Walked J (fun H vs => H a = some (mk vs)) → R J H1
theorem pi_seq {tg l : Expr} {tl : TE} (hl : PE X l tl) : PI X tg l (iSeq tl) := by
  refine ⟨fun pins s σ H R I h => ?_⟩
  refine thn (hl.run pins s σ H _ I h) fun v s1 ⟨x, H1, I1, r1, q1⟩ => ?_
  obtain ⟨a, mk, vs, e, hmk, ho, q⟩ := q1
  subst e
  cases r1
  rcases hmk with rfl | rfl
  · obtain ⟨its, rv, p, hz⟩ := I1.list (SqL.of ho)
    refine wpAny_pyIter_list p.isList ?_
    refine ⟨s1.heap.objs.size, [s1.heap.objs.size], _, _, H1, rfl, I1.kept (t' := s1.toks) fun b o e => Heap.get?_push_of_some _ e, turn_list a _, ⟨_, Heap.get?_push_size _ rfl, rfl, rfl⟩, fun b hb => ?_, q _ walked_l⟩
    have e : b = s1.heap.objs.size := by simpa using hb
    subst e
    exact I1.fpOk (Nat.le_refl _) (I1.hok.fresh (Nat.le_refl _))
  · obtain ⟨its, rv, p, hz⟩ := I1.tuple (SqT.of ho)
    refine wpAny_pyIter_tuple (show s1.heap.IsTuple a its.toArray from p) ?_
    refine ⟨s1.heap.objs.size, [s1.heap.objs.size], _, _, H1, rfl, I1.kept (t' := s1.toks) fun b o e => Heap.get?_push_of_some _ e, turn_tuple a _, ⟨_, Heap.get?_push_size _ rfl, rfl, rfl⟩, fun b hb => ?_, q _ walked_t⟩
    have e : b = s1.heap.objs.size := by simpa using hb
    subst e
    exact I1.fpOk (Nat.le_refl _) (I1.hok.fresh (Nat.le_refl _))
theorem for_seq {J : It} {hs : Hp → List V → Prop} (w : Walked J hs) {n : Nat} {g : TG} {tb : TS} {D : Ends} {σ : L2.St} {H : Hp} (Pv : Nat → L2.St → Hp → Prop) (h0 : Pv 0 σ H) (hl : ∀ i σ H, i ≤ n → Pv i σ H → ∃ vs, hs H vs ∧ vs.length = n)
    (ht : ∀ i x vs σ H, i < n → hs H vs → vs[i]? = some x → Pv i σ H → g x σ H fun σ2 H2 => tb { D with nx := Pv (i + 1), ct := Pv (i + 1), bk := D.nx } σ2 H2) (hd : ∀ σ H, Pv n σ H → D.nx σ H) :
    ∃ W : Nat → Nat → L2.St → Hp → Prop, (∃ m, W 0 m σ H) ∧ ∀ i m σ H, W i m σ H →
      (J.stop i H ∧ D.nx σ H) ∨ (J.go i H ∧ ∃ N : L2.St → Hp → Prop, (∀ σ' H', N σ' H' → ∃ m', m' < m ∧ W (i + 1) m' σ' H') ∧ ∀ x H', J.yld i H x H' → g x σ H' fun σ2 H2 => tb { D with nx := N, ct := N, bk := D.nx } σ2 H2) := by
  refine ⟨fun i m σ H => m = n - i ∧ i ≤ n ∧ Pv i σ H, ⟨n, by simp, Nat.zero_le _, h0⟩, ?_⟩
  rintro i m σ H ⟨rfl, hi, p⟩
  obtain ⟨vs, hv, hn⟩ := hl i σ H hi p
  by_cases hlt : i < n
  · refine .inr ⟨w.1 i H vs vs[i] hv (by simp [hn, hlt]), Pv (i + 1), fun σ' H' p' => ⟨n - (i + 1), by omega, rfl, hlt, p'⟩, fun x H' y => ?_⟩
    obtain ⟨e, y⟩ := w.2.2 i H x H' y
    subst e
    exact ht i x vs σ _ hlt hv (y vs hv) p
  · have e : i = n := by omega
    subst e
    exact .inl ⟨w.2.1 _ H vs hv (by omega), hd σ H p⟩
/-- R stands for a list or a tuple with the items rs, wherever the cells are as MP says -/
def SVp (MP : Hp → Hp → Prop) (R : Rp) (rs : List Rp) : Prop := ∀ G H v, Same G H → MP G H → R.p G v → ∃ a mk, v = .ref a ∧ (mk = HO.lst ∨ mk = HO.tup) ∧ ∀ G' H', Same G G' → Same G' H' → MP G' H' → ∃ vs, H' a = some (mk vs) ∧ All2 G' rs vs
theorem sv_l {MP : Hp → Hp → Prop} {rs : List Rp} : SVp MP (rL rs) rs := fun G H v s _ ⟨a, o, e, h, vs, eo, t⟩ => ⟨a, HO.lst, e, .inl rfl, fun G' H' s1 s2 _ => ⟨vs, by rw [← eo]; exact s2 _ _ (s1 _ _ h), t.mono s1⟩⟩
theorem sv_t {MP : Hp → Hp → Prop} {rs : List Rp} : SVp MP (rT rs) rs := fun G H v s _ ⟨a, o, e, h, vs, eo, t⟩ => ⟨a, HO.tup, e, .inr rfl, fun G' H' s1 s2 _ => ⟨vs, by rw [← eo]; exact s2 _ _ (s1 _ _ h), t.mono s1⟩⟩
/-- a list or a tuple -/
def wS (rs : List Rp) : Wp := ⟨fun G o => ∃ vs, (o = .lst vs ∨ o = .tup vs) ∧ All2 G rs vs, fun s ⟨vs, e, t⟩ => ⟨vs, e, t.mono s⟩⟩
abbrev rSq (rs : List Rp) : Rp := rOf (wS rs)
theorem sv_s {MP : Hp → Hp → Prop} {rs : List Rp} : SVp MP (rSq rs) rs := fun G H v s _ ⟨a, o, e, h, vs, eo, t⟩ => by
  rcases eo with eo | eo
  · exact ⟨a, HO.lst, e, .inl rfl, fun G' H' s1 s2 _ => ⟨vs, by rw [← eo]; exact s2 _ _ (s1 _ _ h), t.mono s1⟩⟩
  · exact ⟨a, HO.tup, e, .inr rfl, fun G' H' s1 s2 _ => ⟨vs, by rw [← eo]; exact s2 _ _ (s1 _ _ h), t.mono s1⟩⟩
theorem sv_c {MP : Hp → Hp → Prop} {a : Addr} {rs : List Rp} (h : ∀ G H, MP G H → (cL a rs).ok G H) : SVp MP (rV (.ref a)) rs := fun G H v s m e => ⟨a, HO.lst, e, .inl rfl, fun G' H' s1 s2 m' => by
  obtain ⟨o, h1, vs, h2, h3⟩ := h G' H' m'
  exact ⟨vs, by rw [← h2]; exact h1, h3⟩⟩
theorem rl_sq {rs : List Rp} {G : Hp} {v : V} (h : (rL rs).p G v) : (rSq rs).p G v := let ⟨a, o, e, h, vs, eo, t⟩ := h; ⟨a, o, e, h, vs, .inl eo, t⟩
theorem rt_sq {rs : List Rp} {G : Hp} {v : V} (h : (rT rs).p G v) : (rSq rs).p G v := let ⟨a, o, e, h, vs, eo, t⟩ := h; ⟨a, o, e, h, vs, .inr eo, t⟩

/-! ### for x in a list or a tuple -/
theorem tr_for {S α : Type} (j : Nat) {x : Str} {pj : Pos} {body : List Stmt} {Rit : Rp} (hp : PassesOwn (model X.prog X.w) X.A X.env X.xe) (nd : X.N.Nodup) (it : DE X B ρ M e Rit) (ρs : S → Sl) (Ms : S → List Cell) (J : Nat → S → Prop) (s0 : S) (xs : List α) (rf : α → Rp)
    (v : SVp (fun G H => ∃ s, Mem G H (Ms s)) Rit (xs.map rf)) (j0 : J 0 s0) (l0 : Less (ρs s0) ρ) (m0 : Ms s0 = M)
    (turn : ∀ (P : Hp → Prop) (pm : ∀ {G G' : Hp}, Same G G' → P G → P G') i z s, xs[i]? = some z → J i s → ∀ D' : Ends, (∀ s', J (i + 1) s' → ∀ σ G H, Stt (B.wp P pm) (ρs s') (Ms s') σ G H → D'.nx σ H) → D'.rt = D.rt → Tr X (B.wp P pm) ((ρs s).set j (some (rf z))) (Ms s) body D')
    (done : ∀ s, J xs.length s → Tr X B (ρs s) (Ms s) rest D) (hc : X.calm = true := by rfl) (hj : X.N[j]? = some x := by rfl) (hx : Loc X.env.scope x := by first | exact .inl rfl | exact .inr rfl)
    (hf : X.fn x = true ∨ X.env.scope.names.lookup x = some .local := by first | exact .inl rfl | exact .inr rfl | assumption) (hs : ∀ x, foldedSetIterable e X.env x = pure x := by intro _; rfl) :
    Tr X B ρ M (.For (.Name x pj) e body [] pos :: rest) D :=
  tr_sem fun σ G H s => sem_s (ps_for hp hc (pi_seq pe_sem) (pg_name nd hj hx hf) pss_sem hs) (it σ G H s _ fun u G1 H1 g1 r1 => by
    have s1 := s.grow g1
    have mp1 : ∃ s, Mem G1 H1 (Ms s) := ⟨s0, by rw [m0]; exact s1.mem⟩
    obtain ⟨a, mk, ea, hmk, hv⟩ := v G1 H1 u g1.sub mp1 r1
    obtain ⟨vs1, ho1, hr1⟩ := hv G1 H1 (Same.refl _) g1.sub mp1
    refine ⟨a, mk, vs1, ea, hmk, ho1, fun It w => ?_⟩
    have inj : ∀ {p q : List V}, mk p = mk q → p = q := fun {p q} h => by rcases hmk with rfl | rfl <;> (injection h)
    refine for_seq w (n := xs.length) (fun i σ' H' => ∃ z G', J i z ∧ Same G1 G' ∧ Stt B (ρs z) (Ms z) σ' G' H') ⟨s0, G1, j0, Same.refl _, by rw [m0]; exact s1.less l0⟩ ?_ ?_ ?_
    · rintro i σ' H' hi ⟨z, G', jz, sg, sz⟩
      obtain ⟨vs, ho, hr⟩ := hv G' H' sg sz.sub ⟨z, sz.mem⟩
      exact ⟨vs, ho, by rw [← hr.len, List.length_map]⟩
    · rintro i y vs σ' H' hi hvs hy ⟨z, G', jz, sg, sz⟩
      obtain ⟨vs2, ho2, hr2⟩ := hv G' H' sg sz.sub ⟨z, sz.mem⟩
      have e : vs = vs2 := inj (Option.some.inj (hvs.symm.trans ho2))
      subst e
      obtain ⟨r, hr, hry⟩ := hr2.get' hy
      rw [List.getElem?_map] at hr
      cases hz : xs[i]? with
      | none => rw [hz] at hr; cases hr
      | some zi =>
        rw [hz] at hr
        have er : rf zi = r := Option.some.inj hr
        subst er
        have s5 := sz.set (i := j) hry
        exact turn (fun G => B.P G ∧ Same G1 G) (fun sm q => ⟨B.pm sm q.1, q.2.trans sm⟩) i zi z hz jz ⟨fun σ' H' => ∃ z G', J (i + 1) z ∧ Same G1 G' ∧ Stt B (ρs z) (Ms z) σ' G' H', D.rt, SemSs X rest D, fun σ' H' => ∃ z G', J (i + 1) z ∧ Same G1 G' ∧ Stt B (ρs z) (Ms z) σ' G' H'⟩ (fun z' jz' σ2 G2 H2 s2 => ⟨z', G2, jz', s2.pf.2, s2.mv, s2.slots, s2.mem, s2.pf.1⟩) rfl _ G' H' ⟨s5.mv, s5.slots, s5.mem, s5.pf, sg⟩
    · rintro σ' H' ⟨z, G', jz, sg, sz⟩
      exact done z jz σ' G' H' sz)
end
end KL

/-! KCall -/
/-! Contracts of defs, calls by them. -/
namespace KL
open PySem PySem.Spec PyProof.Rows L2

structure Ct where
  γ : Type
  α : Type
  args : γ → List Rp
  mem : γ → List Cell
  W : γ → Addr → Prop
  pre : γ → Prop
  post : γ → α → Prop
  res : γ → α → Rp
  mem' : γ → α → List Cell
def Ct.sp (c : Ct) : Sp := fun vs H Q _ => ∃ (g : c.γ) (G : Hp), Same G H ∧ All2 G (c.args g) vs ∧ Mem G H (c.mem g) ∧ c.pre g ∧
  ∀ (x : c.α) (v : V) (G' H' : Hp), c.post g x → Move (c.W g) G H G' H' → Mem G' H' (c.mem' g x) → (c.res g x).p G' v → Q v H'
/-- no cells; one answer -/
abbrev Ct.fn {γ : Type} (args : γ → List Rp) (pre : γ → Prop) (res : γ → Rp) : Ct := ⟨γ, Unit, args, fun _ => [], fun _ _ => False, pre, fun _ _ => True, fun g _ => res g, fun _ _ => []⟩
/-- no cells; some answer -/
abbrev Ct.any {γ α : Type} (args : γ → List Rp) (pre : γ → Prop) (post : γ → α → Prop) (res : γ → α → Rp) : Ct := ⟨γ, α, args, fun _ => [], fun _ _ => False, pre, post, res, fun _ _ => []⟩

/-- how a body must end -/
structure Fin (c : Ct) (g : c.γ) (B : Base) (D : Ends) : Prop where
  rt : ∀ (x : c.α) (v : V) (ρ : Sl) (M : List Cell) (σ : L2.St) (G H : Hp), c.post g x → Stt B ρ M σ G H → Mem G H (c.mem' g x) → (c.res g x).p G v → D.rt v H
  nx : ∀ (x : c.α) (ρ : Sl) (M : List Cell) (σ : L2.St) (G H : Hp), c.post g x → Stt B ρ M σ G H → Mem G H (c.mem' g x) → (c.res g x).p G .non → D.nx σ H
theorem Fin.mono {c : Ct} {g : c.γ} {B : Base} {D D' : Ends} (f : Fin c g B D) (P : Hp → Prop) (pm : ∀ {G G' : Hp}, Same G G' → P G → P G') (hP : ∀ G, P G → B.P G) (h : D'.rt = D.rt) (hn : ∀ (x : c.α) (ρ : Sl) (M : List Cell) (σ : L2.St) (G H : Hp), c.post g x → Stt (B.wp P pm) ρ M σ G H → Mem G H (c.mem' g x) → (c.res g x).p G .non → D'.nx σ H) : Fin c g (B.wp P pm) D' :=
  ⟨fun x v ρ M σ G H hx s m r => by rw [h]; exact f.rt x v ρ M σ G H hx ⟨s.mv, s.slots, s.mem, hP G s.pf⟩ m r, hn⟩
def rtOf (c : Ct) (g : c.γ) (B : Base) (rt : VK) : Prop := ∀ (x : c.α) (v : V) (ρ : Sl) (M : List Cell) (σ : L2.St) (G H : Hp), c.post g x → Stt B ρ M σ G H → Mem G H (c.mem' g x) → (c.res g x).p G v → rt v H

section
variable {P : Program} {w : World} {K : PySem.W.Frag} {mg : Str → Option Value} {base : Heap}
/-- the def x keeps its contract, by at most level k -/
structure Dn (P : Program) (w : World) (K : PySem.W.Frag) (mg : Str → Option Value) (base : Heap) (x : Str) (k : Nat) (ps : List Str) (c : Ct) : Prop where
  ex : ∃ (f : Addr) (fd : FuncData), FnOk P w K mg base CX0 k f fd ps c.sp ∧ mg x = some (.ref f) ∧ PySem.W.keepIn K (.ref f) = true ∧ Binds K fd ps []
theorem Dn.mono {x : Str} {j k : Nat} {ps : List Str} {c : Ct} (F : Dn P w K mg base x j ps c) (h : j ≤ k) : Dn P w K mg base x k ps c := let ⟨f, fd, a, b, d, e⟩ := F.ex; ⟨f, fd, a.mono h, b, d, e⟩
abbrev KX (P : Program) (w : World) (K : PySem.W.Frag) (mg : Str → Option Value) (base : Heap) (N : List Str) (qual : Str) (scope : Scope) (f : Addr) (cdv : Value) (A : Around) (outer : List Env) (s : Shared) (H : Hp) (E : XK) : Cx := (cxOf CX0 P w K mg base N qual scope f cdv A outer s H E).nox
def sl0 (N : List Str) (rs : List Rp) : Sl := rs.map some ++ List.replicate (N.length - rs.length) none
theorem slots0 {N : List Str} {rs : List Rp} {vs : List V} {G : Hp} (h : All2 G rs vs) : Slots G (sl0 N rs) (L2.start N vs) := by
  refine ⟨by unfold sl0 L2.start; simp [h.len], fun i r e => ?_⟩
  unfold sl0 at e
  by_cases hi : i < rs.length
  · rw [List.getElem?_append_left (by simpa using hi), List.getElem?_map] at e
    cases q : rs[i]? with
    | none => rw [q] at e; cases e
    | some r' =>
      rw [q] at e
      have e : r' = r := Option.some.inj (Option.some.inj e)
      subst e
      obtain ⟨v, hv, hr⟩ := h.get q
      refine ⟨v, ?_, hr⟩
      unfold L2.start
      rw [List.getElem?_append_left (by rw [List.length_map, ← h.len]; exact hi), List.getElem?_map, hv]
      rfl
  · rw [List.getElem?_append_right (by simpa using hi)] at e
    rw [List.getElem?_replicate] at e
    split at e <;> cases e
/-- THE RULE: a def by its body -/
theorem fn_tr {c : Ct} {x qual : Str} {params : Arguments} {body : List Stmt} {scope : Scope} {dvs : List V} {kws : List (Str × V)} {f : Addr} {fd : FuncData} {N ps : List Str} {k : Nat} (F : FunD K x qual params body scope dvs kws f fd) (S : FnScope N ps scope) (hlen : ∀ g, (c.args g).length = ps.length)
    (hbody : ∀ (cdv : Value) (A : Around) (outer : List Env) (s : Shared) (H : Hp) (E : XK), Room k (A.deeper (envOfC qual scope s.heap.objs.size f cdv)) → ∀ g, c.pre g → ∀ (B : Base) (D : Ends), B.F = c.W g → (B.P = fun _ => True) → Fin c g B D →
      Tr (KX P w K mg base N qual scope f cdv (A := A) outer s H E) B (sl0 N (c.args g)) (c.mem g) body D) : FnOk P w K mg base CX0 (k + 1) f fd ps c.sp := by
  refine F.ok S (fun vs H Q E h => ?_) fun cdv A outer s H vs Q E hr h => ?_
  · obtain ⟨g, G, _, a, _⟩ := h
    rw [← a.len, hlen]
  · obtain ⟨g, G, sg, a, m, pre, q⟩ := h
    have t := hbody cdv A outer s H E hr g pre ⟨c.W g, G, H, fun _ => True, fun _ _ => trivial⟩ { nx := fun _ H' => Q .non H', rt := Q } rfl rfl
      ⟨fun x v ρ M σ G' H' hx st mm r => q x v G' H' hx st.mv mm r, fun x ρ M σ G' H' hx st mm r => q x .non G' H' hx st.mv mm r⟩
    exact ⟨SemSs (KX P w K mg base N qual scope f cdv A outer s H E) body, PSs.nox pss_sem, t (L2.start N vs) G H ⟨Move.refl sg, slots0 a, m, trivial⟩⟩
end

section
variable {X : Cx} {B : Base} {ρ : Sl} {M : List Cell} {e : Expr} {es : List Expr} {R : Rp} {pos p : Pos} {x : Str} {k : Nat} {ps : List Str} {c : Ct}
/-- f(..): a def that writes nothing -/
theorem de_call (F : Dn X.prog X.w X.K X.mg X.base x k ps c) (hr : Room k X.A) (g : c.γ) (ha : DA X B ρ M (e :: es) (c.args g)) (hp : c.pre g) (hR : ∀ z G v, c.post g z → (c.res g z).p G v → R.p G v) (hW : ∀ a, ¬ c.W g a := by intro _ h; exact h) (hM : ∀ G H, Mem G H M → Mem G H (c.mem g) := by exact fun _ _ _ => Mem.nil)
    (hg : Gl X x := by rfl) (hdb : (x == ("__debug__" : Str)) = false := by decide) (he : starEach (e :: es) X.env = (false, eval e X.env) :: starEach es X.env := by rfl) (hpl : (backTo pos (starEach es X.env)).any (·.1) = false := by rfl) : DE X B ρ M (.Call (.Name x p) (e :: es) [] pos) R := fun σ G H s Q q => by
  obtain ⟨f, fd, F, hm, hk, hb⟩ := F.ex
  refine sem_e (pe_call (E := E0) F hr hg hm hk hb .nil pass0 pa_sem hdb he hpl) (ha σ G H s _ fun vs G1 H1 g1 r1 => ?_)
  rw [List.append_nil]
  refine ⟨g, G1, g1.sub, r1, hM G1 H1 (s.mem.grow g1), hp, fun z v G' H' hz mv _ r => q v G' H' (g1.trans ⟨mv.gg, mv.sub, fun a o h => mv.keep a o (hW a) h, mv.new⟩) (hR z G' v hz r)⟩
/-- f(..): a def that may write its cells -/
theorem xe_call {Rst : List Cell} (F : Dn X.prog X.w X.K X.mg X.base x k ps c) (hr : Room k X.A) (g : c.γ) (ha : DA X B ρ M (e :: es) (c.args g)) (hp : c.pre g) (hM : M.Perm (c.mem g ++ Rst)) (hf : ∀ z, (c.mem' g z).map Cell.foot = (c.mem g).map Cell.foot) (hFt : ∀ a, c.W g a → feet (c.mem g) a) (hW : ∀ a, c.W g a → B.F a ∨ B.H a = none)
    (hg : Gl X x := by rfl) (hdb : (x == ("__debug__" : Str)) = false := by decide) (he : starEach (e :: es) X.env = (false, eval e X.env) :: starEach es X.env := by rfl) (hpl : (backTo pos (starEach es X.env)).any (·.1) = false := by rfl) : XE X B ρ M (.Call (.Name x p) (e :: es) [] pos) (c.post g) (c.res g) (fun z => c.mem' g z ++ Rst) := fun σ G H s Q q => by
  obtain ⟨f, fd, F, hm, hk, hb⟩ := F.ex
  refine sem_e (pe_call (E := E0) F hr hg hm hk hb .nil pass0 pa_sem hdb he hpl) (ha σ G H s _ fun vs G1 H1 g1 r1 => ?_)
  rw [List.append_nil]
  have s1 := (s.grow g1).perm hM
  refine ⟨g, G1, g1.sub, r1, s1.mem.sub (List.sublist_append_left _ _), hp, fun z v G' H' hz mv mm r => ?_⟩
  have mv' : Move (feet (c.mem g)) G1 H1 G' H' := ⟨mv.gg, mv.sub, fun a o n h => mv.keep a o (fun w => n (hFt a w)) h, mv.there, mv.new⟩
  exact q z v G' H' hz (g1.gg.trans mv.gg) ⟨s1.mv.wider mv hW, s1.slots.mono mv.gg, s1.mem.frame mv' mm (hf z), B.pm mv.gg s1.pf⟩ r
end
end KL

/-! KTxt -/
/-! Names and literals as texts. -/
namespace KL
open PySem PySem.Spec PyProof.Rows L2 KM

def nmOk (s : Str) : Bool := decide (1 ≤ s.cps.size) && decide (s.cps.size ≤ 8) && s.cps.toList.all fun c => decide (97 ≤ c) && decide (c ≤ 122)
abbrev Nm := { s : Str // nmOk s = true }
abbrev Lit := Lt Nm
theorem Nm.ok (n : Nm) : 1 ≤ n.val.cps.size ∧ n.val.cps.size ≤ 8 ∧ ∀ c ∈ n.val.cps.toList, 97 ≤ c ∧ c ≤ 122 := by
  have h := n.property
  unfold nmOk at h
  simp only [Bool.and_eq_true, decide_eq_true_eq, List.all_eq_true] at h
  exact ⟨h.1.1, h.1.2, h.2⟩
theorem dash_eq : ("-" : Str) = ⟨#[45]⟩ := by decide +kernel
theorem app_cps (a b : Str) : (a ++ b).cps.toList = a.cps.toList ++ b.cps.toList := by
  show (a.cps ++ b.cps).toList = _
  simp
theorem str_ext {a b : Str} (h : a.cps.toList = b.cps.toList) : a = b := by
  cases a; cases b; simp at h; simp [h]
def ltS (l : Lit) : Str := if l.pos then l.nm.val else "-" ++ l.nm.val
theorem ltS_pos (n : Nm) : ltS ⟨true, n⟩ = n.val := rfl
theorem ltS_neg (n : Nm) : ltS ⟨false, n⟩ = "-" ++ n.val := rfl
theorem ltS_cps (l : Lit) : (ltS l).cps.toList = if l.pos then l.nm.val.cps.toList else 45 :: l.nm.val.cps.toList := by
  unfold ltS
  cases l.pos with
  | true => rfl
  | false =>
    show (("-" : Str) ++ l.nm.val).cps.toList = 45 :: l.nm.val.cps.toList
    rw [app_cps, dash_eq]; rfl
theorem nm_head (n : Nm) : ∃ c r, n.val.cps.toList = c :: r ∧ 97 ≤ c := by
  have h := Nm.ok n
  cases e : n.val.cps.toList with
  | nil =>
    have : n.val.cps.size = 0 := by rw [← Array.length_toList, e]; rfl
    omega
  | cons c r => exact ⟨c, r, rfl, (h.2.2 c (by rw [e]; exact List.mem_cons_self)).1⟩
theorem ltS_inj {a b : Lit} (h : ltS a = ltS b) : a = b := by
  have e := congrArg (fun s : Str => s.cps.toList) h
  simp only [ltS_cps] at e
  cases a with | mk p n => cases b with | mk q m =>
  obtain ⟨c, r, hc, h97⟩ := nm_head n
  obtain ⟨c', r', hc', h97'⟩ := nm_head m
  cases p <;> cases q
  · simp at e
    have : n = m := Subtype.ext (str_ext (by rw [e]))
    rw [this]
  · simp at e
    rw [hc'] at e
    injection e with e1 _
    omega
  · simp at e
    rw [hc] at e
    injection e with e1 _
    omega
  · simp at e
    have : n = m := Subtype.ext (str_ext (by rw [e]))
    rw [this]
theorem ltS_len (l : Lit) : (ltS l).length ≤ 9 := by
  have h := Nm.ok l.nm
  have e : (ltS l).length = (ltS l).cps.toList.length := by rw [Array.length_toList]; rfl
  rw [e, ltS_cps]
  cases l.pos with
  | true => simp; omega
  | false => simp; omega
theorem ltS_ok (l : Lit) : PyData.strOk (ltS l) = true := by
  unfold PyData.strOk
  rw [← Array.all_toList, List.all_eq_true]
  intro c hc
  rw [ltS_cps] at hc
  have h := (Nm.ok l.nm).2.2
  have : c ≤ 122 := by
    cases hp : l.pos with
    | true => rw [hp] at hc; exact (h c hc).2
    | false =>
      rw [hp] at hc
      rcases List.mem_cons.mp hc with e | hc
      · omega
      · exact (h c hc).2
  exact decide_eq_true (by omega)
/-! ### slices of a literal -/
theorem cut_hd (z : Str) : (cutS z none (some 1)).cps.toList = z.cps.toList.take 1 := by
  show ((z.cps.toList.drop (HT.sIx z.length 0 none)).take (HT.sIx z.length z.length (some 1) - HT.sIx z.length 0 none)) = _
  rw [HT.sIx_none, show (some (1 : Int)) = some ((1 : Nat) : Int) from rfl, HT.sIx_nat, List.drop_zero, Nat.sub_zero]
  have e : z.length = z.cps.toList.length := by rw [Array.length_toList]; rfl
  rw [e]
  cases z.cps.toList with
  | nil => rfl
  | cons c r => rw [List.length_cons, show min 1 (r.length + 1) = 1 by omega]
theorem cut_tl (z : Str) : (cutS z (some 1) none).cps.toList = z.cps.toList.drop 1 := by
  show ((z.cps.toList.drop (HT.sIx z.length 0 (some 1))).take (HT.sIx z.length z.length none - HT.sIx z.length 0 (some 1))) = _
  rw [HT.sIx_none, show (some (1 : Int)) = some ((1 : Nat) : Int) from rfl, HT.sIx_nat]
  have e : z.length = z.cps.toList.length := by rw [Array.length_toList]; rfl
  rw [e]
  cases z.cps.toList with
  | nil => rfl
  | cons c r =>
    rw [List.length_cons, show min 1 (r.length + 1) = 1 by omega]
    simp
theorem lit_dash (l : Lit) : decide (cutS (ltS l) none (some 1) = "-") = !l.pos := by
  have h1 : (cutS (ltS l) none (some 1)).cps.toList = if l.pos then l.nm.val.cps.toList.take 1 else [45] := by
    rw [cut_hd, ltS_cps]
    cases l.pos <;> simp
  obtain ⟨c, r, hc, h97⟩ := nm_head l.nm
  cases hp : l.pos with
  | true =>
    rw [hp, hc] at h1
    have : cutS (ltS l) none (some 1) ≠ "-" := fun e => by
      rw [e, dash_eq] at h1
      simp at h1
      omega
    simp [this]
  | false =>
    rw [hp] at h1
    have : cutS (ltS l) none (some 1) = "-" := str_ext (by rw [h1, dash_eq]; rfl)
    simp [this]
theorem lit_tail {l : Lit} (h : l.pos = false) : cutS (ltS l) (some 1) none = l.nm.val := str_ext (by rw [cut_tl, ltS_cps, h]; rfl)
theorem lit_minus {l : Lit} (h : l.pos = true) : ("-" : Str) ++ ltS l = ltS l.neg := by
  cases l with | mk p n => simp at h; subst h; rfl
theorem lit_nm {l : Lit} (h : l.pos = true) : ltS l = l.nm.val := by
  cases l with | mk p n => simp at h; subst h; rfl
theorem lit_negT {l : Lit} (h : l.pos = false) : l.nm.val = ltS l.neg := by
  cases l with | mk p n => simp at h; subst h; rfl
abbrev rLt (l : Lit) : Rp := rS (ltS l)
abbrev rNm (n : Nm) : Rp := rS n.val
/-- a clause, a full setting: a tuple of literals -/
abbrev rC (c : Cl Nm) : Rp := rT (c.map rLt)
end KL

/-! KRul -/
/-! Rules for operations, slices, membership, dicts. -/
namespace KL
open PySem PySem.Spec PyProof.Rows L2 KM
section
variable {X : Cx} {B : Base} {ρ : Sl} {M : List Cell} {a b e : Expr} {R Ra Rb : Rp} {W : Wp} {pos : Pos}
abbrev memP (M : List Cell) : Hp → Hp → Prop := fun G H => Mem G H M
/-! ### numbers, texts -/
theorem opv_II {i j : Int} {C : Int → Int → Prop} {g : Int → Int → V} (hc : C i j) : Opv M (rI i) (rI j) (L2.rI C g) (rV (g i j)) := fun x y G H s m hx hy Q q => ⟨i, j, hx, hy, hc, q _ G H (Grow.refl s) rfl⟩
theorem opv_II0 {i j : Int} {g : Int → Int → V} : Opv M (rI i) (rI j) (rI0 g) (rV (g i j)) := fun x y G H s m hx hy Q q => ⟨i, j, hx, hy, q _ G H (Grow.refl s) rfl⟩
theorem opv_eqV {v u : V} (hs : scal v u = true) : Opv M (rV v) (rV u) rEq (rB (decide (v = u))) := fun x y G H s m hx hy Q q => by
  have hx : x = v := hx
  have hy : y = u := hy
  subst hx; subst hy
  exact ⟨hs, q _ G H (Grow.refl s) rfl⟩
theorem opv_neV {v u : V} (hs : scal v u = true) : Opv M (rV v) (rV u) rNe (rB (!decide (v = u))) := fun x y G H s m hx hy Q q => by
  have hx : x = v := hx
  have hy : y = u := hy
  subst hx; subst hy
  exact ⟨hs, q _ G H (Grow.refl s) rfl⟩
theorem opv_eqS {x y : Str} : Opv M (rS x) (rS y) rEq (rB (decide (x = y))) := by
  have h := opv_eqV (M := M) (v := .str x) (u := .str y) rfl
  have e : decide (V.str x = V.str y) = decide (x = y) := by simp
  rwa [e] at h
def rAddStr : L2.R2 := fun x y H Q => ∃ i j, x = .str i ∧ y = .str j ∧ i.length + j.length ≤ sizeLine ∧ Q (.str (i ++ j)) H
theorem op_addStr : OpR X (binaryOp .Add) rAddStr := op_add_str
theorem opv_addS {x y : Str} (h : x.length + y.length ≤ 100000) : Opv M (rS x) (rS y) rAddStr (rS (x ++ y)) := fun u v G H s m hx hy Q q => ⟨x, y, hx, hy, small5 h, q _ G H (Grow.refl s) rfl⟩
def rIsNo : L2.R2 := fun x y H Q => y = .non ∧ Q (.bl (decide (x = .non))) H
def rIsNotNo : L2.R2 := fun x y H Q => y = .non ∧ Q (.bl (!decide (x = .non))) H
theorem op_isNo : OpR X (compareOp .Is) rIsNo := op_isN
theorem op_isNotNo : OpR X (compareOp .IsNot) rIsNotNo := op_notN
theorem opv_isN {c : Bool} (h : ∀ G v, R.p G v → decide (v = .non) = c) : Opv M R rN rIsNo (rB c) := fun x y G H s m hx hy Q q => ⟨hy, by rw [h G x hx]; exact q _ G H (Grow.refl s) rfl⟩
theorem opv_isNotN {c : Bool} (h : ∀ G v, R.p G v → decide (v = .non) = c) : Opv M R rN rIsNotNo (rB (!c)) := fun x y G H s m hx hy Q q => ⟨hy, by rw [h G x hx]; exact q _ G H (Grow.refl s) rfl⟩
theorem rOf_notN {G : Hp} {v : V} (h : (rOf W).p G v) : decide (v = .non) = false := by
  obtain ⟨a, o, e, _⟩ := h
  subst e
  simp
theorem rS_notN {x : Str} {G : Hp} {v : V} (h : (rS x).p G v) : decide (v = .non) = false := by
  have h : v = .str x := h
  subst h
  simp

/-! ### slices -/
def DO (X : Cx) (B : Base) (ρ : Sl) (M : List Cell) (o : Option Expr) (i : Option Int) : Prop := ∃ t : TO, PO X o t ∧ ∀ (σ : L2.St) (G H : Hp), Stt B ρ M σ G H → ∀ Q : Option Int → Hp → Prop, (∀ G' H', Grow G H G' H' → Q i H') → t σ H Q
theorem do_none : DO X B ρ M none none := ⟨_, po_none, fun σ G H s Q q => q G H (Grow.refl s.sub)⟩
theorem do_some {i : Int} (h : DE X B ρ M e (rI i)) : DO X B ρ M (some e) (some i) := ⟨_, po_some pe_sem, fun σ G H s Q q => h σ G H s _ fun v G' H' g r => ⟨i, r, q G' H' g⟩⟩
def Slv (M : List Cell) (Ra : Rp) (r : V → Option Int → Option Int → Hp → VK → Prop) (lo hi : Option Int) (R : Rp) : Prop := ∀ (x : V) (G H : Hp), Same G H → Mem G H M → Ra.p G x → ∀ Q : VK, (∀ v G' H', Grow G H G' H' → R.p G' v → Q v H') → r x lo hi H Q
def SlN (M : List Cell) (Ra : Rp) (r : V → Option Int → Option Int → Hp → VK → Prop) (lo hi : Option Int) (W : Wp) : Prop := ∀ (x : V) (G H : Hp), Same G H → Mem G H M → Ra.p G x → ∀ Q : VK, (∀ p o G' H', Grow G H G' H' → G' p = none → H p = none → H' p = some o → W.w G' o → Q (.ref p) H') → r x lo hi H Q
theorem de_slice {r : V → Option Int → Option Int → Hp → VK → Prop} {lo hi : Option Expr} {li hj : Option Int} {p2 : Pos} (hr : SlR X r) (he : DE X B ρ M e Ra) (hl : DO X B ρ M lo li) (hh : DO X B ρ M hi hj) (hv : Slv M Ra r li hj R) : DE X B ρ M (.Subscript e (.Slice lo hi none p2) pos) R := fun σ G H s Q q => by
  obtain ⟨tl, pl, hl⟩ := hl
  obtain ⟨th, ph, hh⟩ := hh
  refine sem_e (pe_slice hr pe_sem pl ph) (he σ G H s _ fun v G1 H1 g1 r1 => hl σ G1 H1 (s.grow g1) _ fun G2 H2 g2 => hh σ G2 H2 ((s.grow g1).grow g2) _ fun G3 H3 g3 => ?_)
  exact hv v G3 H3 g3.sub (((s.mem.grow g1).grow g2).grow g3) (Ra.mono (g2.gg.trans g3.gg) r1) Q fun v' G4 H4 g4 h => q v' G4 H4 (g1.trans (g2.trans (g3.trans g4))) h
theorem ne_slice {r : V → Option Int → Option Int → Hp → VK → Prop} {lo hi : Option Expr} {li hj : Option Int} {p2 : Pos} (hr : SlR X r) (he : DE X B ρ M e Ra) (hl : DO X B ρ M lo li) (hh : DO X B ρ M hi hj) (hv : SlN M Ra r li hj W) : NE X B ρ M (.Subscript e (.Slice lo hi none p2) pos) W := fun σ G H s Q q => by
  obtain ⟨tl, pl, hl⟩ := hl
  obtain ⟨th, ph, hh⟩ := hh
  refine sem_e (pe_slice hr pe_sem pl ph) (he σ G H s _ fun v G1 H1 g1 r1 => hl σ G1 H1 (s.grow g1) _ fun G2 H2 g2 => hh σ G2 H2 ((s.grow g1).grow g2) _ fun G3 H3 g3 => ?_)
  refine hv v G3 H3 g3.sub (((s.mem.grow g1).grow g2).grow g3) (Ra.mono (g2.gg.trans g3.gg) r1) Q fun p o G4 H4 g4 h1 h2 h3 h4 => ?_
  have g := g1.trans (g2.trans g3)
  exact q p o G4 H4 (g1.trans (g2.trans (g3.trans g4))) h1 (g.hh.free h2) h3 h4
theorem slv_str {x : Str} {lo hi : Option Int} (h : x.length ≤ 100000) : Slv M (rS x) rSlS lo hi (rS (cutS x lo hi)) := fun v G H s m hx Q q => ⟨x, hx, small5 h, q _ G H (Grow.refl s) rfl⟩
def cutR {α : Type} (xs : List α) (lo hi : Option Int) : List α := (xs.drop (HT.sIx xs.length 0 lo)).take (HT.sIx xs.length xs.length hi - HT.sIx xs.length 0 lo)
theorem all2_cut {G : Hp} {rs : List Rp} {vs : List V} (h : All2 G rs vs) (lo hi : Option Int) : All2 G (cutR rs lo hi) (cutV vs lo hi) := by
  unfold cutR cutV
  rw [h.len]
  exact (h.drop _).take _
theorem cutR_map {α β : Type} (f : α → β) (xs : List α) (lo hi : Option Int) : cutR (xs.map f) lo hi = (cutR xs lo hi).map f := by
  unfold cutR
  rw [List.length_map, List.map_take, List.map_drop]
theorem cutR_from {α : Type} (xs : List α) (n : Nat) : cutR xs (some (n : Int)) none = xs.drop n := by
  unfold cutR
  rw [HT.sIx_none, HT.sIx_nat]
  by_cases h : n ≤ xs.length
  · rw [Nat.min_eq_left h]
    exact List.take_of_length_le (by rw [List.length_drop]; omega)
  · rw [Nat.min_eq_right (by omega), List.drop_of_length_le (Nat.le_refl _), List.drop_of_length_le (by omega)]
    simp
theorem cutR_to {α : Type} (xs : List α) (n : Nat) : cutR xs none (some (n : Int)) = xs.take n := by
  unfold cutR
  rw [HT.sIx_none, HT.sIx_nat, List.drop_zero, Nat.sub_zero]
  by_cases h : n ≤ xs.length
  · rw [Nat.min_eq_left h]
  · rw [Nat.min_eq_right (by omega), List.take_length, List.take_of_length_le (by omega)]
/-- a list to be read: the items, as they stand -/
def LVw (M : List Cell) (R : Rp) (rs : List Rp) : Prop := ∀ G H v, Same G H → Mem G H M → R.p G v → ∃ a vs, v = .ref a ∧ H a = some (.lst vs) ∧ All2 G rs vs
theorem lv_l {rs : List Rp} : LVw M (rL rs) rs := fun G H v s m ⟨a, o, e, h, vs, eo, t⟩ => ⟨a, vs, e, by rw [← eo]; exact s _ _ h, t⟩
theorem lv_c {a : Addr} {rs : List Rp} (h : cL a rs ∈ M) : LVw M (rV (.ref a)) rs := fun G H v s m e => let ⟨o, h1, vs, h2, h3⟩ := m.ok _ h; ⟨a, vs, e, by rw [← h2]; exact h1, h3⟩
theorem sv_m {a : Addr} {rs : List Rp} (h : cL a rs ∈ M) : SVp (memP M) (rV (.ref a)) rs := sv_c fun G H m => m.ok _ h
theorem sv_now {R : Rp} {rs : List Rp} (h : SVp (memP M) R rs) {G H : Hp} {v : V} (s : Same G H) (m : Mem G H M) (r : R.p G v) : ∃ a vs, v = .ref a ∧ (H a = some (.lst vs) ∨ H a = some (.tup vs)) ∧ All2 G rs vs := by
  obtain ⟨a, mk, e, hm, k⟩ := h G H v s m r
  obtain ⟨vs, ho, t⟩ := k G H (Same.refl G) s m
  rcases hm with rfl | rfl
  · exact ⟨a, vs, e, .inl ho, t⟩
  · exact ⟨a, vs, e, .inr ho, t⟩
theorem sln_list {K : PySem.W.Frag} {rs : List Rp} {lo hi : Option Int} (h : LVw M Ra rs) : SlN M Ra (rSlL K) lo hi (wL (cutR rs lo hi)) := fun x G H s m hx Q q => by
  obtain ⟨a, vs, e, ho, t⟩ := h G H x s m hx
  refine ⟨a, vs, e, SqL.of ho, fun p hp => ?_⟩
  obtain ⟨g, hg⟩ := new_grow (o := .lst (cutV vs lo hi)) s hp
  exact q p _ _ _ g hg hp upd_same ⟨_, rfl, all2_cut t lo hi⟩
theorem cutV_whole {xs : List V} {lo hi : Option Int} (h : HT.sIx xs.length 0 lo = 0 ∧ HT.sIx xs.length xs.length hi = xs.length) : cutV xs lo hi = xs := by
  unfold cutV
  rw [h.1, h.2, List.drop_zero, Nat.sub_zero, List.take_length]
theorem slv_tup {K : PySem.W.Frag} {rs : List Rp} {lo hi : Option Int} : Slv M (rT rs) (rSlA K) lo hi (rT (cutR rs lo hi)) := fun x G H s m ⟨a, o, e, h, vs, eo, t⟩ Q q => by
  subst eo
  refine ⟨a, vs, e, SqT.of (s _ _ h), fun hw => ?_, fun hw p hp => ?_⟩
  · refine q _ G H (Grow.refl s) ⟨a, _, rfl, h, vs, rfl, ?_⟩
    have := all2_cut t lo hi
    rw [cutV_whole hw] at this
    exact this
  · obtain ⟨g, hg⟩ := new_grow (o := .tup (cutV vs lo hi)) s hp
    exact q _ _ _ (pub_grow g hg hp upd_same) ⟨p, _, rfl, upd_same, _, rfl, (all2_cut t lo hi).mono (fun b u z => by rw [upd_ne (ne_of_none z hg)]; exact z)⟩

/-! ### items by their place -/
theorem opv_ixL {K : PySem.W.Frag} {rs : List Rp} {i : Int} {r : Rp} (h : LVw M Ra rs) (hi : atI rs i = some r) : Opv M Ra (rI i) (rIxL K) r := fun x y G H s m hx hy Q q => by
  obtain ⟨a, vs, e, ho, t⟩ := h G H x s m hx
  unfold atI at hi
  cases hj : ixN rs.length i with
  | none => rw [hj] at hi; cases hi
  | some j =>
    rw [hj] at hi
    obtain ⟨v, hv, hr⟩ := t.get (show rs[j]? = some r from hi)
    exact ⟨a, vs, i, v, e, hy, SqL.of ho, by unfold atI; rw [← t.len, hj]; exact hv, q v G H (Grow.refl s) hr⟩
theorem opv_ixT {K : PySem.W.Frag} {rs : List Rp} {i : Int} {r : Rp} (hi : atI rs i = some r) : Opv M (rT rs) (rI i) (rIxT K) r := fun x y G H s m ⟨a, o, e, h, vs, eo, t⟩ hy Q q => by
  subst eo
  unfold atI at hi
  cases hj : ixN rs.length i with
  | none => rw [hj] at hi; cases hi
  | some j =>
    rw [hj] at hi
    obtain ⟨v, hv, hr⟩ := t.get (show rs[j]? = some r from hi)
    exact ⟨a, vs, i, v, e, hy, SqT.of (s _ _ h), by unfold atI; rw [← t.len, hj]; exact hv, q v G H (Grow.refl s) hr⟩

/-! ### in, not in: texts among texts -/
theorem all2_strs {G : Hp} : ∀ {xs : List Str} {vs : List V}, All2 G (xs.map rS) vs → vs = xs.map V.str
  | [], _, .nil => rfl
  | x :: xs, _, .cons h t => by rw [all2_strs t, show _ = V.str x from h]; rfl
theorem strs_all2 {G : Hp} : ∀ xs : List Str, All2 G (xs.map rS) (xs.map V.str)
  | [] => .nil
  | x :: xs => .cons rfl (strs_all2 xs)
theorem inV_strs (x : Str) : ∀ xs : List Str, inV (.str x) (xs.map V.str) = decide (x ∈ xs)
  | [] => by simp [inV]
  | y :: ys => by
    have ih := inV_strs x ys
    unfold inV at ih ⊢
    rw [List.map_cons, List.any_cons, ih]
    show ((y == x) || decide (x ∈ ys)) = _
    rw [Bool.beq_eq_decide_eq]
    by_cases h : y = x
    · simp [h]
    · have : ¬ x = y := fun e => h e.symm
      simp [h, this]
theorem flat_strs (xs : List Str) : (xs.map V.str).all flatV = true := by
  rw [List.all_map]
  simp [List.all_eq_true, flatV]
theorem opv_in {K : PySem.W.Frag} {x : Str} {xs : List Str} (h : SVp (memP M) Rb (xs.map rS)) : Opv M (rS x) Rb (rIn K false) (rB (decide (x ∈ xs))) := fun u v G H s m hx hy Q q => by
  obtain ⟨a, vs, e, ho, t⟩ := sv_now h s m hy
  have ev := all2_strs t
  subst ev
  have hx : u = .str x := hx
  subst hx
  refine ⟨a, _, e, ho.imp SqL.of SqT.of, rfl, flat_strs xs, ?_⟩
  rw [if_neg Bool.false_ne_true, inV_strs]
  exact q _ G H (Grow.refl s) rfl
theorem opv_notIn {K : PySem.W.Frag} {x : Str} {xs : List Str} (h : SVp (memP M) Rb (xs.map rS)) : Opv M (rS x) Rb (rIn K true) (rB (!decide (x ∈ xs))) := fun u v G H s m hx hy Q q => by
  obtain ⟨a, vs, e, ho, t⟩ := sv_now h s m hy
  have ev := all2_strs t
  subst ev
  have hx : u = .str x := hx
  subst hx
  refine ⟨a, _, e, ho.imp SqL.of SqT.of, rfl, flat_strs xs, ?_⟩
  rw [if_pos rfl, inV_strs]
  exact q _ G H (Grow.refl s) rfl
theorem map_rLt (ls : List Lit) : ls.map rLt = (ls.map ltS).map rS := by rw [List.map_map]; rfl
theorem map_rNm (ns : List Nm) : ns.map rNm = (ns.map Subtype.val).map rS := by rw [List.map_map]; rfl
theorem mem_ltS {l : Lit} {ls : List Lit} : decide (ltS l ∈ ls.map ltS) = decide (l ∈ ls) := by
  rw [Bool.eq_iff_iff, decide_eq_true_iff, decide_eq_true_iff, List.mem_map]
  constructor
  · rintro ⟨k, hk, e⟩; exact ltS_inj e ▸ hk
  · intro h; exact ⟨l, h, rfl⟩
theorem mem_nm {n : Nm} {ns : List Nm} : decide (n.val ∈ ns.map Subtype.val) = decide (n ∈ ns) := by
  rw [Bool.eq_iff_iff, decide_eq_true_iff, decide_eq_true_iff, List.mem_map]
  constructor
  · rintro ⟨k, hk, e⟩; exact Subtype.ext e ▸ hk
  · intro h; exact ⟨n, h, rfl⟩
theorem opv_inLt {K : PySem.W.Frag} {l : Lit} {ls : List Lit} (h : SVp (memP M) Rb (ls.map rLt)) : Opv M (rLt l) Rb (rIn K false) (rB (decide (l ∈ ls))) := by
  rw [← mem_ltS]; exact opv_in (by rw [← map_rLt]; exact h)
theorem opv_notInLt {K : PySem.W.Frag} {l : Lit} {ls : List Lit} (h : SVp (memP M) Rb (ls.map rLt)) : Opv M (rLt l) Rb (rIn K true) (rB (!decide (l ∈ ls))) := by
  rw [← mem_ltS]; exact opv_notIn (by rw [← map_rLt]; exact h)
theorem opv_inNm {K : PySem.W.Frag} {n : Nm} {ns : List Nm} (h : SVp (memP M) Rb (ns.map rNm)) : Opv M (rNm n) Rb (rIn K false) (rB (decide (n ∈ ns))) := by
  rw [← mem_nm]; exact opv_in (by rw [← map_rNm]; exact h)
theorem opv_notInNm {K : PySem.W.Frag} {n : Nm} {ns : List Nm} (h : SVp (memP M) Rb (ns.map rNm)) : Opv M (rNm n) Rb (rIn K true) (rB (!decide (n ∈ ns))) := by
  rw [← mem_nm]; exact opv_notIn (by rw [← map_rNm]; exact h)

/-! ### sums of tuples, of lists -/
theorem opv_catT {K : PySem.W.Frag} {rs ss : List Rp} (hz : rs.length + ss.length ≤ 100000) : Opv M (rT rs) (rT ss) (rCatA K) (rT (rs ++ ss)) := fun x y G H s m ⟨a, o, e, h, vs, eo, t⟩ ⟨a2, o2, e2, h2, vs2, eo2, t2⟩ Q q => by
  subst eo; subst eo2
  refine ⟨a, a2, vs, vs2, e, e2, SqT.of (s _ _ h), SqT.of (s _ _ h2), by rw [← t.len, ← t2.len]; exact small5 hz, fun hn => ?_, fun hn hn2 => ?_, fun _ _ p hp => ?_⟩
  · subst hn
    cases t
    exact q _ G H (Grow.refl s) ⟨a2, _, rfl, h2, vs2, rfl, t2⟩
  · subst hn2
    cases t2
    rw [List.append_nil] at q
    exact q _ G H (Grow.refl s) ⟨a, _, rfl, h, vs, rfl, t⟩
  · obtain ⟨g, hg⟩ := new_grow (o := .tup (vs ++ vs2)) s hp
    exact q _ _ _ (pub_grow g hg hp upd_same) ⟨p, _, rfl, upd_same, _, rfl, (t.append t2).mono (fun b u z => by rw [upd_ne (ne_of_none z hg)]; exact z)⟩
theorem opn_cat {rs ss : List Rp} (h : LVw M Ra rs) (h2 : LVw M Rb ss) (hz : rs.length + ss.length ≤ 100000) : OpN M Ra Rb rCat (wL (rs ++ ss)) := fun x y G H s m hx hy Q q => by
  obtain ⟨a, vs, e, ho, t⟩ := h G H x s m hx
  obtain ⟨a2, vs2, e2, ho2, t2⟩ := h2 G H y s m hy
  refine ⟨a, a2, vs, vs2, e, e2, ho, ho2, by rw [← t.len, ← t2.len]; exact small5 hz, fun p hp => ?_⟩
  obtain ⟨g, hg⟩ := new_grow (o := .lst (vs ++ vs2)) s hp
  exact q p _ _ _ g hg hp upd_same ⟨_, rfl, t.append t2⟩

/-! ### built-in functions -/
def rLenSq (K : PySem.W.Frag) : List V → Hp → VK → Prop := fun xs H Q => ∃ p ys, xs = [.ref p] ∧ (SqL K H p ys ∨ SqT K H p ys) ∧ Q (.int ys.length) H
theorem cr_len : CallR X (.builtin "len") (rLenSq X.K) := call_len_seq
theorem all2_1 {G : Hp} {r : Rp} {vs : List V} (h : All2 G [r] vs) : ∃ v, vs = [v] ∧ r.p G v := by
  cases h with
  | cons h t => cases t; exact ⟨_, rfl, h⟩
theorem all2_2 {G : Hp} {r r2 : Rp} {vs : List V} (h : All2 G [r, r2] vs) : ∃ v u, vs = [v, u] ∧ r.p G v ∧ r2.p G u := by
  cases h with
  | cons h t =>
    obtain ⟨u, rfl, h2⟩ := all2_1 t
    exact ⟨_, u, rfl, h, h2⟩
theorem clv_len {K : PySem.W.Frag} {rs : List Rp} (h : SVp (memP M) R rs) : Clv M [R] (rLenSq K) (rI rs.length) := fun xs G H s m hx Q q => by
  obtain ⟨v, rfl, hv⟩ := all2_1 hx
  obtain ⟨a, vs, rfl, ho, t⟩ := sv_now h s m hv
  refine ⟨a, vs, rfl, ho.imp SqL.of SqT.of, ?_⟩
  rw [← t.len]
  exact q _ G H (Grow.refl s) rfl
def rListSq (K : PySem.W.Frag) : List V → Hp → VK → Prop := fun xs H Q => ∃ p ys, xs = [.ref p] ∧ (SqL K H p ys ∨ SqT K H p ys) ∧ ∀ l, H l = none → Q (.ref l) (upd H l (.lst ys))
theorem cr_list : CallR X (.type "list") (rListSq X.K) := call_list_of
theorem cln_list {K : PySem.W.Frag} {rs : List Rp} (h : SVp (memP M) R rs) : ClN M [R] (rListSq K) (wL rs) := fun xs G H s m hx Q q => by
  obtain ⟨v, rfl, hv⟩ := all2_1 hx
  obtain ⟨a, vs, rfl, ho, t⟩ := sv_now h s m hv
  refine ⟨a, vs, rfl, ho.imp SqL.of SqT.of, fun p hp => ?_⟩
  obtain ⟨g, hg⟩ := new_grow (o := .lst vs) s hp
  exact q p _ _ _ g hg hp upd_same ⟨_, rfl, t⟩
def rTupSq (K : PySem.W.Frag) : List V → Hp → VK → Prop := fun xs H Q => ∃ p ys, xs = [.ref p] ∧ ((SqL K H p ys ∧ ∀ l, H l = none → Q (.ref l) (upd H l (.tup ys))) ∨ (SqT K H p ys ∧ Q (.ref p) H))
theorem cr_tuple : CallR X (.type "tuple") (rTupSq X.K) := call_tuple_of
theorem clv_tuple {K : PySem.W.Frag} {rs : List Rp} (h : LVw M R rs) : Clv M [R] (rTupSq K) (rT rs) := fun xs G H s m hx Q q => by
  obtain ⟨v, rfl, hv⟩ := all2_1 hx
  obtain ⟨a, vs, rfl, ho, t⟩ := h G H v s m hv
  refine ⟨a, vs, rfl, .inl ⟨SqL.of ho, fun p hp => ?_⟩⟩
  obtain ⟨g, hg⟩ := new_grow (o := .tup vs) s hp
  exact q _ _ _ (pub_grow g hg hp upd_same) ⟨p, _, rfl, upd_same, _, rfl, t.mono (fun b u z => by rw [upd_ne (ne_of_none z hg)]; exact z)⟩
theorem all2_bls {G : Hp} : ∀ {xs : List Bool} {vs : List V}, All2 G (xs.map rB) vs → vs = xs.map V.bl
  | [], _, .nil => rfl
  | x :: xs, _, .cons h t => by rw [all2_bls t, show _ = V.bl x from h]; rfl
theorem clv_any {K : PySem.W.Frag} {bs : List Bool} (h : LVw M R (bs.map rB)) : Clv M [R] (L2.rAny K) (rB (bs.any id)) := fun xs G H s m hx Q q => by
  obtain ⟨v, rfl, hv⟩ := all2_1 hx
  obtain ⟨a, vs, rfl, ho, t⟩ := h G H v s m hv
  have ev := all2_bls t
  subst ev
  exact ⟨a, bs, rfl, SqL.of ho, q _ G H (Grow.refl s) rfl⟩
theorem clv_all {K : PySem.W.Frag} {bs : List Bool} (h : LVw M R (bs.map rB)) : Clv M [R] (L2.rAll K) (rB (bs.all id)) := fun xs G H s m hx Q q => by
  obtain ⟨v, rfl, hv⟩ := all2_1 hx
  obtain ⟨a, vs, rfl, ho, t⟩ := h G H v s m hv
  have ev := all2_bls t
  subst ev
  exact ⟨a, bs, rfl, SqL.of ho, q _ G H (Grow.refl s) rfl⟩
end
end KL

/-! KComp -/
/-! List comprehensions. -/
namespace KL
open PySem PySem.Spec PyProof.Rows L2 KM
section
variable {X : Cx} {B : Base} {ρ : Sl} {M : List Cell} {e elt iter : Expr} {R Rit : Rp} {W : Wp} {pos : Pos}
theorem Slots.wipe1 {G : Hp} {ρ : Sl} {σ : L2.St} (h : Slots G ρ σ) (j : Nat) : Slots G (ρ.set j none) (σ.set j none) := by
  refine ⟨by rw [List.length_set, List.length_set]; exact h.len, fun i r e => ?_⟩
  by_cases hj : j = i
  · subst hj
    by_cases hl : j < ρ.length
    · rw [List.getElem?_set_self hl] at e; cases e
    · rw [List.getElem?_eq_none (by rw [List.length_set]; omega)] at e; cases e
  · rw [List.getElem?_set_ne hj] at e
    obtain ⟨u, a, b⟩ := h.at_ i r e
    exact ⟨u, by rw [List.getElem?_set_ne hj]; exact a, b⟩
theorem Stt.item {σ : L2.St} {G H : Hp} {r : Rp} {v : V} (s : Stt B ρ M σ G H) (j : Nat) (q : r.p G v) : Stt B (ρ.set j (some r)) M ((σ.set j none).set j (some v)) G H := by
  have h := (s.slots.wipe1 j).set (i := j) q
  rw [List.set_set] at h
  exact ⟨s.mv, h, s.mem, s.pf⟩
theorem lc_seq {J : It} {hs : Hp → List V → Prop} (w : Walked J hs) {n : Nat} {g : TG} {tt : TT} {te : TE} {vs : List Nat} {σ : L2.St} {H1 : Hp} {D : Addr} {Qd : Hp → Prop} (Pv : Nat → Hp → Prop) (h0 : Pv 0 (upd H1 D (.lst []))) (hl : ∀ i H, i ≤ n → Pv i H → ∃ vs, hs H vs ∧ vs.length = n)
    (ht : ∀ i x us H, i < n → hs H us → us[i]? = some x → Pv i H → g x (wipe σ vs) H fun σ2 H2 => wipe σ2 vs = wipe σ vs ∧ tt σ2 H2 fun b H3 =>
      if b = true then te σ2 H3 fun y H4 => ∃ acc, H4 D = some (.lst acc) ∧ acc.length < sizeLine ∧ Pv (i + 1) (upd H4 D (.lst (acc ++ [y]))) else Pv (i + 1) H3) (hd : ∀ H, Pv n H → Qd H) :
    ∃ W : Nat → Nat → Hp → Prop, (∃ m, W 0 m (upd H1 D (.lst []))) ∧ ∀ i m H, W i m H →
      (J.stop i H ∧ Qd H) ∨ (J.go i H ∧ ∃ Nx : Hp → Prop, (∀ H', Nx H' → ∃ m', m' < m ∧ W (i + 1) m' H') ∧ ∀ x H', J.yld i H x H' → g x (wipe σ vs) H' fun σ2 H2 => wipe σ2 vs = wipe σ vs ∧ tt σ2 H2 fun b H3 =>
        if b = true then te σ2 H3 fun y H4 => ∃ acc, H4 D = some (.lst acc) ∧ acc.length < sizeLine ∧ Nx (upd H4 D (.lst (acc ++ [y]))) else Nx H3) := by
  refine ⟨fun i m H => m = n - i ∧ i ≤ n ∧ Pv i H, ⟨n, by simp, Nat.zero_le _, h0⟩, ?_⟩
  rintro i m H ⟨rfl, hi, p⟩
  obtain ⟨us, hv, hn⟩ := hl i H hi p
  by_cases hlt : i < n
  · refine .inr ⟨w.1 i H us us[i] hv (by simp [hn, hlt]), Pv (i + 1), fun H' p' => ⟨n - (i + 1), by omega, rfl, hlt, p'⟩, fun x H' y => ?_⟩
    obtain ⟨e, y⟩ := w.2.2 i H x H' y
    subst e
    exact ht i x us _ hlt hv (y us hv) p
  · have e : i = n := by omega
    subst e
    exact .inl ⟨w.2.1 _ H us hv (by omega), hd H p⟩
theorem take_filter_yes {α : Type} {xs : List α} {b : α → Bool} {i : Nat} {x : α} (h : xs[i]? = some x) (hb : b x = true) : (xs.take (i + 1)).filter b = (xs.take i).filter b ++ [x] := by
  rw [List.take_add_one, h, List.filter_append]
  simp [hb]
theorem take_filter_no {α : Type} {xs : List α} {b : α → Bool} {i : Nat} {x : α} (h : xs[i]? = some x) (hb : b x = false) : (xs.take (i + 1)).filter b = (xs.take i).filter b := by
  rw [List.take_add_one, h, List.filter_append]
  simp [hb]
theorem tlc_core {α : Type} (xs : List α) (rf : α → Rp) (b : α → Bool) (f : α → Rp) {tl te : TE} {tt : TT} {j : Nat} {σ : L2.St} {G H : Hp} (hsv : SVp (memP M) Rit (xs.map rf)) (hz : xs.length ≤ 100000) (s : Stt B ρ M σ G H)
    (it : ∀ Q : VK, (∀ v G' H', Grow G H G' H' → Rit.p G' v → Q v H') → tl σ H Q)
    (ht : ∀ x ∈ xs, ∀ σ2 G2 H2, Stt B (ρ.set j (some (rf x))) M σ2 G2 H2 → ∀ Q : Bool → Hp → Prop, (∀ G' H', Grow G2 H2 G' H' → Q (b x) H') → tt σ2 H2 Q)
    (he : ∀ x ∈ xs, b x = true → ∀ σ2 G2 H2, Stt B (ρ.set j (some (rf x))) M σ2 G2 H2 → ∀ Q : VK, (∀ v G' H', Grow G2 H2 G' H' → (f x).p G' v → Q v H') → te σ2 H2 Q)
    (Q : VK) (q : ∀ p o G' H', Grow G H G' H' → G' p = none → H p = none → H' p = some o → (wL ((xs.filter b).map f)).w G' o → Q (.ref p) H') : tLc (iSeq tl) (gName j) tt te [j] σ H Q := by
  refine it _ fun u G1 H1 g1 r1 => ?_
  have s1 := s.grow g1
  obtain ⟨a, mk, ea, hmk, hv⟩ := hsv G1 H1 u g1.sub s1.mem r1
  obtain ⟨vs1, ho1, hr1⟩ := hv G1 H1 (Same.refl _) g1.sub s1.mem
  have inj : ∀ {p q : List V}, mk p = mk q → p = q := fun {p q} h => by rcases hmk with rfl | rfl <;> (injection h)
  refine ⟨a, mk, vs1, ea, hmk, ho1, fun It w D hD => ?_⟩
  obtain ⟨gD, hGD⟩ := new_grow (o := .lst []) g1.sub hD
  refine lc_seq w (n := xs.length) (fun i H' => ∃ G', Grow G1 H1 G' H' ∧ G' D = none ∧ ∃ vs, H' D = some (.lst vs) ∧ All2 G' (((xs.take i).filter b).map f) vs) ⟨G1, gD, hGD, [], upd_same, .nil⟩ ?_ ?_ ?_
  · rintro i H' hi ⟨G', g', _⟩
    obtain ⟨vs, ho, hr⟩ := hv G' H' g'.gg g'.sub (s1.mem.grow g')
    exact ⟨vs, ho, by rw [← hr.len, List.length_map]⟩
  · rintro i y us H' hi hus hy ⟨G', g', hGD', vs, hDv, hav⟩
    obtain ⟨vs2, ho2, hr2⟩ := hv G' H' g'.gg g'.sub (s1.mem.grow g')
    have eu : us = vs2 := inj (Option.some.inj (hus.symm.trans ho2))
    subst eu
    obtain ⟨r, hr, hry⟩ := hr2.get' hy
    rw [List.getElem?_map] at hr
    cases hx : xs[i]? with
    | none => rw [hx] at hr; cases hr
    | some x =>
      rw [hx] at hr
      have er : rf x = r := Option.some.inj hr
      subst er
      have hxm : x ∈ xs := List.mem_of_getElem? hx
      have s2 : Stt B (ρ.set j (some (rf x))) M ((σ.set j none).set j (some y)) G' H' := (s1.grow g').item j hry
      have hDn : H' D ≠ none := by rw [hDv]; exact (fun z => nomatch z)
      refine ⟨by show ((σ.set j none).set j (some y)).set j none = σ.set j none; rw [List.set_set, List.set_set], ?_⟩
      refine ht x hxm _ G' H' s2 _ fun G2 H2 g2 => ?_
      have n2 : G2 D = none := by
        cases z : G2 D with
        | none => rfl
        | some o =>
          have e := (g2.sub D o z).symm.trans (g2.hh D _ hDv)
          cases e
          rcases g2.new D _ z with z | z | z
          · rw [hGD'] at z; cases z
          · exact absurd z hDn
          · cases z
      cases hb : b x with
      | false =>
        refine iteF ⟨G2, g'.trans g2, n2, vs, g2.hh _ _ hDv, ?_⟩
        rw [take_filter_no hx hb]
        exact hav.mono g2.gg
      | true =>
        refine iteT (he x hxm hb _ G2 H2 (s2.grow g2) _ fun v G3 H3 g3 rv => ?_)
        have hD2 : H2 D = some (.lst vs) := g2.hh _ _ hDv
        have hD3 : H3 D = some (.lst vs) := g3.hh _ _ hD2
        have n3 : G3 D = none := by
          cases z : G3 D with
          | none => rfl
          | some o =>
            have e := (g3.sub D o z).symm.trans hD3
            cases e
            rcases g3.new D _ z with z | z | z
            · rw [n2] at z; cases z
            · rw [hD2] at z; cases z
            · cases z
        have g := g'.trans (g2.trans g3)
        refine ⟨vs, hD3, ?_, G3, ⟨g.gg, fun c o z => by rw [upd_ne (ne_of_none z n3)]; exact g.sub c o z, fun c o z => by rw [upd_ne (ne_of_none z hD)]; exact g.hh c o z, g.new⟩, n3, vs ++ [v], upd_same, ?_⟩
        · have e1 := hav.len
          rw [List.length_map] at e1
          have e2 : ((xs.take i).filter b).length ≤ (xs.take i).length := List.length_filter_le _ _
          rw [List.length_take] at e2
          exact small5' (by omega)
        · rw [take_filter_yes hx hb, List.map_append]
          exact (hav.mono (g2.gg.trans g3.gg)).snoc rv
  · rintro H' ⟨G', g', hGD', vs, hDv, hav⟩
    rw [List.take_length] at hav
    exact q D _ G' H' (g1.trans g') hGD' (g1.hh.free hD) hDv ⟨vs, rfl, hav⟩
/-- the readings of a block's parts, whatever its frame is -/
def blkE (X : Cx) (scope : Scope) (e : Expr) : TE := fun σ H Q => ∀ (s : Shared) (H0 : Hp) (C : Addr) (cl : List (Str × Addr)) (fp : List Addr), SemE (X.blk s H0 scope (compEnvC scope cl C X.env) fp) e σ H Q
def blkT (X : Cx) (scope : Scope) (e : Expr) : TT := fun σ H Q => ∀ (s : Shared) (H0 : Hp) (C : Addr) (cl : List (Str × Addr)) (fp : List Addr), SemT (X.blk s H0 scope (compEnvC scope cl C X.env) fp) e σ H Q
theorem pe_blk {X : Cx} {scope : Scope} {e : Expr} (s : Shared) (H : Hp) (C : Addr) (cl : List (Str × Addr)) (fp : List Addr) : PE (X.blk s H scope (compEnvC scope cl C X.env) fp) e (blkE X scope e) := ⟨fun pins st σ H1 Q I h => (h s H C cl fp).run pins st I⟩
theorem pt_blk {X : Cx} {scope : Scope} {e : Expr} (s : Shared) (H : Hp) (C : Addr) (cl : List (Str × Addr)) (fp : List Addr) : PT (X.blk s H scope (compEnvC scope cl C X.env) fp) e (blkT X scope e) := ⟨fun pins st σ H1 Q I h => (h s H C cl fp).run pins st I⟩
/-- a property of every block of this comprehension -/
abbrev AllB (X : Cx) (scope : Scope) (p : Cx → Prop) : Prop := ∀ (s : Shared) (H : Hp) (C : Addr) (cl : List (Str × Addr)) (fp : List Addr), p (X.blk s H scope (compEnvC scope cl C X.env) fp)
variable {y : Str} {py : Pos} {scope : Scope}
theorem ne_lc {α : Type} (j : Nat) (nd : X.N.Nodup) (xs : List α) (rf f : α → Rp) (it : DE X B ρ M iter Rit) (hsv : SVp (memP M) Rit (xs.map rf)) (hz : xs.length ≤ 100000)
    (he : ∀ x ∈ xs, AllB X scope fun X' => DE X' B (ρ.set j (some (rf x))) M elt (f x)) (ok : BlkOk X.N X.env.scope scope [(y, j)] := by exact blkOk_by (by kernel_rfl)) (hj : X.N[j]? = some y := by rfl)
    (hx : AllB X scope (fun X' => L2.Loc X'.env.scope y) := by first | exact fun _ _ _ _ _ => .inl rfl | exact fun _ _ _ _ _ => .inr rfl) (hf : AllB X scope (fun X' => X'.fn y = true ∨ X'.env.scope.names.lookup y = some .local) := by first | exact fun _ _ _ _ _ => .inl rfl | exact fun _ _ _ _ _ => .inr rfl)
    (hc : X.calm = true := by rfl) (hs : ∀ x, foldedSetIterable iter X.env x = pure x := by intro _; rfl) : NE X B ρ M (.ListComp elt [⟨.Name y py, iter, [], 0⟩] scope pos) (wL (xs.map f)) := fun σ G H s Q q => by
  refine sem_e (pe_lc (own := [(y, j)]) (g := gName j) (tt := tYes) (te := blkE X scope elt) hc nd (pi_seq pe_sem) ok (fun s H C cl fp => pg_name nd hj (hx s H C cl fp) (hf s H C cl fp)) (fun _ _ _ _ _ => pts_nil) (fun s H C cl fp => pe_blk s H C cl fp) hs) ?_
  refine tlc_core xs rf (fun _ => true) f hsv hz s (it σ G H s) (fun x hx σ2 G2 H2 s2 Q q => q G2 H2 (Grow.refl s2.sub)) (fun x hx _ σ2 G2 H2 s2 Q q s0 H0 C cl fp => he x hx s0 H0 C cl fp σ2 G2 H2 s2 Q q) Q ?_
  rw [List.filter_eq_self.mpr (fun _ _ => rfl)]
  exact q
theorem ne_lcIf {α : Type} {c : Expr} (j : Nat) (nd : X.N.Nodup) (xs : List α) (rf f : α → Rp) (b : α → Bool) (it : DE X B ρ M iter Rit) (hsv : SVp (memP M) Rit (xs.map rf)) (hz : xs.length ≤ 100000)
    (ht : ∀ x ∈ xs, AllB X scope fun X' => DT X' B (ρ.set j (some (rf x))) M c (b x)) (he : ∀ x ∈ xs, b x = true → AllB X scope fun X' => DE X' B (ρ.set j (some (rf x))) M elt (f x)) (ok : BlkOk X.N X.env.scope scope [(y, j)] := by exact blkOk_by (by kernel_rfl)) (hj : X.N[j]? = some y := by rfl)
    (hx : AllB X scope (fun X' => L2.Loc X'.env.scope y) := by first | exact fun _ _ _ _ _ => .inl rfl | exact fun _ _ _ _ _ => .inr rfl) (hf : AllB X scope (fun X' => X'.fn y = true ∨ X'.env.scope.names.lookup y = some .local) := by first | exact fun _ _ _ _ _ => .inl rfl | exact fun _ _ _ _ _ => .inr rfl)
    (hc : X.calm = true := by rfl) (hs : ∀ x, foldedSetIterable iter X.env x = pure x := by intro _; rfl) : NE X B ρ M (.ListComp elt [⟨.Name y py, iter, [c], 0⟩] scope pos) (wL ((xs.filter b).map f)) := fun σ G H s Q q => by
  refine sem_e (pe_lc (own := [(y, j)]) (g := gName j) (tt := blkT X scope c) (te := blkE X scope elt) hc nd (pi_seq pe_sem) ok (fun s H C cl fp => pg_name nd hj (hx s H C cl fp) (hf s H C cl fp)) (fun s H C cl fp => pts_one (pt_blk s H C cl fp)) (fun s H C cl fp => pe_blk s H C cl fp) hs) ?_
  exact tlc_core xs rf b f hsv hz s (it σ G H s) (fun x hx σ2 G2 H2 s2 Q q s0 H0 C cl fp => ht x hx s0 H0 C cl fp σ2 G2 H2 s2 Q q) (fun x hx hb σ2 G2 H2 s2 Q q s0 H0 C cl fp => he x hx hb s0 H0 C cl fp σ2 G2 H2 s2 Q q) Q q
end
end KL

/-! KList -/
/-! Owned lists and dicts that change. -/
namespace KL
open PySem PySem.Spec PyProof.Rows L2 KM
section
variable {X : Cx} {B : Base} {ρ : Sl} {M : List Cell} {o e : Expr} {R : Rp} {W : Wp} {pos cpos apos : Pos} {rest : List Stmt} {D : Ends}
theorem Stt.put {a : Addr} {W W' : Wp} [NT W] [NT W'] {u : HO} {j : Nat} {σ : L2.St} {G H : Hp} (s : Stt B ρ M σ G H) (hj : M[j]? = some (cOf a W)) (hw : B.F a ∨ B.H a = none) (h : W'.w G u) : Stt B ρ (M.set j (cOf a W')) σ G (L2.upd H a u) :=
  s.upd (c' := cOf a W') hj (fun b hb => by have e : b = a := by simpa [cOf] using hb
                                            subst e; exact hw) rfl (fun b hb => upd_ne (by simpa [cOf] using hb)) (fun b hb => by
    have e : b = a := by simpa [cOf] using hb
    subst e
    rw [upd_same]; exact (fun z => nomatch z)) ⟨u, upd_same, h⟩
theorem cell_at {a : Addr} {W : Wp} [NT W] {j : Nat} {G H : Hp} (m : Mem G H M) (hj : M[j]? = some (cOf a W)) : ∃ u, H a = some u ∧ W.w G u := m.ok _ (List.mem_of_getElem? hj)
theorem xe_append {a : Addr} {rs : List Rp} {j : Nat} {α : Type} {P : α → Prop} {S : α → Rp} {M' : α → List Cell} (ho : DE X B ρ M o (rV (.ref a))) (hj : M[j]? = some (cL a rs)) (he : XE X B ρ M e P S M') (hw : B.F a ∨ B.H a = none) (hz : rs.length < 100000) (hj' : ∀ z, P z → (M' z)[j]? = some (cL a rs))
    (hbase : attributeBase o "append" X.env (eval o X.env) = eval o X.env := by rfl)
    (hfew : ((backTo cpos (starEach [e] X.env)).all (fun x => !x.1) && (backToKw cpos (keywordEach [] X.env)).all (fun x => x.1.isSome) && decide (([e] : List Expr).length + ([] : List Keyword).length + (if ([] : List Keyword).isEmpty then 0 else 1) < 30)) = true := by rfl)
    (hline : (apos.endLine == cpos.line) = true := by rfl) (hs : starEach [e] X.env = (false, eval e X.env) :: starEach [] X.env := by rfl) (hplain : (backTo cpos (starEach [] X.env)).any (·.1) = false := by rfl) :
    XE X B ρ M (.Call (.Attribute o "append" apos) [e] [] cpos) P (fun _ => rN) (fun z => (M' z).set j (cL a (rs ++ [S z]))) := fun σ G H s Q q => by
  refine sem_e (pe_bm PySem.F.plainAttrs_list PySem.F.slot_list_append PySem.F.type_list_append mt_append pe_sem (pa_cons pe_sem pa_nil hs) hbase hfew hline hs hplain) (ho σ G H s _ fun u G1 H1 g1 r1 => ?_)
  have r1 : u = .ref a := r1
  subst r1
  have s1 := s.grow g1
  obtain ⟨u1, h1, vs1, e1, t1⟩ := cell_at s1.mem hj
  subst e1
  refine ⟨.inl ⟨rfl, _, SqL.of h1⟩, he σ G1 H1 s1 _ fun z v G2 H2 hp gg s2 r2 => ?_⟩
  obtain ⟨u2, h2, vs2, e2, t2⟩ := cell_at s2.mem (hj' z hp)
  subst e2
  exact ⟨a, vs2, v, rfl, rfl, h2, small5' (by rw [← t2.len]; exact hz), q z _ G2 _ hp (g1.gg.trans gg) (s2.put (hj' z hp) hw ⟨_, rfl, t2.snoc r2⟩) rfl⟩
theorem xe_extend {a : Addr} {rs ss : List Rp} {j : Nat} (ho : DE X B ρ M o (rV (.ref a))) (hj : M[j]? = some (cL a rs)) (he : DE X B ρ M e R) (hl : LVw M R ss) (hw : B.F a ∨ B.H a = none) (hz : rs.length + ss.length ≤ 100000)
    (hbase : attributeBase o "extend" X.env (eval o X.env) = eval o X.env := by rfl)
    (hfew : ((backTo cpos (starEach [e] X.env)).all (fun x => !x.1) && (backToKw cpos (keywordEach [] X.env)).all (fun x => x.1.isSome) && decide (([e] : List Expr).length + ([] : List Keyword).length + (if ([] : List Keyword).isEmpty then 0 else 1) < 30)) = true := by rfl)
    (hline : (apos.endLine == cpos.line) = true := by rfl) (hs : starEach [e] X.env = (false, eval e X.env) :: starEach [] X.env := by rfl) (hplain : (backTo cpos (starEach [] X.env)).any (·.1) = false := by rfl) :
    XE X B ρ M (.Call (.Attribute o "extend" apos) [e] [] cpos) (fun _ : Unit => True) (fun _ => rN) (fun _ => M.set j (cL a (rs ++ ss))) := fun σ G H s Q q => by
  refine sem_e (pe_bm PySem.F.plainAttrs_list PySem.F.slot_list_extend PySem.F.type_list_extend mt_extend pe_sem (pa_cons pe_sem pa_nil hs) hbase hfew hline hs hplain) (ho σ G H s _ fun u G1 H1 g1 r1 => ?_)
  have r1 : u = .ref a := r1
  subst r1
  have s1 := s.grow g1
  obtain ⟨u1, h1, vs1, e1, t1⟩ := cell_at s1.mem hj
  subst e1
  refine ⟨.inl ⟨rfl, _, SqL.of h1⟩, he σ G1 H1 s1 _ fun v G2 H2 g2 r2 => ?_⟩
  have s2 := s1.grow g2
  obtain ⟨u2, h2, vs2, e2, t2⟩ := cell_at s2.mem hj
  subst e2
  obtain ⟨b, us, eb, hb, tb⟩ := hl G2 H2 v s2.sub s2.mem r2
  subst eb
  exact ⟨a, b, vs2, us, rfl, rfl, h2, hb, by rw [← t2.len, ← tb.len]; exact small5 hz, q () _ G2 _ trivial (g1.gg.trans g2.gg) (s2.put hj hw ⟨_, rfl, t2.append tb⟩) rfl⟩
theorem xe_popAt {a : Addr} {rs : List Rp} {j : Nat} {α : Type} {P : α → Prop} {i : α → Nat} {S : α → Rp} {M' : α → List Cell} (ho : DE X B ρ M o (rV (.ref a))) (hj : M[j]? = some (cL a rs)) (he : XE X B ρ M e P (fun z => rI (i z)) M') (hw : B.F a ∨ B.H a = none) (hj' : ∀ z, P z → (M' z)[j]? = some (cL a rs)) (hi : ∀ z, P z → rs[i z]? = some (S z)) (hz : rs.length ≤ 100000)
    (hbase : attributeBase o "pop" X.env (eval o X.env) = eval o X.env := by rfl)
    (hfew : ((backTo cpos (starEach [e] X.env)).all (fun x => !x.1) && (backToKw cpos (keywordEach [] X.env)).all (fun x => x.1.isSome) && decide (([e] : List Expr).length + ([] : List Keyword).length + (if ([] : List Keyword).isEmpty then 0 else 1) < 30)) = true := by rfl)
    (hline : (apos.endLine == cpos.line) = true := by rfl) (hs : starEach [e] X.env = (false, eval e X.env) :: starEach [] X.env := by rfl) (hplain : (backTo cpos (starEach [] X.env)).any (·.1) = false := by rfl) :
    XE X B ρ M (.Call (.Attribute o "pop" apos) [e] [] cpos) P S (fun z => (M' z).set j (cL a (rs.eraseIdx (i z)))) := fun σ G H s Q q => by
  refine sem_e (pe_bm PySem.F.plainAttrs_list PySem.F.slot_list_pop PySem.F.type_list_pop mt_popAt pe_sem (pa_cons pe_sem pa_nil hs) hbase hfew hline hs hplain) (ho σ G H s _ fun u G1 H1 g1 r1 => ?_)
  have r1 : u = .ref a := r1
  subst r1
  have s1 := s.grow g1
  obtain ⟨u1, h1, vs1, e1, t1⟩ := cell_at s1.mem hj
  subst e1
  refine ⟨.inl ⟨rfl, _, SqL.of h1⟩, he σ G1 H1 s1 _ fun z v G2 H2 hp gg s2 r2 => ?_⟩
  have r2 : v = .int (i z) := r2
  subst r2
  obtain ⟨u2, h2, vs2, e2, t2⟩ := cell_at s2.mem (hj' z hp)
  subst e2
  obtain ⟨y, hy, ry⟩ := t2.get (hi z hp)
  have hlt : i z < vs2.length := (List.getElem?_eq_some_iff.mp hy).1
  have hl2 := t2.len
  have p1 : (i z : Int) < 2 ^ 63 := by have : (100000 : Int) < 2 ^ 63 := by decide
                                       omega
  refine ⟨a, vs2, i z, i z, y, rfl, rfl, h2, by omega, p1, ?_, hy, q z y G2 _ hp (g1.gg.trans gg) (s2.put (hj' z hp) hw ⟨_, rfl, t2.eraseIdx _⟩) ry⟩
  have hx : ixN vs2.length (i z : Int) = some (i z) := by
    unfold ixN
    rw [if_pos (by omega), if_pos (by omega)]
    simp
  exact (ixN_seq hx).1
/-- xs.append(e), xs.extend(e) as statements -/
theorem tr_append {a : Addr} {rs : List Rp} (j : Nat) (ho : DE X B ρ M o (rV (.ref a))) (he : DE X B ρ M e R) (hj : M[j]? = some (cL a rs)) (hw : B.F a ∨ B.H a = none) (hz : rs.length < 100000) (k : Tr X B ρ (M.set j (cL a (rs ++ [R]))) rest D) (hs' : swapsWith (.Call (.Attribute o "append" apos) [e] [] cpos) none pos.line X.env = pure false := by rfl)
    (hbase : attributeBase o "append" X.env (eval o X.env) = eval o X.env := by rfl)
    (hfew : ((backTo cpos (starEach [e] X.env)).all (fun x => !x.1) && (backToKw cpos (keywordEach [] X.env)).all (fun x => x.1.isSome) && decide (([e] : List Expr).length + ([] : List Keyword).length + (if ([] : List Keyword).isEmpty then 0 else 1) < 30)) = true := by rfl)
    (hline : (apos.endLine == cpos.line) = true := by rfl) (hs : starEach [e] X.env = (false, eval e X.env) :: starEach [] X.env := by rfl) (hplain : (backTo cpos (starEach [] X.env)).any (·.1) = false := by rfl) :
    Tr X B ρ M (.Expr (.Call (.Attribute o "append" apos) [e] [] cpos) pos :: rest) D :=
  tr_dropX (xe_append (S := fun _ => R) ho hj he.xe hw hz (fun _ _ => hj) hbase hfew hline hs hplain) (fun _ _ => k) hs'
theorem tr_extend {a : Addr} {rs ss : List Rp} (j : Nat) (ho : DE X B ρ M o (rV (.ref a))) (he : DE X B ρ M e R) (hl : LVw M R ss) (hj : M[j]? = some (cL a rs)) (hw : B.F a ∨ B.H a = none) (hz : rs.length + ss.length ≤ 100000) (k : Tr X B ρ (M.set j (cL a (rs ++ ss))) rest D) (hs' : swapsWith (.Call (.Attribute o "extend" apos) [e] [] cpos) none pos.line X.env = pure false := by rfl)
    (hbase : attributeBase o "extend" X.env (eval o X.env) = eval o X.env := by rfl)
    (hfew : ((backTo cpos (starEach [e] X.env)).all (fun x => !x.1) && (backToKw cpos (keywordEach [] X.env)).all (fun x => x.1.isSome) && decide (([e] : List Expr).length + ([] : List Keyword).length + (if ([] : List Keyword).isEmpty then 0 else 1) < 30)) = true := by rfl)
    (hline : (apos.endLine == cpos.line) = true := by rfl) (hs : starEach [e] X.env = (false, eval e X.env) :: starEach [] X.env := by rfl) (hplain : (backTo cpos (starEach [] X.env)).any (·.1) = false := by rfl) :
    Tr X B ρ M (.Expr (.Call (.Attribute o "extend" apos) [e] [] cpos) pos :: rest) D :=
  tr_dropX (xe_extend ho hj he hl hw hz hbase hfew hline hs hplain) (fun _ _ => k) hs'
end
end KL

/-! KComp2 -/
/-! List comprehensions of two clauses; those that are stored into a local name. -/
namespace KL
open PySem PySem.Spec PyProof.Rows L2 KM
section
variable {X : Cx} {B : Base} {ρ : Sl} {M : List Cell} {e elt iter iter1 : Expr} {R Rit : Rp} {W : Wp} {pos : Pos}
theorem sl_two {ρ : Sl} {j k : Nat} (h : j ≠ k) (a b : Option Rp) : (((((ρ.set k none).set j none).set j a).set k none).set k b) = (ρ.set j a).set k b := by
  rw [List.set_set, List.set_set, List.set_comm none a (Ne.symm h), List.set_set]
theorem no_D {G H G' H' : Hp} {D : Addr} {o : HO} (g : Grow G H G' H') (n : G D = none) (h : H D = some o) (nt : isTup o = false := by rfl) : G' D = none := by
  cases z : G' D with
  | none => rfl
  | some o' =>
    have e := (g.sub D o' z).symm.trans (g.hh D o h)
    cases e
    rcases g.new D _ z with z | z | z
    · rw [n] at z; cases z
    · rw [h] at z; cases z
    · rw [nt] at z; cases z
/-- the new list at D has one item more -/
theorem grow_D {G H G' H' : Hp} {D : Addr} {o u : HO} (g : Grow G H G' H') (n' : G' D = none) (h : H D = none) : Grow G H G' (upd H' D u) :=
  ⟨g.gg, fun c o z => by rw [upd_ne (ne_of_none z n')]; exact g.sub c o z, fun c o z => by rw [upd_ne (ne_of_none z h)]; exact g.hh c o z, g.new⟩
theorem tlc2_core {α β : Type} (xs : List α) (rf : α → Rp) (ys : α → List β) (rg : β → Rp) (f : α → β → Rp) {tl tl1 te : TE} {j k : Nat} (hjk : j ≠ k) {σ : L2.St} {G H : Hp} {R1 : α → Rp} (hsv : SVp (memP M) Rit (xs.map rf)) (hsv1 : ∀ x ∈ xs, SVp (memP M) (R1 x) ((ys x).map rg)) (hz : (xs.flatMap fun x => (ys x).map (f x)).length ≤ 100000) (s : Stt B ρ M σ G H)
    (it : ∀ Q : VK, (∀ v G' H', Grow G H G' H' → Rit.p G' v → Q v H') → tl σ H Q)
    (it1 : ∀ x ∈ xs, ∀ σ2 G2 H2, Stt B ((ρ.set k none).set j (some (rf x))) M σ2 G2 H2 → ∀ Q : VK, (∀ v G' H', Grow G2 H2 G' H' → (R1 x).p G' v → Q v H') → tl1 σ2 H2 Q)
    (he : ∀ x ∈ xs, ∀ y ∈ ys x, ∀ σ2 G2 H2, Stt B ((ρ.set j (some (rf x))).set k (some (rg y))) M σ2 G2 H2 → ∀ Q : VK, (∀ v G' H', Grow G2 H2 G' H' → (f x y).p G' v → Q v H') → te σ2 H2 Q)
    (Q : VK) (q : ∀ p o G' H', Grow G H G' H' → G' p = none → H p = none → H' p = some o → (wL (xs.flatMap fun x => (ys x).map (f x))).w G' o → Q (.ref p) H') : tLc2 (iSeq tl) (gName j) tYes (iSeq tl1) (gName k) tYes te [j, k] [k] σ H Q := by
  refine it _ fun u G1 H1 g1 r1 => ?_
  have s1 := s.grow g1
  obtain ⟨a, mk, ea, hmk, hv⟩ := hsv G1 H1 u g1.sub s1.mem r1
  obtain ⟨vs1, ho1, hr1⟩ := hv G1 H1 (Same.refl _) g1.sub s1.mem
  have inj : ∀ {p q : List V}, mk p = mk q → p = q := fun {p q} h => by rcases hmk with rfl | rfl <;> (injection h)
  refine ⟨a, mk, vs1, ea, hmk, ho1, fun It w D hD => ?_⟩
  obtain ⟨gD, hGD⟩ := new_grow (o := .lst []) g1.sub hD
  refine ⟨fun i m H' => m = xs.length - i ∧ i ≤ xs.length ∧ ∃ G', Grow G1 H1 G' H' ∧ G' D = none ∧ ∃ vs, H' D = some (.lst vs) ∧ All2 G' ((xs.take i).flatMap fun x => (ys x).map (f x)) vs, ⟨xs.length, by simp, Nat.zero_le _, G1, gD, hGD, [], upd_same, .nil⟩, ?_⟩
  rintro i m H' ⟨rfl, hi, G', g', hGD', vs, hDv, hav⟩
  obtain ⟨us, hus, hur⟩ := hv G' H' g'.gg g'.sub (s1.mem.grow g')
  have hul : us.length = xs.length := by rw [← hur.len, List.length_map]
  by_cases hlt : i < xs.length
  · refine .inr ⟨w.1 i H' us us[i] hus (by simp [hul, hlt]), fun H' => ∃ G', Grow G1 H1 G' H' ∧ G' D = none ∧ ∃ vs, H' D = some (.lst vs) ∧ All2 G' ((xs.take (i + 1)).flatMap fun x => (ys x).map (f x)) vs, fun H2 p => ⟨xs.length - (i + 1), by omega, rfl, hlt, p⟩, fun y H2 yy => ?_⟩
    obtain ⟨e2, yy⟩ := w.2.2 i H' y H2 yy
    subst e2
    obtain ⟨r, hr, hry⟩ := hur.get' (yy us hus)
    have hx : xs[i]? = some xs[i] := by simp [hlt]
    rw [List.getElem?_map, hx] at hr
    have er : rf xs[i] = r := Option.some.inj hr
    subst er
    have hxm : xs[i] ∈ xs := List.getElem_mem hlt
    have sg := s1.grow g'
    have s2 : Stt B ((ρ.set k none).set j (some (rf xs[i]))) M (((σ.set k none).set j none).set j (some y)) H2 H2 → True := fun _ => trivial
    have sl2 : Slots G' ((ρ.set k none).set j (some (rf xs[i]))) (((σ.set k none).set j none).set j (some y)) := by
      have h := ((sg.slots.wipe1 k).wipe1 j).set (i := j) hry
      rw [List.set_set] at h
      exact h
    have s3 : Stt B ((ρ.set k none).set j (some (rf xs[i]))) M (((σ.set k none).set j none).set j (some y)) G' H2 := ⟨sg.mv, sl2, sg.mem, sg.pf⟩
    refine ⟨by show (wipe ((wipe σ [j, k]).set j (some y)) [j, k]) = wipe σ [j, k]
               show ((((σ.set k none).set j none).set j (some y)).set k none).set j none = (σ.set k none).set j none
               rw [List.set_set, List.set_comm (some y) none hjk, List.set_set, List.set_set], ?_⟩
    unfold tYes
    dsimp only
    rw [if_pos rfl]
    refine it1 _ hxm _ G' H2 s3 _ fun u4 G4 H4 g4 r4 => ?_
    have s4 := s3.grow g4
    obtain ⟨a4, mk4, ea4, hmk4, hv4⟩ := hsv1 _ hxm G4 H4 u4 s4.sub s4.mem r4
    obtain ⟨vs4, ho4, hr4⟩ := hv4 G4 H4 (Same.refl _) s4.sub s4.mem
    have inj4 : ∀ {p q : List V}, mk4 p = mk4 q → p = q := fun {p q} h => by rcases hmk4 with rfl | rfl <;> (injection h)
    refine ⟨a4, mk4, vs4, ea4, hmk4, ho4, fun It4 w4 => ?_⟩
    refine ⟨fun n m H' => m = (ys xs[i]).length - n ∧ n ≤ (ys xs[i]).length ∧ ∃ G', Grow G1 H1 G' H' ∧ Same G4 G' ∧ G' D = none ∧ ∃ vs, H' D = some (.lst vs) ∧ All2 G' (((xs.take i).flatMap fun x => (ys x).map (f x)) ++ ((ys xs[i]).take n).map (f xs[i])) vs,
      ⟨_, rfl, Nat.zero_le _, G4, g'.trans g4, Same.refl _, no_D g4 hGD' hDv, vs, g4.hh _ _ hDv, by simpa using hav.mono g4.gg⟩, ?_⟩
    rintro n m5 H5 ⟨rfl, hn, G5, g5, sg5, hD5, vs5, hDv5, hav5⟩
    have m5 : Mem G5 H5 M := s1.mem.grow g5
    obtain ⟨us5, hus5, hur5⟩ := hv4 G5 H5 sg5 g5.sub m5
    have hul5 : us5.length = (ys xs[i]).length := by rw [← hur5.len, List.length_map]
    have ext : (xs.take (i + 1)).flatMap (fun x => (ys x).map (f x)) = ((xs.take i).flatMap fun x => (ys x).map (f x)) ++ (ys xs[i]).map (f xs[i]) := by
      rw [List.take_add_one, hx, List.flatMap_append]
      simp
    by_cases hlt5 : n < (ys xs[i]).length
    · refine .inr ⟨w4.1 n H5 us5 us5[n] hus5 (by simp [hul5, hlt5]), fun H' => ∃ G', Grow G1 H1 G' H' ∧ Same G4 G' ∧ G' D = none ∧ ∃ vs, H' D = some (.lst vs) ∧ All2 G' (((xs.take i).flatMap fun x => (ys x).map (f x)) ++ ((ys xs[i]).take (n + 1)).map (f xs[i])) vs, fun H2 p => ⟨(ys xs[i]).length - (n + 1), by omega, rfl, hlt5, p⟩, fun z H6 zz => ?_⟩
      obtain ⟨e6, zz⟩ := w4.2.2 n H5 z H6 zz
      subst e6
      obtain ⟨r6, hr6, hrz⟩ := hur5.get' (zz us5 hus5)
      have hy : (ys xs[i])[n]? = some (ys xs[i])[n] := by simp [hlt5]
      rw [List.getElem?_map, hy] at hr6
      have er6 : rg (ys xs[i])[n] = r6 := Option.some.inj hr6
      subst er6
      have s5 := s1.grow g5
      have sl6 : Slots G5 ((ρ.set j (some (rf xs[i]))).set k (some (rg (ys xs[i])[n]))) ((((((σ.set k none).set j none).set j (some y)).set k none)).set k (some z)) := by
        have h := (((sl2.mono (g4.gg.trans sg5)).wipe1 k)).set (i := k) hrz
        have e : ((((ρ.set k none).set j (some (rf xs[i]))).set k none).set k (some (rg (ys xs[i])[n]))) = (ρ.set j (some (rf xs[i]))).set k (some (rg (ys xs[i])[n])) := by
          rw [List.set_set, List.set_comm none (some (rf xs[i])) (Ne.symm hjk), List.set_set]
        rw [e] at h
        exact h
      have s6 : Stt B ((ρ.set j (some (rf xs[i]))).set k (some (rg (ys xs[i])[n]))) M ((((((σ.set k none).set j none).set j (some y)).set k none)).set k (some z)) G5 H6 := ⟨s5.mv, sl6, s5.mem, s5.pf⟩
      refine ⟨by show (((((((σ.set k none).set j none).set j (some y)).set k none)).set k (some z)).set k none) = ((((σ.set k none).set j none).set j (some y)).set k none)
                 rw [List.set_set, List.set_set], ?_⟩
      rw [if_pos rfl]
      refine he _ hxm _ (List.getElem_mem hlt5) _ G5 H6 s6 _ fun v G7 H7 g7 r7 => ?_
      have hD7 : H7 D = some (.lst vs5) := g7.hh _ _ hDv5
      have n7 := no_D g7 hD5 hDv5
      have hall : All2 G7 (((xs.take i).flatMap fun x => (ys x).map (f x)) ++ ((ys xs[i]).take (n + 1)).map (f xs[i])) (vs5 ++ [v]) := by
        rw [List.take_add_one, hy, List.map_append, ← List.append_assoc]
        exact (hav5.mono g7.gg).snoc r7
      refine ⟨vs5, hD7, ?_, G7, grow_D (o := .lst []) (g5.trans g7) n7 hD, sg5.trans g7.gg, n7, vs5 ++ [v], upd_same, hall⟩
      have l1 := hall.len
      rw [List.length_append (as := vs5)] at l1
      have l2 : (((xs.take i).flatMap fun x => (ys x).map (f x)) ++ ((ys xs[i]).take (n + 1)).map (f xs[i])).length ≤ (xs.flatMap fun x => (ys x).map (f x)).length := by
        have e1 : xs.flatMap (fun x => (ys x).map (f x)) = ((xs.take (i + 1)).flatMap fun x => (ys x).map (f x)) ++ ((xs.drop (i + 1)).flatMap fun x => (ys x).map (f x)) := by
          rw [← List.flatMap_append, List.take_append_drop]
        rw [e1, ext, List.length_append, List.length_append, List.length_append, List.length_map, List.length_map, List.length_take]
        omega
      have l3 : ([v] : List V).length = 1 := rfl
      exact small5' (by omega)
    · have en : n = (ys xs[i]).length := by omega
      refine .inl ⟨w4.2.1 n H5 us5 hus5 (by omega), G5, g5, hD5, vs5, hDv5, ?_⟩
      rw [ext]
      rw [en, List.take_length] at hav5
      exact hav5
  · have en : i = xs.length := by omega
    refine .inl ⟨w.2.1 i H' us hus (by omega), ?_⟩
    rw [en, List.take_length] at hav
    exact q D _ G' H' (g1.trans g') hGD' (g1.hh.free hD) hDv ⟨vs, rfl, hav⟩
variable {y z : Str} {py pz : Pos} {scope : Scope}
theorem ne_lc2 {α β : Type} (j k : Nat) (nd : X.N.Nodup) (xs : List α) (rf : α → Rp) (ys : α → List β) (rg : β → Rp) (f : α → β → Rp) (R1 : α → Rp) (it : DE X B ρ M iter Rit) (hsv : SVp (memP M) Rit (xs.map rf)) (hz : (xs.flatMap fun x => (ys x).map (f x)).length ≤ 100000)
    (it1 : ∀ x ∈ xs, AllB X scope fun X' => DE X' B ((ρ.set k none).set j (some (rf x))) M iter1 (R1 x)) (hsv1 : ∀ x ∈ xs, SVp (memP M) (R1 x) ((ys x).map rg))
    (he : ∀ x ∈ xs, ∀ y ∈ ys x, AllB X scope fun X' => DE X' B ((ρ.set j (some (rf x))).set k (some (rg y))) M elt (f x y)) (hjk : j ≠ k := by decide) (ok : BlkOk X.N X.env.scope scope [(y, j), (z, k)] := by exact blkOk_by (by kernel_rfl)) (hj : X.N[j]? = some y := by rfl) (hk : X.N[k]? = some z := by rfl)
    (hx : AllB X scope (fun X' => L2.Loc X'.env.scope y) := by first | exact fun _ _ _ _ _ => .inl rfl | exact fun _ _ _ _ _ => .inr rfl) (hf : AllB X scope (fun X' => X'.fn y = true ∨ X'.env.scope.names.lookup y = some .local) := by first | exact fun _ _ _ _ _ => .inl rfl | exact fun _ _ _ _ _ => .inr rfl)
    (hx1 : AllB X scope (fun X' => L2.Loc X'.env.scope z) := by first | exact fun _ _ _ _ _ => .inl rfl | exact fun _ _ _ _ _ => .inr rfl) (hf1 : AllB X scope (fun X' => X'.fn z = true ∨ X'.env.scope.names.lookup z = some .local) := by first | exact fun _ _ _ _ _ => .inl rfl | exact fun _ _ _ _ _ => .inr rfl)
    (hc : X.calm = true := by rfl) (hs : ∀ x, foldedSetIterable iter X.env x = pure x := by intro _; rfl) (hs1 : ∀ env x, foldedSetIterable iter1 env x = pure x := by intro _ _; rfl) :
    NE X B ρ M (.ListComp elt [⟨.Name y py, iter, [], 0⟩, ⟨.Name z pz, iter1, [], 0⟩] scope pos) (wL (xs.flatMap fun x => (ys x).map (f x))) := fun σ G H s Q q => by
  refine sem_e (pe_lc2 (own := [(y, j), (z, k)]) (vs1 := [k]) (g := gName j) (g1 := gName k) (tt := tYes) (tt1 := tYes) (wi1 := iSeq (blkE X scope iter1)) (te := blkE X scope elt) hc nd (pi_seq pe_sem) ok (by simp) (fun s H C cl fp => pg_name nd hj (hx s H C cl fp) (hf s H C cl fp)) (fun _ _ _ _ _ => pts_nil)
    (fun s H C cl fp => pi_seq (pe_blk s H C cl fp)) (fun s H C cl fp => pg_name nd hk (hx1 s H C cl fp) (hf1 s H C cl fp)) (fun _ _ _ _ _ => pts_nil) (fun s H C cl fp => pe_blk s H C cl fp) hs hs1) ?_
  exact tlc2_core xs rf ys rg f hjk hsv hsv1 hz s (it σ G H s) (fun x hx σ2 G2 H2 s2 Q q s0 H0 C cl fp => it1 x hx s0 H0 C cl fp σ2 G2 H2 s2 Q q) (fun x hx y hy σ2 G2 H2 s2 Q q s0 H0 C cl fp => he x hx y hy s0 H0 C cl fp σ2 G2 H2 s2 Q q) Q q

/-! ### name = [..], the name a local -/
variable {rest : List Stmt} {D : Ends} {x : Str} {px spos : Pos} 
theorem tr_ownLc {α : Type} (i j : Nat) (nd : X.N.Nodup) (xs : List α) (rf f : α → Rp) (it : DE X B ρ M iter Rit) (hsv : SVp (memP M) Rit (xs.map rf)) (hz : xs.length ≤ 100000)
    (he : ∀ x ∈ xs, AllB X scope fun X' => DE X' B (ρ.set j (some (rf x))) M elt (f x)) (kk : ∀ a, B.H a = none → Tr X B (ρ.set i (some (rV (.ref a)))) (M ++ [cL a (xs.map f)]) rest D) (ok : BlkOk X.N X.env.scope scope [(y, j)] := by exact blkOk_by (by kernel_rfl)) (hi : X.N[i]? = some x := by rfl) (hxl : X.env.scope.names.lookup x = some .local := by rfl)
    (hsw : swapsWith (.ListComp elt [⟨.Name y py, iter, [], 0⟩] scope pos) (some (.Name x px)) spos.line X.env = pure true := by exact sw_true rfl rfl rfl (by kernel_rfl)) (hj : X.N[j]? = some y := by rfl)
    (hx : AllB X scope (fun X' => L2.Loc X'.env.scope y) := by first | exact fun _ _ _ _ _ => .inl rfl | exact fun _ _ _ _ _ => .inr rfl) (hf : AllB X scope (fun X' => X'.fn y = true ∨ X'.env.scope.names.lookup y = some .local) := by first | exact fun _ _ _ _ _ => .inl rfl | exact fun _ _ _ _ _ => .inr rfl)
    (hc : X.calm = true := by rfl) (hs : ∀ x, foldedSetIterable iter X.env x = pure x := by intro _; rfl) : Tr X B ρ M (.Assign [.Name x px] (.ListComp elt [⟨.Name y py, iter, [], 0⟩] scope pos) spos :: rest) D := tr_sem fun σ G H s => by
  refine sem_s (ps_setLc (own := [(y, j)]) (g := gName j) (tt := tYes) (te := blkE X scope elt) hc nd hi hxl hsw (pi_seq pe_sem) ok (fun s H C cl fp => pg_name nd hj (hx s H C cl fp) (hf s H C cl fp)) (fun _ _ _ _ _ => pts_nil) (fun s H C cl fp => pe_blk s H C cl fp) hs) ?_
  refine tlc_core xs rf (fun _ => true) f hsv hz s (it σ G H s) (fun x hx σ2 G2 H2 s2 Q q => q G2 H2 (Grow.refl s2.sub)) (fun x hx _ σ2 G2 H2 s2 Q q s0 H0 C cl fp => he x hx s0 H0 C cl fp σ2 G2 H2 s2 Q q) _ ?_
  rw [List.filter_eq_self.mpr (fun _ _ => rfl)]
  exact fun p o G' H' g hg hh hp hw => kk p (s.none_of hh) _ G' H' ((own_new s g hg hh hp hw).set rfl)
theorem tr_ownLcIf {α : Type} {c : Expr} (i j : Nat) (nd : X.N.Nodup) (xs : List α) (rf f : α → Rp) (b : α → Bool) (it : DE X B ρ M iter Rit) (hsv : SVp (memP M) Rit (xs.map rf)) (hz : xs.length ≤ 100000)
    (ht : ∀ x ∈ xs, AllB X scope fun X' => DT X' B (ρ.set j (some (rf x))) M c (b x)) (he : ∀ x ∈ xs, b x = true → AllB X scope fun X' => DE X' B (ρ.set j (some (rf x))) M elt (f x)) (kk : ∀ a, B.H a = none → Tr X B (ρ.set i (some (rV (.ref a)))) (M ++ [cL a ((xs.filter b).map f)]) rest D) (ok : BlkOk X.N X.env.scope scope [(y, j)] := by exact blkOk_by (by kernel_rfl)) (hi : X.N[i]? = some x := by rfl) (hxl : X.env.scope.names.lookup x = some .local := by rfl)
    (hsw : swapsWith (.ListComp elt [⟨.Name y py, iter, [c], 0⟩] scope pos) (some (.Name x px)) spos.line X.env = pure true := by exact sw_true rfl rfl rfl (by kernel_rfl)) (hj : X.N[j]? = some y := by rfl)
    (hx : AllB X scope (fun X' => L2.Loc X'.env.scope y) := by first | exact fun _ _ _ _ _ => .inl rfl | exact fun _ _ _ _ _ => .inr rfl) (hf : AllB X scope (fun X' => X'.fn y = true ∨ X'.env.scope.names.lookup y = some .local) := by first | exact fun _ _ _ _ _ => .inl rfl | exact fun _ _ _ _ _ => .inr rfl)
    (hc : X.calm = true := by rfl) (hs : ∀ x, foldedSetIterable iter X.env x = pure x := by intro _; rfl) : Tr X B ρ M (.Assign [.Name x px] (.ListComp elt [⟨.Name y py, iter, [c], 0⟩] scope pos) spos :: rest) D := tr_sem fun σ G H s => by
  refine sem_s (ps_setLc (own := [(y, j)]) (g := gName j) (tt := blkT X scope c) (te := blkE X scope elt) hc nd hi hxl hsw (pi_seq pe_sem) ok (fun s H C cl fp => pg_name nd hj (hx s H C cl fp) (hf s H C cl fp)) (fun s H C cl fp => pts_one (pt_blk s H C cl fp)) (fun s H C cl fp => pe_blk s H C cl fp) hs) ?_
  refine tlc_core xs rf b f hsv hz s (it σ G H s) (fun x hx σ2 G2 H2 s2 Q q s0 H0 C cl fp => ht x hx s0 H0 C cl fp σ2 G2 H2 s2 Q q) (fun x hx hb σ2 G2 H2 s2 Q q s0 H0 C cl fp => he x hx hb s0 H0 C cl fp σ2 G2 H2 s2 Q q) _ ?_
  exact fun p o G' H' g hg hh hp hw => kk p (s.none_of hh) _ G' H' ((own_new s g hg hh hp hw).set rfl)
theorem tr_ownLc2 {α β : Type} (i j k : Nat) (nd : X.N.Nodup) (xs : List α) (rf : α → Rp) (ys : α → List β) (rg : β → Rp) (f : α → β → Rp) (R1 : α → Rp) (it : DE X B ρ M iter Rit) (hsv : SVp (memP M) Rit (xs.map rf)) (hz : (xs.flatMap fun x => (ys x).map (f x)).length ≤ 100000)
    (it1 : ∀ x ∈ xs, AllB X scope fun X' => DE X' B ((ρ.set k none).set j (some (rf x))) M iter1 (R1 x)) (hsv1 : ∀ x ∈ xs, SVp (memP M) (R1 x) ((ys x).map rg))
    (he : ∀ x ∈ xs, ∀ y ∈ ys x, AllB X scope fun X' => DE X' B ((ρ.set j (some (rf x))).set k (some (rg y))) M elt (f x y)) (kk : ∀ a, B.H a = none → Tr X B (ρ.set i (some (rV (.ref a)))) (M ++ [cL a (xs.flatMap fun x => (ys x).map (f x))]) rest D) (hjk : j ≠ k := by decide) (ok : BlkOk X.N X.env.scope scope [(y, j), (z, k)] := by exact blkOk_by (by kernel_rfl)) (hi : X.N[i]? = some x := by rfl) (hxl : X.env.scope.names.lookup x = some .local := by rfl)
    (hsw : swapsWith (.ListComp elt [⟨.Name y py, iter, [], 0⟩, ⟨.Name z pz, iter1, [], 0⟩] scope pos) (some (.Name x px)) spos.line X.env = pure true := by exact sw_true rfl rfl rfl (by kernel_rfl)) (hj : X.N[j]? = some y := by rfl) (hk : X.N[k]? = some z := by rfl)
    (hx : AllB X scope (fun X' => L2.Loc X'.env.scope y) := by first | exact fun _ _ _ _ _ => .inl rfl | exact fun _ _ _ _ _ => .inr rfl) (hf : AllB X scope (fun X' => X'.fn y = true ∨ X'.env.scope.names.lookup y = some .local) := by first | exact fun _ _ _ _ _ => .inl rfl | exact fun _ _ _ _ _ => .inr rfl)
    (hx1 : AllB X scope (fun X' => L2.Loc X'.env.scope z) := by first | exact fun _ _ _ _ _ => .inl rfl | exact fun _ _ _ _ _ => .inr rfl) (hf1 : AllB X scope (fun X' => X'.fn z = true ∨ X'.env.scope.names.lookup z = some .local) := by first | exact fun _ _ _ _ _ => .inl rfl | exact fun _ _ _ _ _ => .inr rfl)
    (hc : X.calm = true := by rfl) (hs : ∀ x, foldedSetIterable iter X.env x = pure x := by intro _; rfl) (hs1 : ∀ env x, foldedSetIterable iter1 env x = pure x := by intro _ _; rfl) :
    Tr X B ρ M (.Assign [.Name x px] (.ListComp elt [⟨.Name y py, iter, [], 0⟩, ⟨.Name z pz, iter1, [], 0⟩] scope pos) spos :: rest) D := tr_sem fun σ G H s => by
  refine sem_s (ps_setLc2 (own := [(y, j), (z, k)]) (vs1 := [k]) (g := gName j) (g1 := gName k) (tt := tYes) (tt1 := tYes) (wi1 := iSeq (blkE X scope iter1)) (te := blkE X scope elt) hc nd hi hxl hsw (pi_seq pe_sem) ok (by simp) (fun s H C cl fp => pg_name nd hj (hx s H C cl fp) (hf s H C cl fp)) (fun _ _ _ _ _ => pts_nil)
    (fun s H C cl fp => pi_seq (pe_blk s H C cl fp)) (fun s H C cl fp => pg_name nd hk (hx1 s H C cl fp) (hf1 s H C cl fp)) (fun _ _ _ _ _ => pts_nil) (fun s H C cl fp => pe_blk s H C cl fp) hs hs1) ?_
  refine tlc2_core xs rf ys rg f hjk hsv hsv1 hz s (it σ G H s) (fun x hx σ2 G2 H2 s2 Q q s0 H0 C cl fp => it1 x hx s0 H0 C cl fp σ2 G2 H2 s2 Q q) (fun x hx y hy σ2 G2 H2 s2 Q q s0 H0 C cl fp => he x hx y hy s0 H0 C cl fp σ2 G2 H2 s2 Q q) _ ?_
  exact fun p o G' H' g hg hh hp hw => kk p (s.none_of hh) _ G' H' ((own_new s g hg hh hp hw).set rfl)
end
end KL

/-! KDefs -/
/-! The text by places (printed by gen_scopes.py). -/
namespace KL
open PySem PySem.Spec PyProof.Rows L2 KM
def tops (i : Nat) : Stmt := PySem.Challenge.pw_lastopen_k64_whole_webs_great.main.body.getD i (.Pass ⟨0, 0, 0, 0⟩)
abbrev s_is_list : Stmt := tops 13
abbrev n_is_list : List Str := ["thing"]
abbrev p_is_list : List Str := ["thing"]
theorem sc_is_list : FnScope n_is_list p_is_list (defScope s_is_list) := ⟨rfl, rfl, rfl, by decide +kernel, rfl, by decide +kernel, by decide +kernel⟩
abbrev s_is_name : Stmt := tops 14
abbrev n_is_name : List Str := ["thing", "sign"]
abbrev p_is_name : List Str := ["thing"]
theorem sc_is_name : FnScope n_is_name p_is_name (defScope s_is_name) := ⟨rfl, rfl, rfl, by decide +kernel, rfl, by decide +kernel, by decide +kernel⟩
abbrev s_checked_names : Stmt := tops 15
abbrev n_checked_names : List Str := ["things", "known", "found", "index", "thing"]
abbrev p_checked_names : List Str := ["things", "known"]
theorem sc_checked_names : FnScope n_checked_names p_checked_names (defScope s_checked_names) := ⟨rfl, rfl, rfl, by decide +kernel, rfl, by decide +kernel, by decide +kernel⟩
abbrev s_name_of : Stmt := tops 16
abbrev n_name_of : List Str := ["literal"]
abbrev p_name_of : List Str := ["literal"]
theorem sc_name_of : FnScope n_name_of p_name_of (defScope s_name_of) := ⟨rfl, rfl, rfl, by decide +kernel, rfl, by decide +kernel, by decide +kernel⟩
abbrev s_opposite : Stmt := tops 17
abbrev n_opposite : List Str := ["literal"]
abbrev p_opposite : List Str := ["literal"]
theorem sc_opposite : FnScope n_opposite p_opposite (defScope s_opposite) := ⟨rfl, rfl, rfl, by decide +kernel, rfl, by decide +kernel, by decide +kernel⟩
abbrev s_is_literal : Stmt := tops 18
abbrev n_is_literal : List Str := ["thing", "names"]
abbrev p_is_literal : List Str := ["thing", "names"]
theorem sc_is_literal : FnScope n_is_literal p_is_literal (defScope s_is_literal) := ⟨rfl, rfl, rfl, by decide +kernel, rfl, by decide +kernel, by decide +kernel⟩
abbrev s_first_wrong : Stmt := tops 19
abbrev n_first_wrong : List Str := ["things", "names", "met", "index", "thing"]
abbrev p_first_wrong : List Str := ["things", "names"]
theorem sc_first_wrong : FnScope n_first_wrong p_first_wrong (defScope s_first_wrong) := ⟨rfl, rfl, rfl, by decide +kernel, rfl, by decide +kernel, by decide +kernel⟩
abbrev s_ascending : Stmt := tops 20
abbrev n_ascending : List Str := ["literals", "names", "found", "name", "literal"]
abbrev p_ascending : List Str := ["literals", "names"]
theorem sc_ascending : FnScope n_ascending p_ascending (defScope s_ascending) := ⟨rfl, rfl, rfl, by decide +kernel, rfl, by decide +kernel, by decide +kernel⟩
abbrev s_full_settings : Stmt := tops 21
abbrev n_full_settings : List Str := ["names", "found", "name", "setting", "literal"]
abbrev p_full_settings : List Str := ["names"]
theorem sc_full_settings : FnScope n_full_settings p_full_settings (defScope s_full_settings) := ⟨rfl, rfl, rfl, by decide +kernel, rfl, by decide +kernel, by decide +kernel⟩
abbrev s_literals_of : Stmt := tops 22
abbrev n_literals_of : List Str := ["names", "name", "literal"]
abbrev p_literals_of : List Str := ["names"]
theorem sc_literals_of : FnScope n_literals_of p_literals_of (defScope s_literals_of) := ⟨rfl, rfl, rfl, by decide +kernel, rfl, by decide +kernel, by decide +kernel⟩
abbrev s_Rule_init : Stmt := inClass (tops 25) 0
abbrev n_Rule_init : List Str := ["self", "signs", "settings", "setting"]
abbrev p_Rule_init : List Str := ["self", "signs", "settings"]
theorem sc_Rule_init : FnScope n_Rule_init p_Rule_init (defScope s_Rule_init) := ⟨rfl, rfl, rfl, by decide +kernel, rfl, by decide +kernel, by decide +kernel⟩
abbrev s_Rule_settings : Stmt := inClass (tops 25) 2
abbrev n_Rule_settings : List Str := ["self", "setting"]
abbrev p_Rule_settings : List Str := ["self"]
theorem sc_Rule_settings : FnScope n_Rule_settings p_Rule_settings (defScope s_Rule_settings) := ⟨rfl, rfl, rfl, by decide +kernel, rfl, by decide +kernel, by decide +kernel⟩
abbrev s_checked_settings : Stmt := tops 26
abbrev n_checked_settings : List Str := ["settings", "names", "found", "index", "thing"]
abbrev p_checked_settings : List Str := ["settings", "names"]
theorem sc_checked_settings : FnScope n_checked_settings p_checked_settings (defScope s_checked_settings) := ⟨rfl, rfl, rfl, by decide +kernel, rfl, by decide +kernel, by decide +kernel⟩
abbrev s_forced_literals : Stmt := tops 27
abbrev n_forced_literals : List Str := ["settings", "setting", "some", "literal", "one"]
abbrev p_forced_literals : List Str := ["settings", "setting"]
theorem sc_forced_literals : FnScope n_forced_literals p_forced_literals (defScope s_forced_literals) := ⟨rfl, rfl, rfl, by decide +kernel, rfl, by decide +kernel, by decide +kernel⟩
abbrev s_open_ones : Stmt := tops 29
abbrev n_open_ones : List Str := ["clause", "so", "found", "literal"]
abbrev p_open_ones : List Str := ["clause", "so"]
theorem sc_open_ones : FnScope n_open_ones p_open_ones (defScope s_open_ones) := ⟨rfl, rfl, rfl, by decide +kernel, rfl, by decide +kernel, by decide +kernel⟩
abbrev s_chase : Stmt := tops 30
abbrev n_chase : List Str := ["clauses", "setting", "so", "steps", "is_moved", "index", "clause", "left", "literal"]
abbrev p_chase : List Str := ["clauses", "setting"]
theorem sc_chase : FnScope n_chase p_chase (defScope s_chase) := ⟨rfl, rfl, rfl, by decide +kernel, rfl, by decide +kernel, by decide +kernel⟩
abbrev s_filled : Stmt := tops 31
abbrev n_filled : List Str := ["clauses", "names", "setting", "so", "steps", "left", "literal", "found", "name"]
abbrev p_filled : List Str := ["clauses", "names", "setting"]
theorem sc_filled : FnScope n_filled p_filled (defScope s_filled) := ⟨rfl, rfl, rfl, by decide +kernel, rfl, by decide +kernel, by decide +kernel⟩
abbrev s_checked_clauses : Stmt := tops 33
abbrev n_checked_clauses : List Str := ["clauses", "names", "found", "index", "thing"]
abbrev p_checked_clauses : List Str := ["clauses", "names"]
theorem sc_checked_clauses : FnScope n_checked_clauses p_checked_clauses (defScope s_checked_clauses) := ⟨rfl, rfl, rfl, by decide +kernel, rfl, by decide +kernel, by decide +kernel⟩
abbrev s_Code_init : Stmt := inClass (tops 34) 0
abbrev n_Code_init : List Str := ["self", "signs", "clauses", "helpers", "clause"]
abbrev p_Code_init : List Str := ["self", "signs", "clauses", "helpers"]
theorem sc_Code_init : FnScope n_Code_init p_Code_init (defScope s_Code_init) := ⟨rfl, rfl, rfl, by decide +kernel, rfl, by decide +kernel, by decide +kernel⟩
abbrev s_Code_fill : Stmt := inClass (tops 34) 8
abbrev n_Code_fill : List Str := ["self", "setting"]
abbrev p_Code_fill : List Str := ["self", "setting"]
theorem sc_Code_fill : FnScope n_Code_fill p_Code_fill (defScope s_Code_fill) := ⟨rfl, rfl, rfl, by decide +kernel, rfl, by decide +kernel, by decide +kernel⟩
abbrev s_Code_rule : Stmt := inClass (tops 34) 9
abbrev n_Code_rule : List Str := ["self", "some", "setting"]
abbrev p_Code_rule : List Str := ["self"]
theorem sc_Code_rule : FnScope n_Code_rule p_Code_rule (defScope s_Code_rule) := ⟨rfl, rfl, rfl, by decide +kernel, rfl, by decide +kernel, by decide +kernel⟩
abbrev s_Code_add : Stmt := inClass (tops 34) 11
abbrev n_Code_add : List Str := ["self", "other", "name", "signs"]
abbrev p_Code_add : List Str := ["self", "other"]
theorem sc_Code_add : FnScope n_Code_add p_Code_add (defScope s_Code_add) := ⟨rfl, rfl, rfl, by decide +kernel, rfl, by decide +kernel, by decide +kernel⟩
abbrev s_check_setting : Stmt := tops 37
abbrev n_check_setting : List Str := ["setting", "names", "wrong"]
abbrev p_check_setting : List Str := ["setting", "names"]
theorem sc_check_setting : FnScope n_check_setting p_check_setting (defScope s_check_setting) := ⟨rfl, rfl, rfl, by decide +kernel, rfl, by decide +kernel, by decide +kernel⟩
abbrev s_Web_init : Stmt := inClass (tops 39) 0
abbrev n_Web_init : List Str := ["self", "codes", "lumps", "index", "code", "near", "sign", "lump", "name"]
abbrev p_Web_init : List Str := ["self", "codes"]
theorem sc_Web_init : FnScope n_Web_init p_Web_init (defScope s_Web_init) := ⟨rfl, rfl, rfl, by decide +kernel, rfl, by decide +kernel, by decide +kernel⟩
abbrev s_Web_forced : Stmt := inClass (tops 39) 6
abbrev n_Web_forced : List Str := ["self", "setting", "known", "is_moved", "code", "settings", "found", "one", "literal"]
abbrev p_Web_forced : List Str := ["self", "setting"]
theorem sc_Web_forced : FnScope n_Web_forced p_Web_forced (defScope s_Web_forced) := ⟨rfl, rfl, rfl, by decide +kernel, rfl, by decide +kernel, by decide +kernel⟩
abbrev s_check_codes : Stmt := tops 40
abbrev n_check_codes : List Str := ["codes", "index", "code"]
abbrev p_check_codes : List Str := ["codes"]
theorem sc_check_codes : FnScope n_check_codes p_check_codes (defScope s_check_codes) := ⟨rfl, rfl, rfl, by decide +kernel, rfl, by decide +kernel, by decide +kernel⟩
abbrev s_check_code : Stmt := tops 41
abbrev n_check_code : List Str := ["code", "ahead", "name", "other"]
abbrev p_check_code : List Str := ["code", "ahead"]
theorem sc_check_code : FnScope n_check_code p_check_code (defScope s_check_code) := ⟨rfl, rfl, rfl, by decide +kernel, rfl, by decide +kernel, by decide +kernel⟩
abbrev s_l_draw : Stmt := tops 43
abbrev n_l_draw : List Str := ["_law_stream", "_law_many", "_law_digit", "_law_mixed_here"]
abbrev p_l_draw : List Str := ["_law_stream", "_law_many"]
theorem sc_l_draw : FnScope n_l_draw p_l_draw (defScope s_l_draw) := ⟨rfl, rfl, rfl, by decide +kernel, rfl, by decide +kernel, by decide +kernel⟩
abbrev s_l_pick : Stmt := tops 44
abbrev n_l_pick : List Str := ["_law_stream", "_law_things"]
abbrev p_l_pick : List Str := ["_law_stream", "_law_things"]
theorem sc_l_pick : FnScope n_l_pick p_l_pick (defScope s_l_pick) := ⟨rfl, rfl, rfl, by decide +kernel, rfl, by decide +kernel, by decide +kernel⟩
abbrev s_l_mixed : Stmt := tops 45
abbrev n_l_mixed : List Str := ["_law_stream", "_law_things", "_law_left", "_law_k"]
abbrev p_l_mixed : List Str := ["_law_stream", "_law_things"]
theorem sc_l_mixed : FnScope n_l_mixed p_l_mixed (defScope s_l_mixed) := ⟨rfl, rfl, rfl, by decide +kernel, rfl, by decide +kernel, by decide +kernel⟩
abbrev s_l_fresh : Stmt := tops 46
abbrev n_l_fresh : List Str := ["_law_stream", "_law_taken", "_law_letters", "_law_words", "_law_k", "_law_name", "_law_spare"]
abbrev p_l_fresh : List Str := ["_law_stream", "_law_taken"]
theorem sc_l_fresh : FnScope n_l_fresh p_l_fresh (defScope s_l_fresh) := ⟨rfl, rfl, rfl, by decide +kernel, rfl, by decide +kernel, by decide +kernel⟩
abbrev s_l_neg : Stmt := tops 47
abbrev n_l_neg : List Str := ["_law_one"]
abbrev p_l_neg : List Str := ["_law_one"]
theorem sc_l_neg : FnScope n_l_neg p_l_neg (defScope s_l_neg) := ⟨rfl, rfl, rfl, by decide +kernel, rfl, by decide +kernel, by decide +kernel⟩
abbrev s_l_bare : Stmt := tops 48
abbrev n_l_bare : List Str := ["_law_one"]
abbrev p_l_bare : List Str := ["_law_one"]
theorem sc_l_bare : FnScope n_l_bare p_l_bare (defScope s_l_bare) := ⟨rfl, rfl, rfl, by decide +kernel, rfl, by decide +kernel, by decide +kernel⟩
abbrev s_l_up : Stmt := tops 49
abbrev n_l_up : List Str := ["_law_some", "_law_names", "_law_found_here", "_law_name", "_law_one"]
abbrev p_l_up : List Str := ["_law_some", "_law_names"]
theorem sc_l_up : FnScope n_l_up p_l_up (defScope s_l_up) := ⟨rfl, rfl, rfl, by decide +kernel, rfl, by decide +kernel, by decide +kernel⟩
abbrev s_l_fulls : Stmt := tops 50
abbrev n_l_fulls : List Str := ["_law_names", "_law_found_here", "_law_name", "_law_longer", "_law_one"]
abbrev p_l_fulls : List Str := ["_law_names"]
theorem sc_l_fulls : FnScope n_l_fulls p_l_fulls (defScope s_l_fulls) := ⟨rfl, rfl, rfl, by decide +kernel, rfl, by decide +kernel, by decide +kernel⟩
abbrev s_l_halves : Stmt := tops 51
abbrev n_l_halves : List Str := ["_law_names", "_law_found_here", "_law_level", "_law_size", "_law_longer", "_law_one", "_law_start", "_law_name"]
abbrev p_l_halves : List Str := ["_law_names"]
theorem sc_l_halves : FnScope n_l_halves p_l_halves (defScope s_l_halves) := ⟨rfl, rfl, rfl, by decide +kernel, rfl, by decide +kernel, by decide +kernel⟩
abbrev s_l_meets : Stmt := tops 52
abbrev n_l_meets : List Str := ["_law_clause", "_law_some", "_law_one"]
abbrev p_l_meets : List Str := ["_law_clause", "_law_some"]
theorem sc_l_meets : FnScope n_l_meets p_l_meets (defScope s_l_meets) := ⟨rfl, rfl, rfl, by decide +kernel, rfl, by decide +kernel, by decide +kernel⟩
abbrev s_l_fits : Stmt := tops 53
abbrev n_l_fits : List Str := ["_law_clauses", "_law_some", "_law_clause"]
abbrev p_l_fits : List Str := ["_law_clauses", "_law_some"]
theorem sc_l_fits : FnScope n_l_fits p_l_fits (defScope s_l_fits) := ⟨rfl, rfl, rfl, by decide +kernel, rfl, by decide +kernel, by decide +kernel⟩
abbrev s_l_allowed : Stmt := tops 54
abbrev n_l_allowed : List Str := ["_law_signs", "_law_clauses", "_law_helpers", "_law_rests", "_law_rest", "_law_one"]
abbrev p_l_allowed : List Str := ["_law_signs", "_law_clauses", "_law_helpers"]
theorem sc_l_allowed : FnScope n_l_allowed p_l_allowed (defScope s_l_allowed) := ⟨rfl, rfl, rfl, by decide +kernel, rfl, by decide +kernel, by decide +kernel⟩
abbrev s_l_within : Stmt := tops 55
abbrev n_l_within : List Str := ["_law_part", "_law_clause", "_law_one"]
abbrev p_l_within : List Str := ["_law_part", "_law_clause"]
theorem sc_l_within : FnScope n_l_within p_l_within (defScope s_l_within) := ⟨rfl, rfl, rfl, by decide +kernel, rfl, by decide +kernel, by decide +kernel⟩
abbrev s_l_shortest : Stmt := tops 56
abbrev n_l_shortest : List Str := ["_law_names", "_law_settings", "_law_found_here", "_law_clause", "_law_part", "_law_one"]
abbrev p_l_shortest : List Str := ["_law_names", "_law_settings"]
theorem sc_l_shortest : FnScope n_l_shortest p_l_shortest (defScope s_l_shortest) := ⟨rfl, rfl, rfl, by decide +kernel, rfl, by decide +kernel, by decide +kernel⟩
abbrev s_l_chase : Stmt := tops 57
abbrev n_l_chase : List Str := ["_law_clauses", "_law_half", "_law_so", "_law_many", "_law_clause", "_law_left", "_law_one"]
abbrev p_l_chase : List Str := ["_law_clauses", "_law_half"]
theorem sc_l_chase : FnScope n_l_chase p_l_chase (defScope s_l_chase) := ⟨rfl, rfl, rfl, by decide +kernel, rfl, by decide +kernel, by decide +kernel⟩
abbrev s_l_once : Stmt := tops 58
abbrev n_l_once : List Str := ["_law_clauses", "_law_names", "_law_found_here", "_law_clause"]
abbrev p_l_once : List Str := ["_law_clauses", "_law_names"]
theorem sc_l_once : FnScope n_l_once p_l_once (defScope s_l_once) := ⟨rfl, rfl, rfl, by decide +kernel, rfl, by decide +kernel, by decide +kernel⟩
abbrev s_l_made : Stmt := tops 59
abbrev n_l_made : List Str := ["_law_c"]
abbrev p_l_made : List Str := ["_law_c"]
theorem sc_l_made : FnScope n_l_made p_l_made (defScope s_l_made) := ⟨rfl, rfl, rfl, by decide +kernel, rfl, by decide +kernel, by decide +kernel⟩
abbrev s_l_parted : Stmt := tops 60
abbrev n_l_parted : List Str := ["_law_stream", "_law_c", "_law_at", "_law_name", "_law_clause", "_law_side", "_law_size", "_law_names", "_law_some"]
abbrev p_l_parted : List Str := ["_law_stream", "_law_c"]
theorem sc_l_parted : FnScope n_l_parted p_l_parted (defScope s_l_parted) := ⟨rfl, rfl, rfl, by decide +kernel, rfl, by decide +kernel, by decide +kernel⟩
abbrev s_l_open : Stmt := tops 61
abbrev n_l_open : List Str := ["_law_clauses", "_law_so", "_law_clause", "_law_one"]
abbrev p_l_open : List Str := ["_law_clauses", "_law_so"]
theorem sc_l_open : FnScope n_l_open p_l_open (defScope s_l_open) := ⟨rfl, rfl, rfl, by decide +kernel, rfl, by decide +kernel, by decide +kernel⟩
abbrev s_l_dead_code : Stmt := tops 62
abbrev n_l_dead_code : List Str := ["_law_stream", "_law_signs", "_law_helpers", "_law_allowed_here", "_law_share", "_law_one", "_law_shortest_here", "_law_way", "_law_clauses", "_law_c", "_law_turn", "_law_part"]
abbrev p_l_dead_code : List Str := ["_law_stream", "_law_signs", "_law_helpers"]
theorem sc_l_dead_code : FnScope n_l_dead_code p_l_dead_code (defScope s_l_dead_code) := ⟨rfl, rfl, rfl, by decide +kernel, rfl, by decide +kernel, by decide +kernel⟩
abbrev s_l_web_names : Stmt := tops 63
abbrev n_l_web_names : List Str := ["_law_codes", "_law_found_here", "_law_c", "_law_one"]
abbrev p_l_web_names : List Str := ["_law_codes"]
theorem sc_l_web_names : FnScope n_l_web_names p_l_web_names (defScope s_l_web_names) := ⟨rfl, rfl, rfl, by decide +kernel, rfl, by decide +kernel, by decide +kernel⟩
abbrev s_l_branch : Stmt := tops 64
abbrev n_l_branch : List Str := ["_law_stream", "_law_codes", "_law_taken", "_law_size", "_law_names", "_law_signs", "_law_k"]
abbrev p_l_branch : List Str := ["_law_stream", "_law_codes", "_law_taken", "_law_size"]
theorem sc_l_branch : FnScope n_l_branch p_l_branch (defScope s_l_branch) := ⟨rfl, rfl, rfl, by decide +kernel, rfl, by decide +kernel, by decide +kernel⟩
abbrev s_l_tree : Stmt := tops 65
abbrev n_l_tree : List Str := ["_law_stream", "_law_many", "_law_size", "_law_blind_share", "_law_codes", "_law_taken", "_law_k", "_law_signs", "_law_c", "_law_allowed_here", "_law_renamed_here", "_law_name", "_law_one"]
abbrev p_l_tree : List Str := ["_law_stream", "_law_many", "_law_size", "_law_blind_share"]
theorem sc_l_tree : FnScope n_l_tree p_l_tree (defScope s_l_tree) := ⟨rfl, rfl, rfl, by decide +kernel, rfl, by decide +kernel, by decide +kernel⟩
abbrev s_l_renamed : Stmt := tops 66
abbrev n_l_renamed : List Str := ["_law_c", "_law_renamed_here", "_law_signs", "_law_helpers", "_law_some", "_law_clause", "_law_words", "_law_one", "_law_name"]
abbrev p_l_renamed : List Str := ["_law_c", "_law_renamed_here"]
theorem sc_l_renamed : FnScope n_l_renamed p_l_renamed (defScope s_l_renamed) := ⟨rfl, rfl, rfl, by decide +kernel, rfl, by decide +kernel, by decide +kernel⟩
abbrev s_l_found : Stmt := tops 67
abbrev n_l_found : List Str := ["_law_clauses", "_law_so", "_law_found_here", "_law_one", "_law_more"]
abbrev p_l_found : List Str := ["_law_clauses", "_law_so"]
theorem sc_l_found : FnScope n_l_found p_l_found (defScope s_l_found) := ⟨rfl, rfl, rfl, by decide +kernel, rfl, by decide +kernel, by decide +kernel⟩
abbrev s_law : Stmt := tops 68
abbrev n_law : List Str := ["_law_script", "_law_stream", "_law_codes", "_law_c", "_law_web", "_law_signs", "_law_clauses", "_law_shortest_here", "_law_planted", "_law_turn", "_law_half", "_law_full", "_law_told", "_law_some", "_law_name", "_law_literal", "_law_one"]
abbrev p_law : List Str := ["_law_script"]
theorem sc_law : FnScope n_law p_law (defScope s_law) := ⟨rfl, rfl, rfl, by decide +kernel, rfl, by decide +kernel, by decide +kernel⟩
end KL

/-! KF1 -/
namespace KL
open PySem PySem.Spec PyProof.Rows L2 KM
section
variable {P : Program} {w : World} {K : PySem.W.Frag} {mg : Str → Option Value} {base : Heap}
def DefAt (K : PySem.W.Frag) (mg : Str → Option Value) (x : Str) (st : Stmt) : Prop := ∃ (f : Addr) (fd : FuncData), FunD K x x (defArgs st) (defBody st) (defScope st) [] [] f fd ∧ mg x = some (.ref f)
/-- the built-ins' names stand free -/
structure BI (mg : Str → Option Value) : Prop where
  tuple : mg "tuple" = none
  list : mg "list" = none
  len : mg "len" = none
  range : mg "range" = none
  any : mg "any" = none
  all : mg "all" = none
  isinstance : mg "isinstance" = none
  enumerate : mg "enumerate" = none
  zip : mg "zip" = none
  dict : mg "dict" = none
  int : mg "int" = none
  str : mg "str" = none
theorem dn_mk {c : Ct} {x : Str} {st : Stmt} {N ps : List Str} {k : Nat} (F : DefAt K mg x st) (S : FnScope N ps (defScope st)) (hlen : ∀ g, (c.args g).length = ps.length)
    (hb : ∀ (kV doc pm : Value) (an : Option Addr) (cdv ct : Value) (us : List Value), us.length = ps.length → bindArgs (PySem.W.fnOf x x (defArgs st) (defBody st) (defScope st) .none kV doc pm an cdv ct) ⟨us, []⟩ = pure (ps.zip us))
    (body : ∀ (f : Addr) (cdv : Value) (A : Around) (outer : List Env) (s : Shared) (H : Hp) (E : XK) (B : Base) (D : Ends) (g : c.γ), Room k (A.deeper (envOfC x (defScope st) s.heap.objs.size f cdv)) → c.pre g → B.F = c.W g → (B.P = fun _ => True) → Fin c g B D →
      Tr (KX P w K mg base N x (defScope st) f cdv (A := A) outer s H E) B (sl0 N (c.args g)) (c.mem g) (defBody st) D) : Dn P w K mg base x (k + 1) ps c := by
  obtain ⟨f, fd, F, hm⟩ := F
  exact ⟨f, fd, fn_tr F S hlen fun cdv A outer s H E hr g pre B D hF hP hD => body f cdv A outer s H E B D g hr pre hF hP hD, hm, F.kp, F.bindsN hb⟩

/-! ### the opposite, the name of a literal -/
abbrev c_neg : Ct := .fn (γ := Lit) (fun l => [rLt l]) (fun _ => True) fun l => rLt l.neg
abbrev c_bare : Ct := .fn (γ := Lit) (fun l => [rLt l]) (fun _ => True) fun l => rNm l.nm
theorem dn_l_neg (F : DefAt K mg "_law_neg" s_l_neg) : Dn P w K mg base "_law_neg" 1 p_l_neg c_neg := by
  refine dn_mk F sc_l_neg (fun _ => rfl) (fun _ _ _ _ _ _ us hl => match us, hl with | [_], _ => rfl) fun f cdv A outer s H E B D (l : Lit) hr _ hF hP hD => ?_
  show Tr _ B [some (rLt l)] [] _ D
  refine tr_ret (R := rLt l.neg) ?_ fun v σ G H st r => hD.rt () v _ _ σ G H trivial st .nil r
  have h9 := ltS_len l
  refine de_ifE (d := !l.pos) (dt_cmp op_eq (de_slice sl_str (de_var 0) do_none (do_some de_int) (slv_str (by omega))) de_str ?_) (fun hp => ?_) fun hp => ?_
  · rw [← lit_dash]; exact opv_eqS
  · have hp : l.pos = false := by simpa using hp
    refine (de_slice sl_str (de_var 0) (do_some de_int) do_none (slv_str (by omega))).is ?_
    rw [lit_tail hp, lit_negT hp]
  · have hp : l.pos = true := by simpa using hp
    refine (de_op op_addStr de_str (de_var 0) (opv_addS (show (1 : Nat) + _ ≤ _ by omega))).is ?_
    rw [lit_minus hp]
theorem dn_opposite (F : DefAt K mg "opposite" s_opposite) : Dn P w K mg base "opposite" 1 p_opposite c_neg := by
  refine dn_mk F sc_opposite (fun _ => rfl) (fun _ _ _ _ _ _ us hl => match us, hl with | [_], _ => rfl) fun f cdv A outer s H E B D (l : Lit) hr _ hF hP hD => ?_
  show Tr _ B [some (rLt l)] [] _ D
  refine tr_ret (R := rLt l.neg) ?_ fun v σ G H st r => hD.rt () v _ _ σ G H trivial st .nil r
  have h9 := ltS_len l
  refine de_ifE (d := !l.pos) (dt_cmp op_eq (de_slice sl_str (de_var 0) do_none (do_some de_int) (slv_str (by omega))) de_str ?_) (fun hp => ?_) fun hp => ?_
  · rw [← lit_dash]; exact opv_eqS
  · have hp : l.pos = false := by simpa using hp
    refine (de_slice sl_str (de_var 0) (do_some de_int) do_none (slv_str (by omega))).is ?_
    rw [lit_tail hp, lit_negT hp]
  · have hp : l.pos = true := by simpa using hp
    refine (de_op op_addStr de_str (de_var 0) (opv_addS (show (1 : Nat) + _ ≤ _ by omega))).is ?_
    rw [lit_minus hp]
theorem dn_l_bare (F : DefAt K mg "_law_bare" s_l_bare) : Dn P w K mg base "_law_bare" 1 p_l_bare c_bare := by
  refine dn_mk F sc_l_bare (fun _ => rfl) (fun _ _ _ _ _ _ us hl => match us, hl with | [_], _ => rfl) fun f cdv A outer s H E B D (l : Lit) hr _ hF hP hD => ?_
  show Tr _ B [some (rLt l)] [] _ D
  refine tr_ret (R := rNm l.nm) ?_ fun v σ G H st r => hD.rt () v _ _ σ G H trivial st .nil r
  have h9 := ltS_len l
  refine de_ifE (d := !l.pos) (dt_cmp op_eq (de_slice sl_str (de_var 0) do_none (do_some de_int) (slv_str (by omega))) de_str ?_) (fun hp => ?_) fun hp => ?_
  · rw [← lit_dash]; exact opv_eqS
  · have hp : l.pos = false := by simpa using hp
    refine (de_slice sl_str (de_var 0) (do_some de_int) do_none (slv_str (by omega))).is ?_
    rw [lit_tail hp]
  · have hp : l.pos = true := by simpa using hp
    refine (de_var 0).is ?_
    exact congrArg rS (lit_nm hp)
theorem dn_name_of (F : DefAt K mg "name_of" s_name_of) : Dn P w K mg base "name_of" 1 p_name_of c_bare := by
  refine dn_mk F sc_name_of (fun _ => rfl) (fun _ _ _ _ _ _ us hl => match us, hl with | [_], _ => rfl) fun f cdv A outer s H E B D (l : Lit) hr _ hF hP hD => ?_
  show Tr _ B [some (rLt l)] [] _ D
  refine tr_ret (R := rNm l.nm) ?_ fun v σ G H st r => hD.rt () v _ _ σ G H trivial st .nil r
  have h9 := ltS_len l
  refine de_ifE (d := !l.pos) (dt_cmp op_eq (de_slice sl_str (de_var 0) do_none (do_some de_int) (slv_str (by omega))) de_str ?_) (fun hp => ?_) fun hp => ?_
  · rw [← lit_dash]; exact opv_eqS
  · have hp : l.pos = false := by simpa using hp
    refine (de_slice sl_str (de_var 0) (do_some de_int) do_none (slv_str (by omega))).is ?_
    rw [lit_tail hp]
  · have hp : l.pos = true := by simpa using hp
    refine (de_var 0).is ?_
    exact congrArg rS (lit_nm hp)

/-! ### meets, within, fits -/
theorem any_id {α : Type} (xs : List α) (p : α → Bool) : (xs.map p).any id = xs.any p := by rw [List.any_map]; rfl
theorem all_id {α : Type} (xs : List α) (p : α → Bool) : (xs.map p).all id = xs.all p := by rw [List.all_map]; rfl
abbrev c_meets : Ct := .fn (γ := Cl Nm × Cl Nm) (fun g => [rC g.1, rC g.2]) (fun g => g.1.length ≤ 1000 ∧ g.2.length ≤ 1000) fun g => rB (meets g.1 g.2)
theorem dn_l_meets (bi : BI mg) (F : DefAt K mg "_law_meets" s_l_meets) : Dn P w K mg base "_law_meets" 1 p_l_meets c_meets := by
  refine dn_mk F sc_l_meets (fun _ => rfl) (fun _ _ _ _ _ _ us hl => match us, hl with | [_, _], _ => rfl) fun f cdv A outer s H E B D (g : Cl Nm × Cl Nm) hr hz hF hP hD => ?_
  obtain ⟨c, t⟩ := g
  show Tr _ B [some (rC c), some (rC t), none] [] _ D
  refine tr_ret (R := rB (meets c t)) ?_ fun v σ G H st r => hD.rt () v _ _ σ G H trivial st .nil r
  have h1 : c.length ≤ 1000 := hz.1
  refine (de_callB (cr_any rfl) bi.any (by decide +kernel) (da_cons (ne_lc (α := Lit) 2 sc_l_meets.nd c rLt (fun l => rB (decide (l ∈ t))) (de_var 0) sv_t (by omega) fun l hl _ _ _ _ _ => ?_).de da_nil) (clv_any (bs := c.map fun l => decide (l ∈ t)) (by rw [List.map_map]; exact lv_l))).is ?_
  · exact de_cmp op_in_seq (de_var 2) (de_var 1) (opv_inLt sv_t)
  · rw [any_id]; rfl
/-- lists or tuples -/
abbrev c_within : Ct := .fn (γ := Rp × Cl Nm × Rp × Cl Nm) (fun g => [g.1, g.2.2.1]) (fun g => (∀ MP, SVp MP g.1 (g.2.1.map rLt)) ∧ (∀ MP, SVp MP g.2.2.1 (g.2.2.2.map rLt)) ∧ g.2.1.length ≤ 1000) fun g => rB (within g.2.1 g.2.2.2)
theorem dn_l_within (bi : BI mg) (F : DefAt K mg "_law_within" s_l_within) : Dn P w K mg base "_law_within" 1 p_l_within c_within := by
  refine dn_mk F sc_l_within (fun _ => rfl) (fun _ _ _ _ _ _ us hl => match us, hl with | [_, _], _ => rfl) fun f cdv A outer s H E B D (g : Rp × Cl Nm × Rp × Cl Nm) hr hz hF hP hD => ?_
  obtain ⟨rc, c, rt, t⟩ := g
  obtain ⟨hc, ht, hz⟩ := hz
  show Tr _ B [some rc, some rt, none] [] _ D
  refine tr_ret (R := rB (within c t)) ?_ fun v σ G H st r => hD.rt () v _ _ σ G H trivial st .nil r
  have h1 : c.length ≤ 1000 := hz
  refine (de_callB (cr_all rfl) bi.all (by decide +kernel) (da_cons (ne_lc (α := Lit) 2 sc_l_within.nd c rLt (fun l => rB (decide (l ∈ t))) (de_var 0) (hc _) (by omega) fun l hl _ _ _ _ _ => ?_).de da_nil) (clv_all (bs := c.map fun l => decide (l ∈ t)) (by rw [List.map_map]; exact lv_l))).is ?_
  · exact de_cmp op_in_seq (de_var 2) (de_var 1) (opv_inLt (ht _))
  · rw [all_id]; rfl
abbrev rCs (cs : List (Cl Nm)) : Rp := rL (cs.map rC)
abbrev c_fits : Ct := .fn (γ := List (Cl Nm) × Cl Nm) (fun g => [rCs g.1, rC g.2]) (fun g => g.1.length ≤ 10000 ∧ (∀ c ∈ g.1, c.length ≤ 1000) ∧ g.2.length ≤ 1000) fun g => rB (g.1.all fun c => meets c g.2)
theorem dn_l_fits (bi : BI mg) (F : DefAt K mg "_law_fits" s_l_fits) (Fm : Dn P w K mg base "_law_meets" 1 p_l_meets c_meets) : Dn P w K mg base "_law_fits" 2 p_l_fits c_fits := by
  refine dn_mk F sc_l_fits (fun _ => rfl) (fun _ _ _ _ _ _ us hl => match us, hl with | [_, _], _ => rfl) fun f cdv A outer s H E B D (g : List (Cl Nm) × Cl Nm) hr hz hF hP hD => ?_
  obtain ⟨cs, t⟩ := g
  obtain ⟨h1, h2, h3⟩ : cs.length ≤ 10000 ∧ (∀ c ∈ cs, c.length ≤ 1000) ∧ t.length ≤ 1000 := hz
  show Tr _ B [some (rCs cs), some (rC t), none] [] _ D
  refine tr_ret (R := rB (cs.all fun c => meets c t)) ?_ fun v σ G H st r => hD.rt () v _ _ σ G H trivial st .nil r
  refine (de_callB (cr_all rfl) bi.all (by decide +kernel) (da_cons (ne_lc (α := Cl Nm) 2 sc_l_fits.nd cs rC (fun c => rB (meets c t)) (de_var 0) sv_l (by omega) fun c hl _ _ _ _ _ => ?_).de da_nil) (clv_all (bs := cs.map fun c => meets c t) (by rw [List.map_map]; exact lv_l))).is ?_
  · exact de_call Fm hr (c, t) (da_cons (de_var 2) (da_cons (de_var 1) da_nil)) ⟨h2 c hl, h3⟩ fun _ _ _ _ r => r
  · rw [all_id]
end
end KL

/-! KF2 -/
namespace KL
open PySem PySem.Spec PyProof.Rows L2 KM
section
/-! ### in: a list, a tuple, a dict -/
def rInDK : L2.R2 := fun x y H Q => ∃ a o, y = .ref a ∧ DGet H a x o ∧ Q (.bl o.isSome) H
theorem op_inDK {X : Cx} (hu : X.A.units + 1 < cLine) : OpR X (compareOp .In) rInDK := by
  intro pins s σ H x y v u Q I rx ry h
  obtain ⟨a, o, rfl, hg, q⟩ := h
  cases ry
  exact d_in hu I hg rx fun s' I' => ⟨.bl _, H, I', rfl, q⟩
def rNotInDK : L2.R2 := fun x y H Q => ∃ a o, y = .ref a ∧ DGet H a x o ∧ Q (.bl (!o.isSome)) H
theorem op_notInDK {X : Cx} (hu : X.A.units + 1 < cLine) : OpR X (compareOp .NotIn) rNotInDK := by
  intro pins s σ H x y v u Q I rx ry h
  obtain ⟨a, o, rfl, hg, q⟩ := h
  cases ry
  exact d_notIn hu I hg rx fun s' I' => ⟨.bl _, H, I', rfl, q⟩
def rInAny (K : PySem.W.Frag) : L2.R2 := fun x y H Q => rIn K false x y H Q ∨ rInDK x y H Q
theorem op_inAny {X : Cx} (hu : X.A.units + 1 < cLine) : OpR X (compareOp .In) (rInAny X.K) := op_in_seq.or (op_inDK hu)
/-- R holds just the literals ls -/
def Holds (K : PySem.W.Frag) (R : Rp) (ls : Cl Nm) : Prop := ∀ (M : List Cell) (l : Lit), Opv M (rLt l) R (rInAny K) (rB (decide (l ∈ ls)))
theorem holds_s {K : PySem.W.Frag} {R : Rp} {ls : Cl Nm} (h : ∀ MP, SVp MP R (ls.map rLt)) : Holds K R ls := fun M l x y G H s m hx hy Q q => .inl (opv_inLt (h _) x y G H s m hx hy Q q)
/-- the dict of some literals -/
abbrev soE (ls : Cl Nm) : List (Str × Rp) := ls.map fun l => (ltS l, rB true)
theorem valV_so {G : Hp} {l : Lit} : ∀ {ls : Cl Nm} {kvs : List (Key × V)}, KVs G (soE ls) kvs → (valV kvs (.inr (ltS l))).isSome = decide (l ∈ ls)
  | [], _, .nil => rfl
  | k :: ls, q :: kvs, .cons h t => by
    have ih := valV_so (l := l) t
    by_cases e : ltS k = ltS l
    · rw [valV_pos (by rw [h.1]; exact congrArg Sum.inr e)]
      have : k = l := ltS_inj e
      simp [this]
    · rw [valV_neg (by rw [h.1]; exact fun z => e (Sum.inr.inj z)), ih]
      have : ¬ l = k := fun z => e (by rw [z])
      simp [this]
theorem holds_d {K : PySem.W.Frag} {ls : Cl Nm} : Holds K (rD (soE ls)) ls := fun M l x y G H s m hx hy Q q => by
  obtain ⟨a, o, rfl, ho, kvs, rfl, t⟩ := hy
  have hx : x = .str (ltS l) := hx
  subst hx
  refine .inr ⟨a, _, rfl, DGet.k (k := Sum.inr (ltS l)) (s _ _ ho), ?_⟩
  rw [valV_so t]
  exact q _ G H (Grow.refl s) rfl

/-! ### literals in the order of names -/
def both (n : Nm) : Cl Nm := [⟨true, n⟩, ⟨false, n⟩]
def upM (ls : Cl Nm) (ns : List Nm) : Cl Nm := ns.flatMap fun n => (both n).filter fun l => decide (l ∈ ls)
theorem upM_snoc (ls : Cl Nm) (ns : List Nm) (n : Nm) : upM ls (ns ++ [n]) = upM ls ns ++ (both n).filter fun l => decide (l ∈ ls) := by unfold upM; rw [List.flatMap_append, List.flatMap_singleton]
theorem mem_upM {ls : Cl Nm} {ns : List Nm} {l : Lit} : l ∈ upM ls ns ↔ l ∈ ls ∧ l.nm ∈ ns := by
  unfold upM
  rw [List.mem_flatMap]
  constructor
  · rintro ⟨n, hn, h⟩
    rw [List.mem_filter] at h
    have h2 : l ∈ ls := of_decide_eq_true h.2
    have h3 : l.nm = n := by
      have := h.1
      unfold both at this
      simp only [List.mem_cons, List.not_mem_nil, or_false] at this
      rcases this with e | e <;> rw [e]
    exact ⟨h2, h3 ▸ hn⟩
  · rintro ⟨h1, h2⟩
    refine ⟨l.nm, h2, List.mem_filter.mpr ⟨?_, decide_eq_true h1⟩⟩
    unfold both
    cases l with | mk p n => cases p <;> simp
theorem upM_len (ls : Cl Nm) (ns : List Nm) : (upM ls ns).length ≤ 2 * ns.length := by
  induction ns with
  | nil => exact Nat.le_refl _
  | cons n r ih =>
    have e : upM ls (n :: r) = ((both n).filter fun l => decide (l ∈ ls)) ++ upM ls r := by unfold upM; rw [List.flatMap_cons]
    rw [e, List.length_append, List.length_cons]
    have := List.length_filter_le (fun l => decide (l ∈ ls)) (both n)
    have h2 : (both n).length = 2 := rfl
    omega
variable {P : Program} {w : World} {K : PySem.W.Frag} {mg : Str → Option Value} {base : Heap}
/-- (what holds the literals, which, the names' value, the names) -/
abbrev c_up (K : PySem.W.Frag) : Ct := .fn (γ := Rp × Cl Nm × Rp × List Nm) (fun g => [g.1, g.2.2.1]) (fun g => Holds K g.1 g.2.1 ∧ (∀ MP, SVp MP g.2.2.1 (g.2.2.2.map rNm)) ∧ g.2.2.2.length ≤ 10000) fun g => rC (upM g.2.1 g.2.2.2)
theorem two_small (n : Nm) : ((both n).map rLt).length ≤ 100000 := (show 2 ≤ 100000 by decide)
theorem two_small' (n : Nm) : (both n).length ≤ 100000 := (show 2 ≤ 100000 by decide)
theorem dn_l_up (bi : BI mg) (F : DefAt K mg "_law_up" s_l_up) : Dn P w K mg base "_law_up" 1 p_l_up (c_up K) := by
  refine dn_mk F sc_l_up (fun _ => rfl) (fun _ _ _ _ _ _ us hl => match us, hl with | [_, _], _ => rfl) fun f cdv A outer s H E B D (g : Rp × Cl Nm × Rp × List Nm) hr hz hF hP hD => ?_
  obtain ⟨rl, ls, rn, ns⟩ := g
  obtain ⟨h1, h2, h3⟩ : Holds K rl ls ∧ (∀ MP, SVp MP rn (ns.map rNm)) ∧ ns.length ≤ 10000 := hz
  show Tr _ B [some rl, some rn, none, none, none] [] _ D
  refine tr_own 2 sc_l_up.nd (ne_lst da_nil (Nat.zero_le _)) fun a ha => ?_
  refine tr_for (S := Cl Nm) (α := Nm) 3 PassesOwn.never sc_l_up.nd (de_var 1) (fun acc => [some rl, some rn, some (rV (.ref a)), none, none]) (fun acc => [cL a (acc.map rLt)]) (fun i acc => acc = upM ls (ns.take i)) [] ns rNm (h2 _) rfl ⟨rfl, rfl, rfl, trivial⟩ rfl ?_ ?_
  · intro P pm i n acc hi hJ D' hn hrt
    have hlen : acc.length ≤ 20000 := by
      rw [hJ]
      refine Nat.le_trans (upM_len _ _) ?_
      rw [List.length_take]; omega
    refine tr_extend 0 (de_var 2) (ne_lcIf (α := Lit) 4 sc_l_up.nd (both n) rLt rLt (fun l => decide (l ∈ ls)) (ne_tup (Rs := (both n).map rLt) (da_cons (de_var 3) (da_cons (de_op op_addStr de_str (de_var 3) (opv_addS ?_)) da_nil)) (two_small n)).de sv_t (two_small' n) (fun l hl _ _ _ _ _ => ?_) fun l hl hb _ _ _ _ _ => de_var 4).de lv_l rfl (.inr ha) ?_ ?_
    · have := ltS_len ⟨true, n⟩
      show (1 : Nat) + (ltS ⟨true, n⟩).length ≤ _
      omega
    · exact dt_cmp (op_inAny (hu_of hr)) (de_var 4) (de_var 0) (h1 _ l)
    · rw [List.length_map, List.length_map]
      exact Nat.le_trans (Nat.add_le_add_left (List.length_filter_le _ _) _) (show acc.length + 2 ≤ 100000 by omega)
    · rw [← List.map_append]
      refine tr_nil fun σ G H st => hn (acc ++ (both n).filter fun l => decide (l ∈ ls)) ?_ σ G H (st.less ⟨rfl, rfl, rfl, trivial⟩)
      rw [hJ, List.take_add_one, hi, ← upM_snoc]; rfl
  · intro acc hJ
    refine tr_ret (R := rC acc) (de_callTy cr_tuple bi.tuple (by decide +kernel) (da_cons (de_var 2) da_nil) (clv_tuple (lv_c List.mem_cons_self))) fun v σ G H st r => hD.rt () v _ _ σ G H trivial st .nil ?_
    have e : acc = upM ls ns := by rw [hJ, List.take_length]
    show (rC (upM ls ns)).p G v
    rw [← e]; exact r
theorem dn_ascending (bi : BI mg) (F : DefAt K mg "ascending" s_ascending) : Dn P w K mg base "ascending" 1 p_ascending (c_up K) := by
  refine dn_mk F sc_ascending (fun _ => rfl) (fun _ _ _ _ _ _ us hl => match us, hl with | [_, _], _ => rfl) fun f cdv A outer s H E B D (g : Rp × Cl Nm × Rp × List Nm) hr hz hF hP hD => ?_
  obtain ⟨rl, ls, rn, ns⟩ := g
  obtain ⟨h1, h2, h3⟩ : Holds K rl ls ∧ (∀ MP, SVp MP rn (ns.map rNm)) ∧ ns.length ≤ 10000 := hz
  show Tr _ B [some rl, some rn, none, none, none] [] _ D
  refine tr_own 2 sc_ascending.nd (ne_lst da_nil (Nat.zero_le _)) fun a ha => ?_
  refine tr_for (S := Cl Nm) (α := Nm) 3 PassesOwn.never sc_ascending.nd (de_var 1) (fun acc => [some rl, some rn, some (rV (.ref a)), none, none]) (fun acc => [cL a (acc.map rLt)]) (fun i acc => acc = upM ls (ns.take i)) [] ns rNm (h2 _) rfl ⟨rfl, rfl, rfl, trivial⟩ rfl ?_ ?_
  · intro P pm i n acc hi hJ D' hn hrt
    have hlen : acc.length ≤ 20000 := by
      rw [hJ]
      refine Nat.le_trans (upM_len _ _) ?_
      rw [List.length_take]; omega
    refine tr_extend 0 (de_var 2) (ne_lcIf (α := Lit) 4 sc_ascending.nd (both n) rLt rLt (fun l => decide (l ∈ ls)) (ne_tup (Rs := (both n).map rLt) (da_cons (de_var 3) (da_cons (de_op op_addStr de_str (de_var 3) (opv_addS ?_)) da_nil)) (two_small n)).de sv_t (two_small' n) (fun l hl _ _ _ _ _ => ?_) fun l hl hb _ _ _ _ _ => de_var 4).de lv_l rfl (.inr ha) ?_ ?_
    · have := ltS_len ⟨true, n⟩
      show (1 : Nat) + (ltS ⟨true, n⟩).length ≤ _
      omega
    · exact dt_cmp (op_inAny (hu_of hr)) (de_var 4) (de_var 0) (h1 _ l)
    · rw [List.length_map, List.length_map]
      exact Nat.le_trans (Nat.add_le_add_left (List.length_filter_le _ _) _) (show acc.length + 2 ≤ 100000 by omega)
    · rw [← List.map_append]
      refine tr_nil fun σ G H st => hn (acc ++ (both n).filter fun l => decide (l ∈ ls)) ?_ σ G H (st.less ⟨rfl, rfl, rfl, trivial⟩)
      rw [hJ, List.take_add_one, hi, ← upM_snoc]; rfl
  · intro acc hJ
    refine tr_ret (R := rC acc) (de_callTy cr_tuple bi.tuple (by decide +kernel) (da_cons (de_var 2) da_nil) (clv_tuple (lv_c List.mem_cons_self))) fun v σ G H st r => hD.rt () v _ _ σ G H trivial st .nil ?_
    have e : acc = upM ls ns := by rw [hJ, List.take_length]
    show (rC (upM ls ns)).p G v
    rw [← e]; exact r
end
end KL

/-! KEq -/
/-! == and in over nested data. -/
namespace KL
open PySem PySem.Spec PyProof.Rows L2 KM
mutual
theorem Dp_mono {K : PySem.W.Frag} {G H : Hp} (s : Same G H) : ∀ (d : PyData) (v : V), Dp K G v d → Dp K H v d
  | .none, _, h => by cases h; exact .non
  | .bool b, _, h => by cases h; exact .bl b
  | .int i, _, h => by cases h; exact .int i
  | .str x, _, h => by cases h; exact .str x
  | .list ds, _, h => by
    cases h with
    | lst h1 h2 => exact .lst (Same.seq s h1) (DpAll_mono s ds _ h2)
  | .tuple ds, _, h => by
    cases h with
    | tup h1 h2 =>
      refine .tup ?_ (DpAll_mono s ds _ h2)
      rcases h1 with (h1 | ⟨o, h1⟩) | h1
      · exact .inl (.inl (s _ _ h1))
      · exact .inl (.inr ⟨o, s _ _ h1⟩)
      · exact .inr h1
  | .dict _, _, h => by cases h
theorem DpAll_mono {K : PySem.W.Frag} {G H : Hp} (s : Same G H) : ∀ (ds : List PyData) (vs : List V), DpAll K G vs ds → DpAll K H vs ds
  | [], _, h => by cases h; exact .nil
  | d :: ds, _, h => by
    cases h with
    | cons h1 h2 => exact .cons (Dp_mono s d _ h1) (DpAll_mono s ds _ h2)
end
def RdD (K : PySem.W.Frag) (R : Rp) (d : PyData) : Prop := ∀ G v, R.p G v → Dp K G v d
def RdM (K : PySem.W.Frag) (M : List Cell) (R : Rp) (d : PyData) : Prop := ∀ G H v, Same G H → Mem G H M → R.p G v → Dp K H v d
section
variable {K : PySem.W.Frag} {M : List Cell} {R Ra Rb : Rp} {d e : PyData}
theorem RdD.m (h : RdD K R d) : RdM K M R d := fun G H v s _ r => Dp_mono s d v (h G v r)
theorem rd_S {x : Str} : RdD K (rS x) (.str x) := fun G v h => by
  have h : v = .str x := h
  subst h; exact .str x
theorem rd_I {i : Int} : RdD K (L2.V.int i |> rV) (.int i) := fun G v h => by
  have h : v = .int i := h
  subst h; exact .int i
theorem rd_B {b : Bool} : RdD K (rB b) (.bool b) := fun G v h => by
  have h : v = .bl b := h
  subst h; exact .bl b
theorem rd_all {α : Type} {rf : α → Rp} {df : α → PyData} {G : Hp} : ∀ (xs : List α), (∀ x ∈ xs, RdD K (rf x) (df x)) → ∀ vs, All2 G (xs.map rf) vs → DpAll K G vs (xs.map df)
  | [], _, _, .nil => .nil
  | x :: xs, h, _, .cons r t => .cons (h x List.mem_cons_self G _ r) (rd_all xs (fun y hy => h y (List.mem_cons_of_mem _ hy)) _ t)
theorem rd_L {α : Type} {rf : α → Rp} {df : α → PyData} {xs : List α} (h : ∀ x ∈ xs, RdD K (rf x) (df x)) : RdD K (rL (xs.map rf)) (.list (xs.map df)) := fun G v ⟨a, o, e, ho, vs, eo, t⟩ => by
  subst e; subst eo
  exact .lst (SqL.of ho) (rd_all xs h vs t)
theorem rd_T {α : Type} {rf : α → Rp} {df : α → PyData} {xs : List α} (h : ∀ x ∈ xs, RdD K (rf x) (df x)) : RdD K (rT (xs.map rf)) (.tuple (xs.map df)) := fun G v ⟨a, o, e, ho, vs, eo, t⟩ => by
  subst e; subst eo
  exact .tup (SqT.of ho) (rd_all xs h vs t)
theorem rd_c {α : Type} {rf : α → Rp} {df : α → PyData} {xs : List α} {a : Addr} (hc : cL a (xs.map rf) ∈ M) (h : ∀ x ∈ xs, RdD K (rf x) (df x)) : RdM K M (rV (.ref a)) (.list (xs.map df)) := fun G H v s m e => by
  have e : v = .ref a := e
  subst e
  obtain ⟨o, ho, vs, eo, t⟩ := m.ok _ hc
  subst eo
  exact .lst (SqL.of ho) (DpAll_mono s _ _ (rd_all xs h vs t))
theorem opv_eqD (ha : RdM K M Ra d) (hb : RdM K M Rb e) (sd : SeqAt.shaped d = true) (se : SeqAt.shaped e = true) : Opv M Ra Rb (rEqD K) (rB (PyData.eqv d e)) := fun x y G H s m hx hy Q q =>
  ⟨d, e, ha G H x s m hx, hb G H y s m hy, sd, se, q _ G H (Grow.refl s) rfl⟩
theorem opv_neD (ha : RdM K M Ra d) (hb : RdM K M Rb e) (sd : SeqAt.shaped d = true) (se : SeqAt.shaped e = true) : Opv M Ra Rb (rNeD K) (rB (!PyData.eqv d e)) := fun x y G H s m hx hy Q q =>
  ⟨d, e, ha G H x s m hx, hb G H y s m hy, sd, se, q _ G H (Grow.refl s) rfl⟩
theorem opv_inD {ds : List PyData} (ha : RdM K M Ra d) (hb : RdM K M Rb (.list ds)) (sd : SeqAt.shaped d = true) (se : SeqAt.shaped (.list ds) = true) : Opv M Ra Rb (rInD K) (rB (ds.any fun z => PyData.eqv z d)) := fun x y G H s m hx hy Q q =>
  ⟨d, ds, ha G H x s m hx, hb G H y s m hy, sd, se, q _ G H (Grow.refl s) rfl⟩
theorem opv_notInD {ds : List PyData} (ha : RdM K M Ra d) (hb : RdM K M Rb (.list ds)) (sd : SeqAt.shaped d = true) (se : SeqAt.shaped (.list ds) = true) : Opv M Ra Rb (rNotInD K) (rB (!ds.any fun z => PyData.eqv z d)) := fun x y G H s m hx hy Q q =>
  ⟨d, ds, ha G H x s m hx, hb G H y s m hy, sd, se, q _ G H (Grow.refl s) rfl⟩
end
/-! ### shapes -/
def ShN (n : Nat) (d : PyData) : Prop := d.canLay0 = true ∧ d.depth ≤ n
theorem sh_of {n : Nat} {d : PyData} (h : ShN n d) (hn : n ≤ 64) : SeqAt.shaped d = true := by
  show (d.canLay0 && decide (d.depth ≤ 64)) = true
  rw [Bool.and_eq_true]
  exact ⟨h.1, decide_eq_true (Nat.le_trans h.2 hn)⟩
theorem sh_all {α : Type} {df : α → PyData} {n : Nat} : ∀ (xs : List α), (∀ x ∈ xs, ShN n (df x)) → PyData.canLayAll0 (xs.map df) = true ∧ PyData.depthAll (xs.map df) ≤ n
  | [], _ => by simp [PyData.canLayAll0, PyData.depthAll]
  | x :: xs, h => by
    have h1 := h x List.mem_cons_self
    have h2 := sh_all xs fun y hy => h y (List.mem_cons_of_mem _ hy)
    simp only [List.map_cons, PyData.canLayAll0, PyData.depthAll, h1.1, h2.1, Bool.and_true, true_and]
    exact Nat.max_le.mpr ⟨h1.2, h2.2⟩
theorem sh_L {α : Type} {df : α → PyData} {n : Nat} {xs : List α} (h : ∀ x ∈ xs, ShN n (df x)) : ShN (n + 1) (.list (xs.map df)) := by
  have := sh_all xs h
  exact ⟨by simp only [PyData.canLay0]; exact this.1, by simp only [PyData.depth]; omega⟩
theorem sh_T {α : Type} {df : α → PyData} {n : Nat} {xs : List α} (h : ∀ x ∈ xs, ShN n (df x)) : ShN (n + 1) (.tuple (xs.map df)) := by
  have := sh_all xs h
  exact ⟨by simp only [PyData.canLay0]; exact this.1, by simp only [PyData.depth]; omega⟩
theorem sh_I {i : Int} : ShN 0 (.int i) := ⟨by simp only [PyData.canLay0], by simp only [PyData.depth]; omega⟩
abbrev dLt (l : Lit) : PyData := .str (ltS l)
abbrev dNm (n : Nm) : PyData := .str n.val
abbrev dC (c : Cl Nm) : PyData := .tuple (c.map dLt)
theorem sh_lt (l : Lit) : ShN 0 (dLt l) := ⟨by simp only [PyData.canLay0]; exact ltS_ok l, by simp only [PyData.depth]; omega⟩
theorem sh_nm (n : Nm) : ShN 0 (dNm n) := sh_lt ⟨true, n⟩
theorem sh_C (c : Cl Nm) : ShN 1 (dC c) := sh_T fun l _ => sh_lt l
theorem sh_mono {n m : Nat} {d : PyData} (h : ShN n d) (k : n ≤ m) : ShN m d := ⟨h.1, Nat.le_trans h.2 k⟩
section
variable {K : PySem.W.Frag} {M : List Cell} {R : Rp}
theorem rd_lt (l : Lit) : RdD K (rLt l) (dLt l) := rd_S
theorem rd_nm (n : Nm) : RdD K (rNm n) (dNm n) := rd_S
theorem rd_C (c : Cl Nm) : RdD K (rC c) (dC c) := rd_T fun l _ => rd_lt l
end
/-! ### what == gives -/
theorem eqvAll_map {α : Type} {df : α → PyData} (hd : ∀ a b, PyData.eqv (df a) (df b) = true ↔ a = b) : ∀ (xs ys : List α), PyData.eqvAll (xs.map df) (ys.map df) = true ↔ xs = ys
  | [], [] => by simp [PyData.eqvAll]
  | [], _ :: _ => by simp [PyData.eqvAll]
  | _ :: _, [] => by simp [PyData.eqvAll]
  | x :: xs, y :: ys => by
    have ih := eqvAll_map hd xs ys
    simp only [List.map_cons, PyData.eqvAll, Bool.and_eq_true, ih, hd, List.cons.injEq]
theorem eqv_lt (a b : Lit) : PyData.eqv (dLt a) (dLt b) = true ↔ a = b := by
  simp only [PyData.eqv, beq_iff_eq]
  exact ⟨fun h => ltS_inj h, fun h => by rw [h]⟩
theorem eqv_nm (a b : Nm) : PyData.eqv (dNm a) (dNm b) = true ↔ a = b := by
  simp only [PyData.eqv, beq_iff_eq]
  exact ⟨fun h => Subtype.ext h, fun h => by rw [h]⟩
theorem eqv_T {α : Type} {df : α → PyData} (hd : ∀ a b, PyData.eqv (df a) (df b) = true ↔ a = b) (xs ys : List α) : PyData.eqv (.tuple (xs.map df)) (.tuple (ys.map df)) = true ↔ xs = ys := by
  simp only [PyData.eqv]; exact eqvAll_map hd xs ys
theorem eqv_L {α : Type} {df : α → PyData} (hd : ∀ a b, PyData.eqv (df a) (df b) = true ↔ a = b) (xs ys : List α) : PyData.eqv (.list (xs.map df)) (.list (ys.map df)) = true ↔ xs = ys := by
  simp only [PyData.eqv]; exact eqvAll_map hd xs ys
theorem eqv_C (a b : Cl Nm) : PyData.eqv (dC a) (dC b) = true ↔ a = b := eqv_T eqv_lt a b
theorem any_eqv {α : Type} [DecidableEq α] {df : α → PyData} (hd : ∀ a b, PyData.eqv (df a) (df b) = true ↔ a = b) (x : α) (xs : List α) : ((xs.map df).any fun z => PyData.eqv z (df x)) = decide (x ∈ xs) := by
  rw [Bool.eq_iff_iff, List.any_eq_true, decide_eq_true_iff]
  constructor
  · rintro ⟨z, hz, e⟩
    obtain ⟨y, hy, rfl⟩ := List.mem_map.mp hz
    exact (hd y x).mp e ▸ hy
  · intro h
    exact ⟨_, List.mem_map.mpr ⟨x, h, rfl⟩, (hd x x).mpr rfl⟩
theorem eqv_nilL {α : Type} {df : α → PyData} (xs : List α) : PyData.eqv (.list (xs.map df)) (.list []) = xs.isEmpty := by
  cases xs <;> simp [PyData.eqv, PyData.eqvAll]
theorem eqv_nilT {α : Type} {df : α → PyData} (xs : List α) : PyData.eqv (.tuple (xs.map df)) (.tuple []) = xs.isEmpty := by
  cases xs <;> simp [PyData.eqv, PyData.eqvAll]
section
variable {K : PySem.W.Frag} {M : List Cell} {R : Rp}
theorem rd_nilL : RdD K (rL []) (.list []) := rd_L (α := Unit) (rf := fun _ => rN) (df := fun _ => .none) (xs := []) (fun _ h => by cases h)
theorem rd_nilT : RdD K (rT []) (.tuple []) := rd_T (α := Unit) (rf := fun _ => rN) (df := fun _ => .none) (xs := []) (fun _ h => by cases h)
theorem sh_nilL : SeqAt.shaped (.list []) = true := by decide
theorem sh_nilT : SeqAt.shaped (.tuple []) = true := by decide
theorem opv_eqNil {α : Type} {df : α → PyData} {xs : List α} {n : Nat} (hr : RdM K M R (.list (xs.map df))) (hs : ∀ x ∈ xs, ShN n (df x)) (hn : n ≤ 60) : Opv M R (rL []) (rEqD K) (rB xs.isEmpty) := by
  have h := opv_eqD hr (M := M) (Rb := rL []) rd_nilL.m (sh_of (sh_L hs) (by omega)) sh_nilL
  rwa [eqv_nilL] at h
theorem opv_neNil {α : Type} {df : α → PyData} {xs : List α} {n : Nat} (hr : RdM K M R (.list (xs.map df))) (hs : ∀ x ∈ xs, ShN n (df x)) (hn : n ≤ 60) : Opv M R (rL []) (rNeD K) (rB (!xs.isEmpty)) := by
  have h := opv_neD hr (M := M) (Rb := rL []) rd_nilL.m (sh_of (sh_L hs) (by omega)) sh_nilL
  rwa [eqv_nilL] at h
theorem opv_eqNilT {α : Type} {df : α → PyData} {xs : List α} {n : Nat} (hr : RdM K M R (.tuple (xs.map df))) (hs : ∀ x ∈ xs, ShN n (df x)) (hn : n ≤ 60) : Opv M R (rT []) (rEqD K) (rB xs.isEmpty) := by
  have h := opv_eqD hr (M := M) (Rb := rT []) rd_nilT.m (sh_of (sh_T hs) (by omega)) sh_nilT
  rwa [eqv_nilT] at h
theorem dec_irrel {p : Prop} (i j : Decidable p) : @decide p i = @decide p j := by cases i <;> cases j <;> first | rfl | contradiction
theorem Opv.is {M : List Cell} {Ra Rb R1 R2 : Rp} {r : L2.R2} (h : Opv M Ra Rb r R1) (e : R1 = R2) : Opv M Ra Rb r R2 := e ▸ h
/-- a clause among clauses -/
theorem opv_inC {c : Cl Nm} {cs : List (Cl Nm)} (hr : RdM K M R (.list (cs.map dC))) : Opv M (rC c) R (rInD K) (rB (decide (c ∈ cs))) := by
  have h := opv_inD (rd_C c).m hr (M := M) (sh_of (sh_C c) (by decide)) (sh_of (sh_L fun c _ => sh_C c) (by decide))
  rw [any_eqv eqv_C] at h
  exact h.is (congrArg rB (dec_irrel _ _))
theorem opv_notInC {c : Cl Nm} {cs : List (Cl Nm)} (hr : RdM K M R (.list (cs.map dC))) : Opv M (rC c) R (rNotInD K) (rB (!decide (c ∈ cs))) := by
  have h := opv_notInD (rd_C c).m hr (M := M) (sh_of (sh_C c) (by decide)) (sh_of (sh_L fun c _ => sh_C c) (by decide))
  rw [any_eqv eqv_C] at h
  exact h.is (congrArg (fun b => rB (!b)) (dec_irrel _ _))
end
end KL

/-! KF3 -/
namespace KL
open PySem PySem.Spec PyProof.Rows L2 KM
section
variable {P : Program} {w : World} {K : PySem.W.Frag} {mg : Str → Option Value} {base : Heap}
theorem fulls_snoc (ns : List Nm) (n : Nm) : fulls (ns ++ [n]) = (fulls ns).flatMap fun s => [s ++ [⟨true, n⟩], s ++ [⟨false, n⟩]] := by unfold fulls; rw [List.foldl_append]; rfl
theorem full_len {ns : List Nm} {s : Cl Nm} (h : s ∈ fulls ns) : s.length = ns.length := by rw [← mem_fulls.mp h, List.length_map]
theorem fulls_small {ns : List Nm} (h : ns.length ≤ 8) : (fulls ns).length ≤ 256 := by
  rw [fulls_len]
  exact Nat.pow_le_pow_right (by decide) h
/-- the two longer settings -/
abbrev two (n : Nm) (s : Cl Nm) : List (Cl Nm) := [s ++ [⟨true, n⟩], s ++ [⟨false, n⟩]]
abbrev c_fulls : Ct := .fn (γ := Rp × List Nm) (fun g => [g.1]) (fun g => (∀ MP, SVp MP g.1 (g.2.map rNm)) ∧ g.2.length ≤ 8) fun g => rCs (fulls g.2)
theorem flat_len {α : Type} (f : α → List (Cl Nm)) (xs : List α) (hf : ∀ x, (f x).length = 2) : (xs.flatMap f).length = 2 * xs.length := by
  induction xs with
  | nil => rfl
  | cons x r ih => rw [List.flatMap_cons, List.length_append, hf, ih, List.length_cons]; omega
section
variable {X : Cx} {B : Base} {ρ : Sl} {M : List Cell} {pos p1 p2 p3 p4 : Pos}
/-- "-" + n -/
theorem de_minus {e : Expr} {n : Nm} {j : Nat} (he : DE X B ρ M e (rNm n)) : DE X B ρ M (.BinOp (.Constant (.str "-") j p1) .Add e pos) (rLt ⟨false, n⟩) := de_op op_addStr de_str he (opv_addS (by
  have := ltS_len ⟨true, n⟩
  show (1 : Nat) + (ltS ⟨true, n⟩).length ≤ _
  omega))
end
theorem dn_l_fulls (F : DefAt K mg "_law_fulls" s_l_fulls) : Dn P w K mg base "_law_fulls" 1 p_l_fulls c_fulls := by
  refine dn_mk F sc_l_fulls (fun _ => rfl) (fun _ _ _ _ _ _ us hl => match us, hl with | [_], _ => rfl) fun f cdv A outer s H E B D (g : Rp × List Nm) hr hz hF hP hD => ?_
  obtain ⟨rn, ns⟩ := g
  obtain ⟨h1, h2⟩ : (∀ MP, SVp MP rn (ns.map rNm)) ∧ ns.length ≤ 8 := hz
  show Tr _ B [some rn, none, none, none, none] [] _ D
  refine tr_set (R := rCs [[]]) 1 sc_l_fulls.nd (ne_lst (Rs := [rC []]) (da_cons (ne_tup (Rs := []) da_nil (Nat.zero_le _)).de da_nil) (by decide)).de ?_
  refine tr_for (S := List (Cl Nm)) (α := Nm) 2 PassesOwn.never sc_l_fulls.nd (de_var 0) (fun acc => [some rn, some (rCs acc), none, none, none]) (fun _ => []) (fun i acc => acc = fulls (ns.take i)) [[]] ns rNm (h1 _) rfl ⟨rfl, rfl, trivial⟩ rfl ?_ ?_
  · intro P pm i n acc hi hJ D' hn hrt
    have hacc : acc.length ≤ 256 := by rw [hJ]; exact fulls_small (by rw [List.length_take]; omega)
    refine tr_own 3 sc_l_fulls.nd (ne_lst da_nil (Nat.zero_le _)) fun a ha => ?_
    refine tr_for (S := List (Cl Nm)) (α := Cl Nm) 4 PassesOwn.never sc_l_fulls.nd (de_var 1) (fun out => [some rn, some (rCs acc), some (rNm n), some (rV (.ref a)), none]) (fun out => [cL a (out.map rC)]) (fun i out => out = (acc.take i).flatMap (two n)) [] acc rC sv_l rfl ⟨rfl, rfl, rfl, rfl, trivial⟩ rfl ?_ ?_
    · intro P2 pm2 i2 c out hi2 hJ2 D2 hn2 hrt2
      have hc : c.length ≤ 8 := by
        have := full_len (hJ ▸ List.mem_of_getElem? hi2)
        rw [List.length_take] at this
        omega
      have hout : out.length ≤ 512 := by
        rw [hJ2, flat_len _ _ fun _ => rfl, List.length_take]; omega
      refine tr_extend (ss := (two n c).map rC) 0 (de_var 3) (ne_lst (Rs := (two n c).map rC) (da_cons (de_op op_catA (de_var 4) (ne_tup (Rs := [rNm n]) (da_cons (de_var 2) da_nil) (by simp)).de ((opv_catT (by rw [List.length_map]; show c.length + 1 ≤ _; omega)).is ?_)) (da_cons (de_op op_catA (de_var 4) (ne_tup (Rs := [rLt ⟨false, n⟩]) (da_cons (de_minus (de_var 2)) da_nil) (by simp)).de ((opv_catT (by rw [List.length_map]; show c.length + 1 ≤ _; omega)).is ?_)) da_nil)) (show 2 ≤ 100000 by decide)).de lv_l rfl (.inr ha) ?_ ?_
      · show rT _ = rT ((c ++ [(⟨true, n⟩ : Lit)]).map rLt)
        rw [List.map_append]; rfl
      · show rT _ = rT ((c ++ [(⟨false, n⟩ : Lit)]).map rLt)
        rw [List.map_append]; rfl
      · rw [List.length_map, List.length_map]
        show out.length + 2 ≤ 100000
        omega
      · rw [← List.map_append]
        refine tr_nil fun σ G H st => hn2 (out ++ two n c) ?_ σ G H (st.less ⟨rfl, rfl, rfl, rfl, trivial⟩)
        rw [hJ2, List.take_add_one, hi2, List.flatMap_append]; rfl
    · intro out hJ2
      rw [List.take_length] at hJ2
      refine tr_pub 3 0 ha rfl rfl ?_
      refine tr_set (R := rCs out) 1 sc_l_fulls.nd (de_var 3) ?_
      refine tr_nil fun σ G H st => hn out ?_ σ G H (st.less ⟨rfl, rfl, trivial⟩)
      rw [hJ2, hJ, List.take_add_one, hi]
      exact (fulls_snoc _ _).symm
  · intro acc hJ
    rw [List.take_length] at hJ
    refine tr_ret (R := rCs acc) (de_var 1) fun v σ G H st r => hD.rt () v _ _ σ G H trivial st .nil ?_
    show (rCs (fulls ns)).p G v
    rw [← hJ]; exact r
theorem dn_full_settings (F : DefAt K mg "full_settings" s_full_settings) : Dn P w K mg base "full_settings" 1 p_full_settings c_fulls := by
  refine dn_mk F sc_full_settings (fun _ => rfl) (fun _ _ _ _ _ _ us hl => match us, hl with | [_], _ => rfl) fun f cdv A outer s H E B D (g : Rp × List Nm) hr hz hF hP hD => ?_
  obtain ⟨rn, ns⟩ := g
  obtain ⟨h1, h2⟩ : (∀ MP, SVp MP rn (ns.map rNm)) ∧ ns.length ≤ 8 := hz
  show Tr _ B [some rn, none, none, none, none] [] _ D
  refine tr_set (R := rCs [[]]) 1 sc_full_settings.nd (ne_lst (Rs := [rC []]) (da_cons (ne_tup (Rs := []) da_nil (Nat.zero_le _)).de da_nil) (by decide)).de ?_
  refine tr_for (S := List (Cl Nm)) (α := Nm) 2 PassesOwn.never sc_full_settings.nd (de_var 0) (fun acc => [some rn, some (rCs acc), none, none, none]) (fun _ => []) (fun i acc => acc = fulls (ns.take i)) [[]] ns rNm (h1 _) rfl ⟨rfl, rfl, trivial⟩ rfl ?_ ?_
  · intro P pm i n acc hi hJ D' hn hrt
    have hacc : acc.length ≤ 256 := by rw [hJ]; exact fulls_small (by rw [List.length_take]; omega)
    have hfl : (acc.flatMap fun c => (both n).map fun l => c ++ [l]).length = 2 * acc.length := flat_len _ _ fun _ => rfl
    have efl : (acc.flatMap fun c => (both n).map fun l => rC (c ++ [l])) = (acc.flatMap (two n)).map rC := by
      rw [List.map_flatMap]; rfl
    refine tr_ownLc2 (α := Cl Nm) (β := Lit) 1 3 4 sc_full_settings.nd acc rC (fun _ => both n) rLt (fun c l => rC (c ++ [l])) (fun _ => rT ((both n).map rLt)) (de_var 1) sv_l ?_ (fun c hc _ _ _ _ _ => ?_) (fun c hc => sv_t) (fun c hc l hl _ _ _ _ _ => ?_) fun a ha => ?_
    · rw [efl, List.length_map, flat_len _ _ fun _ => rfl]; omega
    · exact (ne_tup (Rs := (both n).map rLt) (da_cons (de_var 2) (da_cons (de_minus (de_var 2)) da_nil)) (two_small n)).de
    · have hc8 : c.length ≤ 8 := by
        have := full_len (hJ ▸ hc)
        rw [List.length_take] at this
        omega
      refine de_op op_catA (de_var 3) (ne_tup (Rs := [rLt l]) (da_cons (de_var 4) da_nil) (by simp)).de ((opv_catT (by rw [List.length_map]; show c.length + 1 ≤ _; omega)).is ?_)
      show rT _ = rT ((c ++ [l]).map rLt)
      rw [List.map_append]; rfl
    · refine tr_pub 1 0 ha rfl rfl ?_
      rw [efl]
      refine tr_nil fun σ G H st => hn (acc.flatMap (two n)) ?_ σ G H (st.less ⟨rfl, rfl, trivial⟩)
      rw [hJ, List.take_add_one, hi]
      exact (fulls_snoc _ _).symm
  · intro acc hJ
    rw [List.take_length] at hJ
    refine tr_ret (R := rCs acc) (de_var 1) fun v σ G H st r => hD.rt () v _ _ σ G H trivial st .nil ?_
    show (rCs (fulls ns)).p G v
    rw [← hJ]; exact r
/-! ### the literals of names -/
def litsOf (ns : List Nm) : Cl Nm := ns.flatMap both
theorem mem_litsOf {ns : List Nm} {l : Lit} : l ∈ litsOf ns ↔ l.nm ∈ ns := by
  unfold litsOf both
  rw [List.mem_flatMap]
  constructor
  · rintro ⟨n, hn, h⟩
    simp only [List.mem_cons, List.not_mem_nil, or_false] at h
    rcases h with e | e <;> rw [e] <;> exact hn
  · intro h
    refine ⟨l.nm, h, ?_⟩
    cases l with | mk p n => cases p <;> simp
theorem litsOf_len (ns : List Nm) : (litsOf ns).length = 2 * ns.length := by
  unfold litsOf
  induction ns with
  | nil => rfl
  | cons x r ih => rw [List.flatMap_cons, List.length_append, ih, List.length_cons]; show 2 + _ = _; omega
abbrev c_litsOf : Ct := .fn (γ := Rp × List Nm) (fun g => [g.1]) (fun g => (∀ MP, SVp MP g.1 (g.2.map rNm)) ∧ g.2.length ≤ 10000) fun g => rL ((litsOf g.2).map rLt)
theorem dn_literals_of (F : DefAt K mg "literals_of" s_literals_of) : Dn P w K mg base "literals_of" 1 p_literals_of c_litsOf := by
  refine dn_mk F sc_literals_of (fun _ => rfl) (fun _ _ _ _ _ _ us hl => match us, hl with | [_], _ => rfl) fun f cdv A outer s H E B D (g : Rp × List Nm) hr hz hF hP hD => ?_
  obtain ⟨rn, ns⟩ := g
  obtain ⟨h1, h2⟩ : (∀ MP, SVp MP rn (ns.map rNm)) ∧ ns.length ≤ 10000 := hz
  show Tr _ B [some rn, none, none] [] _ D
  have efl : (ns.flatMap fun n => (both n).map fun l => rLt l) = (litsOf ns).map rLt := by unfold litsOf; rw [List.map_flatMap]
  refine tr_ret (R := rL ((litsOf ns).map rLt)) ?_ fun v σ G H st r => hD.rt () v _ _ σ G H trivial st .nil r
  refine (ne_lc2 (α := Nm) (β := Lit) 1 2 sc_literals_of.nd ns rNm both rLt (fun _ l => rLt l) (fun n => rT ((both n).map rLt)) (de_var 0) (h1 _) ?_ (fun n hn _ _ _ _ _ => ?_) (fun n hn => sv_t) fun n hn l hl _ _ _ _ _ => de_var 2).de.is ?_
  · rw [efl, List.length_map, litsOf_len]; omega
  · exact (ne_tup (Rs := (both n).map rLt) (da_cons (de_var 1) (da_cons (de_minus (de_var 1)) da_nil)) (two_small n)).de
  · rw [efl]
end
end KL

/-! KPar -/
/-! Effects within expressions; several targets; loops over a range. -/
namespace KL
open PySem PySem.Spec PyProof.Rows L2 KM
section
variable {X : Cx} {B : Base} {ρ : Sl} {M : List Cell} {a b c e : Expr} {es : List Expr} {R : Rp} {W : Wp} {pos : Pos} {rest : List Stmt} {D : Ends} {α β : Type} {P : α → Prop} {P2 : α → β → Prop} {Sa : α → Rp} {Sb S : α → β → Rp} {M1 : α → List Cell} {M2 : α → β → List Cell}
/-- a new object that is owned -/
theorem NE.xo [NT W] (h : NE X B ρ M e W) : XE X B ρ M e (fun a : Addr => B.H a = none) (fun a => rV (.ref a)) (fun a => M ++ [cOf a W]) := fun σ G H s Q q => h σ G H s Q fun p o G' H' g hg hh hp hw => q p _ G' H' (s.none_of hh) g.gg (own_new s g hg hh hp hw) rfl
theorem xa_nil : XA X B ρ M [] (fun _ : Unit => True) (fun _ => []) (fun _ => M) := da_nil.xa
theorem xa_cons {S2 : α → β → List Rp} (he : XE X B ρ M e P Sa M1) (hr : ∀ z, P z → XA X B ρ (M1 z) es (P2 z) (S2 z) (M2 z)) (hs : starEach (e :: es) X.env = (false, eval e X.env) :: starEach es X.env := by rfl) :
    XA X B ρ M (e :: es) (fun p : α × β => P p.1 ∧ P2 p.1 p.2) (fun p => Sa p.1 :: S2 p.1 p.2) (fun p => M2 p.1 p.2) := fun σ G H s Q q =>
  sem_a (pa_cons pe_sem pa_sem hs) (he σ G H s _ fun z v G1 H1 hp sg s1 r1 => hr z hp σ G1 H1 s1 _ fun y vs G2 H2 hp2 sg2 s2 r2 => q (z, y) (v :: vs) G2 H2 ⟨hp, hp2⟩ (sg.trans sg2) s2 (.cons ((Sa z).mono sg2 r1) r2))
theorem x_2 (ha : XE X B ρ M a P Sa M1) (hb : ∀ z, P z → XE X B ρ (M1 z) b (P2 z) (Sb z) (M2 z)) {σ : L2.St} {G H : Hp} (s : Stt B ρ M σ G H) {k : V → V → Hp → Prop}
    (q : ∀ z y u v G' H', P z → P2 z y → Same G G' → Stt B ρ (M2 z y) σ G' H' → (Sa z).p G' u → (Sb z y).p G' v → k u v H') : SemE X a σ H fun x H1 => SemE X b σ H1 fun y H2 => k x y H2 :=
  ha σ G H s _ fun z u G1 H1 hp sg s1 r1 => hb z hp σ G1 H1 s1 _ fun y v G2 H2 hp2 sg2 s2 r2 => q z y u v G2 H2 hp hp2 (sg.trans sg2) s2 ((Sa z).mono sg2 r1) r2
theorem xe_op {op : Operator} {r : L2.R2} (ho : OpR X (binaryOp op) r) (ha : XE X B ρ M a P Sa M1) (hb : ∀ z, P z → XE X B ρ (M1 z) b (P2 z) (Sb z) (M2 z)) (hr : ∀ z y, P z → P2 z y → Opv (M2 z y) (Sa z) (Sb z y) r (S z y)) :
    XE X B ρ M (.BinOp a op b pos) (fun p : α × β => P p.1 ∧ P2 p.1 p.2) (fun p => S p.1 p.2) (fun p => M2 p.1 p.2) := fun σ G H s Q q =>
  sem_e (pe_op ho pe_sem pe_sem) (x_2 ha hb s fun z y u v G1 H1 hp hp2 sg s1 r1 r2 => hr z y hp hp2 u v G1 H1 s1.sub s1.mem r1 r2 Q fun w G2 H2 g2 h => q (z, y) w G2 H2 ⟨hp, hp2⟩ (sg.trans g2.gg) (s1.grow g2) h)
theorem xe_ix {r : L2.R2} (ho : IxR X r) (ha : XE X B ρ M a P Sa M1) (hb : ∀ z, P z → XE X B ρ (M1 z) b (P2 z) (Sb z) (M2 z)) (hr : ∀ z y, P z → P2 z y → Opv (M2 z y) (Sa z) (Sb z y) r (S z y)) (hs : PlainIx b := by exact fun _ _ => rfl) :
    XE X B ρ M (.Subscript a b pos) (fun p : α × β => P p.1 ∧ P2 p.1 p.2) (fun p => S p.1 p.2) (fun p => M2 p.1 p.2) := fun σ G H s Q q =>
  sem_e (pe_ix ho pe_sem pe_sem hs) (x_2 ha hb s fun z y u v G1 H1 hp hp2 sg s1 r1 r2 => hr z y hp hp2 u v G1 H1 s1.sub s1.mem r1 r2 Q fun w G2 H2 g2 h => q (z, y) w G2 H2 ⟨hp, hp2⟩ (sg.trans g2.gg) (s1.grow g2) h)
theorem xe_cmp {op : CmpOp} {r : L2.R2} (ho : OpR X (compareOp op) r) (ha : XE X B ρ M a P Sa M1) (hb : ∀ z, P z → XE X B ρ (M1 z) b (P2 z) (Sb z) (M2 z)) (hr : ∀ z y, P z → P2 z y → Opv (M2 z y) (Sa z) (Sb z y) r (S z y)) (hm : behindInMarks op b = false := by first | exact nomark _ | rfl) :
    XE X B ρ M (.Compare a [op] [b] pos) (fun p : α × β => P p.1 ∧ P2 p.1 p.2) (fun p => S p.1 p.2) (fun p => M2 p.1 p.2) := fun σ G H s Q q =>
  sem_e (pe_cmpR ho pe_sem pe_sem hm) (x_2 ha hb s fun z y u v G1 H1 hp hp2 sg s1 r1 r2 => hr z y hp hp2 u v G1 H1 s1.sub s1.mem r1 r2 Q fun w G2 H2 g2 h => q (z, y) w G2 H2 ⟨hp, hp2⟩ (sg.trans g2.gg) (s1.grow g2) h)
theorem xt_cmp {op : CmpOp} {r : L2.R2} {d : α → β → Bool} (ho : OpR X (compareOp op) r) (ha : XE X B ρ M a P Sa M1) (hb : ∀ z, P z → XE X B ρ (M1 z) b (P2 z) (Sb z) (M2 z)) (hr : ∀ z y, P z → P2 z y → Opv (M2 z y) (Sa z) (Sb z y) r (rB (d z y))) (hm : behindInMarks op b = false := by first | exact nomark _ | rfl) :
    XT X B ρ M (.Compare a [op] [b] pos) (fun p : α × β => P p.1 ∧ P2 p.1 p.2) (fun p => d p.1 p.2) (fun p => M2 p.1 p.2) := fun σ G H s Q q =>
  sem_t (pt_cmpR ho pe_sem pe_sem hm) (x_2 ha hb s fun z y u v G1 H1 hp hp2 sg s1 r1 r2 => hr z y hp hp2 u v G1 H1 s1.sub s1.mem r1 r2 _ fun w G2 H2 g2 h => ⟨d z y, h, q (z, y) G2 H2 ⟨hp, hp2⟩ (sg.trans g2.gg) (s1.grow g2)⟩)
theorem xt_val {d : α → Bool} (h : XE X B ρ M e P (fun z => rB (d z)) M1) (he : ∀ whole, isTrue e X.env whole = (do let v ← whole; standAt e.pos; holding [v] (truthy v)) := by intro _; rfl) : XT X B ρ M e P d M1 := fun σ G H s Q q =>
  sem_t (pt_val pe_sem he) (h σ G H s _ fun z v G1 H1 hp sg s1 r1 => ⟨d z, r1, q z G1 H1 hp sg s1⟩)
theorem xe_ifE {γ : Type} {d : α → Bool} {P' : γ → Prop} {S' : γ → Rp} {M' : γ → List Cell} (ht : XT X B ρ M c P d M1) (h1 : ∀ z, P z → d z = true → XE X B ρ (M1 z) a P' S' M') (h0 : ∀ z, P z → d z = false → XE X B ρ (M1 z) b P' S' M') : XE X B ρ M (.IfExp c a b pos) P' S' M' := fun σ G H s Q q =>
  sem_e (pe_ifExp pt_sem pe_sem pe_sem) (ht σ G H s _ fun z G1 H1 hp sg s1 => by
    cases hd : d z with
    | true => exact iteT (h1 z hp hd σ G1 H1 s1 Q fun y v G2 H2 p2 sg2 s2 r => q y v G2 H2 p2 (sg.trans sg2) s2 r)
    | false => exact iteF (h0 z hp hd σ G1 H1 s1 Q fun y v G2 H2 p2 sg2 s2 r => q y v G2 H2 p2 (sg.trans sg2) s2 r))
/-- a and b, a or b, with effects -/
theorem xt_and {γ : Type} {d : α → Bool} {P' : γ → Prop} {d' : γ → Bool} {M' : γ → List Cell} (ha : XT X B ρ M a P d M1) (hb : ∀ z, P z → d z = true → XT X B ρ (M1 z) b P' d' M') (h0 : ∀ z, P z → d z = false → ∃ y, P' y ∧ d' y = false ∧ M' y = M1 z) : XT X B ρ M (.BoolOp .And [a, b] pos) P' d' M' := fun σ G H s Q q =>
  sem_t (PW.pt (pw_and pt_sem (pw_and1 pt_sem))) (ha σ G H s _ fun z G1 H1 hp sg s1 => by
    cases hd : d z with
    | true => exact iteT (hb z hp hd σ G1 H1 s1 Q fun y G2 H2 p2 sg2 s2 => q y G2 H2 p2 (sg.trans sg2) s2)
    | false =>
      obtain ⟨y, p', e1, e2⟩ := h0 z hp hd
      exact iteF (by have := q y G1 H1 p' sg (e2 ▸ s1); rw [e1] at this; exact this))
theorem xt_or {γ : Type} {d : α → Bool} {P' : γ → Prop} {d' : γ → Bool} {M' : γ → List Cell} (ha : XT X B ρ M a P d M1) (hb : ∀ z, P z → d z = false → XT X B ρ (M1 z) b P' d' M') (h0 : ∀ z, P z → d z = true → ∃ y, P' y ∧ d' y = true ∧ M' y = M1 z) : XT X B ρ M (.BoolOp .Or [a, b] pos) P' d' M' := fun σ G H s Q q =>
  sem_t (PW.pt (pw_or pt_sem (pw_or1 pt_sem))) (ha σ G H s _ fun z G1 H1 hp sg s1 => by
    cases hd : d z with
    | false => exact iteF (hb z hp hd σ G1 H1 s1 Q fun y G2 H2 p2 sg2 s2 => q y G2 H2 p2 (sg.trans sg2) s2)
    | true =>
      obtain ⟨y, p', e1, e2⟩ := h0 z hp hd
      exact iteT (by have := q y G1 H1 p' sg (e2 ▸ s1); rw [e1] at this; exact this))
theorem XT.weak {γ : Type} {d : α → Bool} {P' : γ → Prop} {d' : γ → Bool} {M' : γ → List Cell} (h : XT X B ρ M e P d M1) (f : α → γ) (hp : ∀ x, P x → P' (f x)) (hd : ∀ x, P x → d' (f x) = d x) (hm : ∀ x, M1 x = M' (f x)) : XT X B ρ M e P' d' M' := fun σ G H s Q q => h σ G H s Q fun x G' H' p sg st => by
  have := q (f x) G' H' (hp x p) sg (hm x ▸ st)
  rw [hd x p] at this
  exact this

/-! ### several targets -/
variable {x y z : Str} {px py pz pt pt2 spos : Pos} {kt k2 : Nat}
/-- x, y = a, b, plain local names -/
theorem tr_par {γ : Type} {P' : γ → Prop} {Rs : γ → List Rp} {M' : γ → List Cell} (i j : Nat) (nd : X.N.Nodup) (ha : XA X B ρ M [a, b] P' Rs M') (h2 : ∀ z, ∃ r1 r2, Rs z = [r1, r2]) (k : ∀ z r1 r2, P' z → Rs z = [r1, r2] → Tr X B ((ρ.set i (some r1)).set j (some r2)) (M' z) rest D) (hij : i ≠ j := by decide) (hi : X.N[i]? = some x := by rfl) (hj : X.N[j]? = some y := by rfl)
    (hx : X.env.scope.names.lookup x = some .local := by rfl) (hy : X.env.scope.names.lookup y = some .local := by rfl) (hc : X.calm = true := by rfl)
    (hw : swappedStores [.Tuple [.Name x px, .Name y py] kt pt] (.Tuple [a, b] k2 pt2) X.env = pure (some [x, y]) := by rfl)
    (hs : swapsWithSole [.Tuple [.Name x px, .Name y py] kt pt] (.Tuple [a, b] k2 pt2) spos.line X.env = pure false := by rfl) :
    Tr X B ρ M (.Assign [.Tuple [.Name x px, .Name y py] kt pt] (.Tuple [a, b] k2 pt2) spos :: rest) D :=
  tr_sem fun σ G H s => sem_s (ps_par hc nd hi hj hij hx hy pa_sem hw hs) (ha σ G H s _ fun z vs G' H' hp sg s' r => by
    obtain ⟨r1, r2, e⟩ := h2 z
    rw [e] at r
    obtain ⟨v, w, rfl, h1, h2⟩ := all2_2 r
    exact ⟨v, w, rfl, k z r1 r2 hp e _ G' H' ((s'.set h1).set h2)⟩)
/-- x, y = e, where e gives a pair -/
theorem tr_unp {P : α → Prop} {R1 R2 : α → Rp} {M' : α → List Cell} (i j : Nat) (nd : X.N.Nodup) (he : XE X B ρ M e P (fun z => rT [R1 z, R2 z]) M') (k : ∀ z, P z → Tr X B ((ρ.set i (some (R1 z))).set j (some (R2 z))) (M' z) rest D) (hi : X.N[i]? = some x := by rfl) (hj : X.N[j]? = some y := by rfl)
    (hx : L2.Loc X.env.scope x := by first | exact .inl rfl | exact .inr rfl) (hy : L2.Loc X.env.scope y := by first | exact .inl rfl | exact .inr rfl)
    (hfx : X.fn x = true ∨ X.env.scope.names.lookup x = some .local := by first | exact .inl rfl | exact .inr rfl) (hfy : X.fn y = true ∨ X.env.scope.names.lookup y = some .local := by first | exact .inl rfl | exact .inr rfl) (hc : X.calm = true := by rfl)
    (hs : swapsWithSole [.Tuple [.Name x px, .Name y py] kt pt] e spos.line X.env = pure false := by rfl) (hw : swappedStores [.Tuple [.Name x px, .Name y py] kt pt] e X.env = pure none := by rfl)
    (h1 : (assignEach [.Tuple [.Name x px, .Name y py] kt pt] X.env).map (·.2) = [assign (.Tuple [.Name x px, .Name y py] kt pt) X.env] := by rfl)
    (hst : (assignEach [.Name x px, .Name y py] X.env).findIdx? (·.1) = none := by rfl) (hn : (assignEach [.Name x px, .Name y py] X.env).length = 2 := by rfl)
    (hs1 : (assignEach [.Name x px, .Name y py] X.env).map (·.2) = assign (.Name x px) X.env :: (assignEach [.Name y py] X.env).map (·.2) := by rfl) (hs2 : (assignEach [.Name y py] X.env).map (·.2) = assign (.Name y py) X.env :: (assignEach [] X.env).map (·.2) := by rfl) :
    Tr X B ρ M (.Assign [.Tuple [.Name x px, .Name y py] kt pt] e spos :: rest) D :=
  tr_sem fun σ G H s => sem_s (ps_asg pe_sem (pg_tup hc (pgs_cons (pg_name nd hi hx hfx) (pgs_cons (pg_name nd hj hy hfy) pgs_nil hs2) hs1) hn hst) hs hw h1) (he σ G H s _ fun z v G' H' hp sg s' ⟨a, o, ea, ho, vs, eo, t⟩ => by
    subst eo
    obtain ⟨v1, v2, rfl, q1, q2⟩ := all2_2 t
    exact ⟨a, [v1, v2], ea, SqT.of (s'.sub _ _ ho), rfl, v1, [v2], rfl, v2, [], rfl, rfl, k z hp _ G' H' ((s'.set q1).set q2)⟩)
/-! ### for x in range(e) -/
theorem tr_range {T : Type} {n : α → Nat} {body : List Stmt} {ae : Expr} {fp cp pj : Pos} (j : Nat) (nd : X.N.Nodup) (hm : X.mg "range" = none) (he : XE X B ρ M ae P (fun z => rI (n z)) M1) (hb : ∀ z, P z → n z ≤ 100000) (ρs : α → T → Sl) (Ms : α → T → List Cell) (J : α → Nat → T → Prop) (s0 : α → T) (j0 : ∀ z, P z → J z 0 (s0 z)) (l0 : ∀ z, P z → Less (ρs z (s0 z)) ρ) (m0 : ∀ z, P z → Ms z (s0 z) = M1 z)
    (turn : ∀ z i s, P z → i < n z → J z i s → ∀ D' : Ends, (∀ s', J z (i + 1) s' → ∀ σ G H, Stt B (ρs z s') (Ms z s') σ G H → D'.nx σ H) → D'.rt = D.rt → Tr X B ((ρs z s).set j (some (rI i))) (Ms z s) body D')
    (done : ∀ z s, P z → J z (n z) s → Tr X B (ρs z s) (Ms z s) rest D) (hp : PassesOwn (model X.prog X.w) X.A X.env X.xe := by exact PassesOwn.never) (hg : Gl X "range" := by rfl) (hc : X.calm = true := by rfl) (hj : X.N[j]? = some x := by rfl) (hx : L2.Loc X.env.scope x := by first | exact .inl rfl | exact .inr rfl)
    (hf : X.fn x = true ∨ X.env.scope.names.lookup x = some .local := by first | exact .inl rfl | exact .inr rfl) (hs : ∀ v, foldedSetIterable (.Call (.Name "range" fp) [ae] [] cp) X.env v = pure v := by intro _; rfl) (hsa : starEach [ae] X.env = [(false, eval ae X.env)] := by rfl) :
    Tr X B ρ M (.For (.Name x pj) (.Call (.Name "range" fp) [ae] [] cp) body [] pos :: rest) D :=
  tr_sem fun σ G H s => sem_s (ps_for hp hc (pi_range1 hg hm (pa_cons pe_sem pa_nil (by rw [hsa]; rfl)) hsa) (pg_name nd hj hx hf) pss_sem hs) (he σ G H s _ fun z v G1 H1 pz sg s1 r1 => by
    have r1 : v = .int (n z) := r1
    subst r1
    have hb := hb z pz
    have e62 : (100000 : Int) < 2 ^ 62 := by decide
    refine ⟨n z, rfl, by omega, by omega, ?_⟩
    have en : ((n z : Int)).toNat = n z := by omega
    rw [en]
    refine for_range (lo := 0) (n := n z) (fun i σ' H' => ∃ t G', J z i t ∧ Stt B (ρs z t) (Ms z t) σ' G' H') ⟨s0 z, G1, j0 z pz, by rw [m0 z pz]; exact s1.less (l0 z pz)⟩ ?_ ?_
    · rintro i σ' H' hi ⟨t, G', jt, st⟩
      have e0 : (0 : Int) + (i : Int) = (i : Int) := Int.zero_add _
      have := turn z i t pz hi jt ⟨fun σ' H' => ∃ t G', J z (i + 1) t ∧ Stt B (ρs z t) (Ms z t) σ' G' H', D.rt, SemSs X rest D, fun σ' H' => ∃ t G', J z (i + 1) t ∧ Stt B (ρs z t) (Ms z t) σ' G' H'⟩ (fun t' jt' σ2 G2 H2 s2 => ⟨t', G2, jt', s2⟩) rfl _ G' H' (st.set (v := .int i) rfl)
      show SemSs X body _ (σ'.set j (some (.int ((0 : Int) + (i : Int))))) H'
      rw [e0]
      exact this
    · rintro σ' H' ⟨t, G', jt, st⟩
      exact done z t pz jt σ' G' H' st)
end
end KL

/-! KDict -/
/-! Rules over dicts with text keys; items that are set; displays. -/
namespace KL
open PySem PySem.Spec PyProof.Rows L2 KM
abbrev Es := List (Str × Rp)
def valE : Es → Str → Option Rp
  | [], _ => none
  | e :: r, k => if e.1 = k then some e.2 else valE r k
def putE : Es → Str → Rp → Es
  | [], k, v => [(k, v)]
  | e :: r, k, v => if e.1 = k then (k, v) :: r else e :: putE r k v
theorem kvs_val {G : Hp} {k : Str} : ∀ {es : Es} {kvs : List (Key × V)}, KVs G es kvs → (valE es k = none → valV kvs (Sum.inr k) = none) ∧ ∀ r, valE es k = some r → ∃ v, valV kvs (Sum.inr k) = some v ∧ r.p G v
  | [], _, .nil => ⟨fun _ => rfl, fun r h => by cases h⟩
  | e :: es, q :: kvs, .cons h t => by
    have ih := kvs_val (k := k) t
    unfold valE
    by_cases c : e.1 = k
    · rw [if_pos c]
      refine ⟨fun h => (nomatch h), fun r hr => ?_⟩
      rw [valV_pos (by rw [h.1, c])]
      have hr : e.2 = r := Option.some.inj hr
      exact ⟨_, rfl, hr ▸ h.2⟩
    · rw [if_neg c, valV_neg (by rw [h.1]; exact fun z => c (Sum.inr.inj z))]
      exact ih
theorem kvs_none {G : Hp} {k : Str} {es : Es} {kvs : List (Key × V)} (h : KVs G es kvs) : valV kvs (Sum.inr k) = none → valE es k = none := fun e => by
  cases q : valE es k with
  | none => rfl
  | some r =>
    obtain ⟨v, hv, _⟩ := (kvs_val (k := k) h).2 r q
    rw [e] at hv; cases hv
theorem putE_new {es : Es} {k : Str} {v : Rp} (h : valE es k = none) : putE es k v = es ++ [(k, v)] := by
  induction es with
  | nil => rfl
  | cons e r ih =>
    unfold valE at h
    split at h
    · cases h
    · rename_i c
      unfold putE
      rw [if_neg c, ih h]; rfl
/-- a written key, by its entry's places -/
theorem putK_cons_ne {q : Key × V} {kvs : List (Key × V)} {k : Key} {v : V} (h : ¬ q.1 = k) : putK (q :: kvs) k v = q :: putK kvs k v := by
  unfold putK
  simp only [List.any_cons, decide_eq_false h, Bool.false_or, List.map_cons, if_neg h]
  split <;> rfl
theorem putK_noop {kvs : List (Key × V)} {k : Key} {v : V} (h : ∀ q ∈ kvs, ¬ q.1 = k) : (kvs.map fun kv => if kv.1 = k then (kv.1, v) else kv) = kvs := by
  conv => rhs; rw [← List.map_id kvs]
  exact List.map_congr_left fun q hq => if_neg (h q hq)
theorem kvs_put {G : Hp} {k : Str} {r : Rp} {v : V} (hv : r.p G v) : ∀ {es : Es} {kvs : List (Key × V)}, (es.map Prod.fst).Nodup → KVs G es kvs → KVs G (putE es k r) (putK kvs (Sum.inr k) v)
  | [], _, _, .nil => .cons ⟨rfl, hv⟩ .nil
  | e :: es, q :: kvs, nd, .cons h t => by
    rw [List.map_cons, List.nodup_cons] at nd
    unfold putE
    by_cases c : e.1 = k
    · rw [if_pos c]
      have hq : q.1 = Sum.inr k := by rw [h.1, c]
      have hno : ∀ q' ∈ kvs, ¬ q'.1 = Sum.inr k := fun q' hq' z => by
        have : ∀ {es' : Es} {kvs' : List (Key × V)}, KVs G es' kvs' → q' ∈ kvs' → k ∈ es'.map Prod.fst := by
          intro es' kvs' hk
          induction hk with
          | nil => intro h; cases h
          | cons hh tt ih =>
            intro hm
            rcases List.mem_cons.mp hm with e' | hm
            · subst e'
              rw [hh.1] at z
              rw [List.map_cons, Sum.inr.inj z]
              exact List.mem_cons_self
            · exact List.mem_cons_of_mem _ (ih hm)
        exact nd.1 (c ▸ this t hq')
      have e2 : putK (q :: kvs) (Sum.inr k) v = (q.1, v) :: kvs := by
        unfold putK
        simp only [List.any_cons, decide_eq_true hq, Bool.true_or, if_true, List.map_cons, if_pos hq]
        rw [putK_noop hno]
      rw [e2]
      exact .cons ⟨hq, hv⟩ t
    · rw [if_neg c, putK_cons_ne (by rw [h.1]; exact fun z => c (Sum.inr.inj z))]
      exact .cons h (kvs_put hv nd.2 t)
theorem mergeK_app : ∀ {more kvs : List (Key × V)}, ((kvs ++ more).map (·.1)).Nodup → mergeK kvs more = kvs ++ more
  | [], kvs, _ => by show kvs = kvs ++ []; rw [List.append_nil]
  | p :: r, kvs, h => by
    have hn : valV kvs p.1 = none := by
      cases q : valV kvs p.1 with
      | none => rfl
      | some v =>
        have := valV_in q
        rw [List.map_append, List.nodup_append] at h
        exact absurd rfl (h.2.2 _ this _ (by rw [List.map_cons]; exact List.mem_cons_self))
    show mergeK (putK kvs p.1 p.2) r = _
    rw [putK_new _ hn, mergeK_app (by rw [List.append_assoc]; exact h), List.append_assoc]; rfl
theorem kvs_keys {G : Hp} : ∀ {es : Es} {kvs : List (Key × V)}, KVs G es kvs → kvs.map (·.1) = (es.map Prod.fst).map Sum.inr
  | [], _, .nil => rfl
  | e :: es, q :: kvs, .cons h t => by rw [List.map_cons, List.map_cons, List.map_cons, kvs_keys t, h.1]
theorem inr_nodup {ks : List Str} (h : ks.Nodup) : (ks.map (Sum.inr : Str → Key)).Nodup := by
  rw [List.Nodup, List.pairwise_map]
  exact h.imp fun {a b} n e => n (Sum.inr.inj e)
section
variable {X : Cx} {B : Base} {ρ : Sl} {M : List Cell} {o i e f ve : Expr} {R : Rp} {W : Wp} {pos ppos cpos apos : Pos} {rest : List Stmt} {D : Ends}
/-- a dict to be read: the entries, as they stand -/
def DVw (M : List Cell) (R : Rp) (es : Es) : Prop := ∀ G H v, Same G H → Mem G H M → R.p G v → ∃ a kvs, v = .ref a ∧ H a = some (.dK kvs) ∧ KVs G es kvs
theorem dv_d {es : Es} : DVw M (rD es) es := fun G H v s m ⟨a, o, e, h, kvs, eo, t⟩ => ⟨a, kvs, e, by rw [← eo]; exact s _ _ h, t⟩
theorem dv_c {a : Addr} {es : Es} (h : cD a es ∈ M) : DVw M (rV (.ref a)) es := fun G H v s m e => let ⟨o, h1, kvs, h2, h3⟩ := m.ok _ h; ⟨a, kvs, e, by rw [← h2]; exact h1, h3⟩
/-! ### d[k], there -/
theorem de_dget {es : Es} {k : Str} {r : Rp} (hu : X.A.units + 1 < cLine) (ho : DE X B ρ M o R) (hd : DVw M R es) (hi : DE X B ρ M i (rS k)) (hk : valE es k = some r) (hs : NoSl i := by exact fun _ _ => rfl) : DE X B ρ M (.Subscript o i pos) r := fun σ G H s Q q =>
  sem_e (pe_dget hu pe_sem pe_sem hs) (ho σ G H s _ fun u G1 H1 g1 r1 => hi σ G1 H1 (s.grow g1) _ fun y G2 H2 g2 r2 => by
    have s2 := (s.grow g1).grow g2
    obtain ⟨a, kvs, rfl, ha, hk2⟩ := hd G2 H2 u s2.sub s2.mem (R.mono g2.gg r1)
    obtain ⟨v, hv, hr⟩ := (kvs_val (k := k) hk2).2 r hk
    have r2 : y = .str k := r2
    subst r2
    refine ⟨a, v, rfl, ?_, q v G2 H2 (g1.trans g2) hr⟩
    rw [← hv]
    exact DGet.k (k := Sum.inr k) ha)
/-- d.get(k, x) -/
theorem de_dget2 {es : Es} {k : Str} {r : Rp} (hu : X.A.units + 1 < cLine) (ho : DE X B ρ M o R) (hd : DVw M R es) (he : DE X B ρ M e (rS k)) (hf : DE X B ρ M f r) {r2 : Rp} (h1 : ∀ r', valE es k = some r' → r' = r2) (h0 : valE es k = none → r = r2) (m : M2 X o "get" apos e f cpos := by exact ⟨rfl, rfl, rfl, rfl⟩) : DE X B ρ M (.Call (.Attribute o "get" apos) [e, f] [] cpos) r2 := fun σ G H s Q q =>
  sem_e (pe_dget2 hu pe_sem pe_sem pe_sem m) (ho σ G H s _ fun u G1 H1 g1 r1 => by
    have s1 := s.grow g1
    obtain ⟨a, kvs, rfl, ha, _⟩ := hd G1 H1 u s1.sub s1.mem r1
    refine ⟨a, rfl, .inl ⟨kvs, .inl ha⟩, he σ G1 H1 s1 _ fun y G2 H2 g2 r2' => hf σ G2 H2 (s1.grow g2) _ fun z G3 H3 g3 r3 => ?_⟩
    have s3 := (s1.grow g2).grow g3
    obtain ⟨a', kvs', e', ha', hk'⟩ := hd G3 H3 _ s3.sub s3.mem (R.mono (g2.gg.trans g3.gg) r1)
    cases e'
    have r2' : y = .str k := r2'
    subst r2'
    have g := g1.trans (g2.trans g3)
    cases hE : valE es k with
    | none =>
      have hn := (kvs_val (k := k) hk').1 hE
      refine ⟨valV kvs' (Sum.inr k), DGet.k (k := Sum.inr k) ha', ?_⟩
      rw [hn]
      exact q _ G3 H3 g (h0 hE ▸ r3)
    | some r' =>
      obtain ⟨v, hv, hr⟩ := (kvs_val (k := k) hk').2 r' hE
      refine ⟨valV kvs' (Sum.inr k), DGet.k (k := Sum.inr k) ha', ?_⟩
      rw [hv]
      exact q _ G3 H3 g (h1 r' hE ▸ hr))
/-- {} -/
theorem ne_dnew : NE X B ρ M (.Dict [] [] pos) (wD []) := fun σ G H s Q q =>
  sem_e pe_dnewK fun p hp => by
    obtain ⟨g, hg⟩ := new_grow (o := .dK []) s.sub hp
    exact q p _ _ _ g hg hp upd_same ⟨[], rfl, .nil⟩
/-! ### d[k] = e -/
theorem tr_dput {a : Addr} {es : Es} {k : Str} {α : Type} {P : α → Prop} {S : α → Rp} {M' : α → List Cell} (j : Nat) (hu : X.A.units + 1 < cLine) (hv : XE X B ρ M ve P S M') (ho : ∀ z, P z → DE X B ρ (M' z) o (rV (.ref a))) (hi : ∀ z, P z → DE X B ρ (M' z) i (rS k)) (hj : ∀ z, P z → (M' z)[j]? = some (cD a es)) (hw : B.F a ∨ B.H a = none) (hz : es.length < 100000) (nd : (es.map Prod.fst).Nodup)
    (kk : ∀ z, P z → Tr X B ρ ((M' z).set j (cD a (putE es k (S z)))) rest D) (hs : swapsWith ve (some (.Subscript o i ppos)) pos.line X.env = pure false := by rfl) : Tr X B ρ M (.Assign [.Subscript o i ppos] ve pos :: rest) D :=
  tr_sem fun σ G H s => sem_s (ps_dput hu pe_sem pe_sem pe_sem hs) (hv σ G H s _ fun z v G1 H1 hp sg s1 r1 => ho z hp σ G1 H1 s1 _ fun x G2 H2 g2 r2 => hi z hp σ G2 H2 (s1.grow g2) _ fun y G3 H3 g3 r3 => by
    have s3 := (s1.grow g2).grow g3
    have r2 : x = .ref a := r2
    have r3 : y = .str k := r3
    subst r2; subst r3
    obtain ⟨u, h1, kvs, e1, t1⟩ := cell_at s3.mem (hj z hp)
    subst e1
    refine ⟨a, _, rfl, DPut.k (k := Sum.inr k) h1 (small5' (by rw [← Paired.length t1]; exact hz)), ?_⟩
    exact kk z hp _ G3 _ (s3.put (hj z hp) hw ⟨_, rfl, kvs_put ((S z).mono (g2.gg.trans g3.gg) r1) nd t1⟩))
/-- xs[i] = e, xs a list of its own -/
theorem tr_setItem {a : Addr} {rs : List Rp} {α : Type} {P : α → Prop} {S : α → Rp} {M' : α → List Cell} (j : Nat) (hv : XE X B ρ M ve P S M') {β : Type} {P2 : α → β → Prop} {M2 : α → β → List Cell} {ii : α → β → Nat} (ho : ∀ z, P z → DE X B ρ (M' z) o (rV (.ref a))) (hi : ∀ z, P z → XE X B ρ (M' z) i (P2 z) (fun y => rI (ii z y)) (M2 z)) (hl : ∀ z y, P z → P2 z y → ii z y < rs.length) (hj : ∀ z y, P z → P2 z y → (M2 z y)[j]? = some (cL a rs)) (hw : B.F a ∨ B.H a = none) (hz : rs.length ≤ 100000)
    (kk : ∀ z y, P z → P2 z y → Tr X B ρ ((M2 z y).set j (cL a (rs.set (ii z y) (S z)))) rest D) (hs : swapsWithSole [.Subscript o i ppos] ve pos.line X.env = pure false := by rfl) (hw2 : swappedStores [.Subscript o i ppos] ve X.env = pure none := by rfl)
    (h1 : (assignEach [.Subscript o i ppos] X.env).map (·.2) = [assign (.Subscript o i ppos) X.env] := by rfl)
    (hax : ∀ v, assign (.Subscript o i ppos) X.env v = (do
      let ov ← holding [v] (eval o X.env)
      let iv ← holding [v, ov] (eval i X.env)
      standAt ppos
      holding [v, ov, iv] (setItem ov iv v)
      release [v, ov, iv] []) := by intro _; rfl) : Tr X B ρ M (.Assign [.Subscript o i ppos] ve pos :: rest) D :=
  tr_sem fun σ G H s => sem_s (ps_asg pe_sem (pg_sub pe_sem pe_sem set_list hax) hs hw2 h1) (hv σ G H s _ fun z v G1 H1 hp sg s1 r1 => ho z hp σ G1 H1 s1 _ fun x G2 H2 g2 r2 => hi z hp σ G2 H2 (s1.grow g2) _ fun y iv G3 H3 hp2 sg3 s3 r3 => by
    have r2 : x = .ref a := r2
    have r3 : iv = .int (ii z y) := r3
    subst r2; subst r3
    obtain ⟨u, h1, vs, e1, t1⟩ := cell_at s3.mem (hj z y hp hp2)
    subst e1
    have hlt := hl z y hp hp2
    have hx : ixN vs.length (ii z y : Int) = some (ii z y) := by
      have := t1.len
      unfold ixN
      rw [if_pos (by omega), if_pos (by omega)]
      simp
    exact ⟨a, vs, _, ii z y, rfl, rfl, h1, hx, kk z y hp hp2 _ G3 _ (s3.put (hj z y hp hp2) hw ⟨_, rfl, t1.set ((S z).mono (g2.gg.trans sg3) r1) _⟩)⟩)
/-! ### displays -/
def DP (X : Cx) (B : Base) (ρ : Sl) (M : List Cell) (pos : Pos) (ks : List (Option Expr)) (vs : List Expr) (es : Es) : Prop := ∃ trs, PPs X pos ks vs trs ∧ ∀ σ G H, Stt B ρ M σ G H → ∀ Q : List (V × V) → Hp → Prop, (∀ kvs G' H', Grow G H G' H' → KVs G' es kvs → Q (kvs.map fun kv => (kV kv.1, kv.2)) H') → tPairs trs σ H Q
theorem dp_nil : DP X B ρ M pos [] [] [] := ⟨_, pps_nil, fun σ G H s Q q => q [] G H (Grow.refl s.sub) .nil⟩
theorem dp_cons {ke v : Expr} {ks : List (Option Expr)} {vs : List Expr} {k : Str} {r : Rp} {es : Es} (hk : DE X B ρ M ke (rS k)) (hv : DE X B ρ M v r) (hr : DP X B ρ M pos ks vs es) : DP X B ρ M pos (some ke :: ks) (v :: vs) ((k, r) :: es) := by
  obtain ⟨trs, h1, h2⟩ := hr
  refine ⟨_, pps_cons pe_sem pe_sem h1, fun σ G H s Q q => hk σ G H s _ fun x G1 H1 g1 r1 => hv σ G1 H1 (s.grow g1) _ fun y G2 H2 g2 r2 => h2 σ G2 H2 ((s.grow g1).grow g2) _ fun kvs G3 H3 g3 r3 => ?_⟩
  have r1 : x = .str k := r1
  subst r1
  exact q ((Sum.inr k, y) :: kvs) G3 H3 (g1.trans (g2.trans g3)) (.cons ⟨rfl, r.mono g3.gg r2⟩ r3)
theorem ne_disp {keys : List (Option Expr)} {values : List Expr} {es : Es} (h : DP X B ρ M pos keys values es) (nd : (es.map Prod.fst).Nodup) (h15 : es.length ≤ 15) (hall : keys.all (·.isSome) = true := by rfl) (hl : keys.length = values.length := by rfl) (h0 : keys ≠ [] := by exact (fun h => nomatch h)) (hk15 : keys.length ≤ 15 := by decide) : NE X B ρ M (.Dict keys values pos) (wD es) := fun σ G H s Q q => by
  obtain ⟨trs, h1, h2⟩ := h
  refine sem_e (pe_disp h1 hall hl h0 hk15) fun p hp => ?_
  obtain ⟨g, hg⟩ := new_grow (o := .dK []) s.sub hp
  refine h2 σ G _ (s.grow g) _ fun kvs G' H' g' r => ?_
  have hp' : H' p = some (.dK []) := g'.hh _ _ upd_same
  have hgp : G' p = none := no_D g' hg upd_same
  refine ⟨hp', kvs, rfl, by rw [← Paired.length r]; exact h15, ?_⟩
  have em : mergeK [] kvs = kvs := by rw [mergeK_app (by rw [List.nil_append, kvs_keys r]; exact inr_nodup nd), List.nil_append]
  rw [em]
  exact q p _ G' _ (grow_D (o := .dK []) (g.trans g') hgp hp) hgp hp upd_same ⟨kvs, rfl, r⟩
/-! ### built-ins -/
def rLenD : List V → Hp → VK → Prop := fun xs H Q => ∃ a kvs, xs = [V.ref a] ∧ H a = some (.dK kvs) ∧ Q (.int kvs.length) H
theorem cr_lenD : CallR X (.builtin "len") rLenD := call_lenD
theorem clv_lenD {es : Es} (h : DVw M R es) : Clv M [R] rLenD (rI es.length) := fun xs G H s m hx Q q => by
  obtain ⟨v, rfl, hv⟩ := all2_1 hx
  obtain ⟨a, kvs, rfl, ha, t⟩ := h G H v s m hv
  refine ⟨a, kvs, rfl, ha, ?_⟩
  rw [← Paired.length t]
  exact q _ G H (Grow.refl s) rfl
theorem cr_listD (hc : X.calm = true := by rfl) : CallR X (.type "list") rListD := call_list_dK hc
theorem kvs_strs {G : Hp} : ∀ {es : Es} {kvs : List (Key × V)}, KVs G es kvs → All2 G ((es.map Prod.fst).map rS) (kvs.map fun kv => kV kv.1)
  | [], _, .nil => .nil
  | e :: es, q :: kvs, .cons h t => by
    rw [List.map_cons, List.map_cons, List.map_cons, h.1]
    exact .cons rfl (kvs_strs t)
theorem cln_listD {es : Es} (h : DVw M R es) : ClN M [R] rListD (wL ((es.map Prod.fst).map rS)) := fun xs G H s m hx Q q => by
  obtain ⟨v, rfl, hv⟩ := all2_1 hx
  obtain ⟨a, kvs, rfl, ha, t⟩ := h G H v s m hv
  refine ⟨a, kvs, rfl, ha, fun p hp => ?_⟩
  obtain ⟨g, hg⟩ := new_grow (o := .lst (kvs.map fun kv => kV kv.1)) s hp
  exact q p _ _ _ g hg hp upd_same ⟨_, rfl, kvs_strs t⟩
def rDictP (K : PySem.W.Frag) : List V → Hp → VK → Prop := fun xs H Q => ∃ (a : Addr) (ps : List Addr) (kvs : List (Key × V)), xs = [.ref a] ∧ SqL K H a (ps.map V.ref) ∧ Paired (fun p kv => SqT K H p [kV kv.1, kv.2]) ps kvs ∧
    ∀ p, H p = none → Q (.ref p) (upd H p (.dK (mergeK [] kvs)))
theorem cr_dictP (hc : X.calm = true := by rfl) : CallR X (.type "dict") (rDictP X.K) := call_dictP hc
theorem pairs_all2 {K : PySem.W.Frag} {G H : Hp} (s : Same G H) : ∀ {es : Es} {vs : List V}, All2 G (es.map fun e => rT [rS e.1, e.2]) vs → ∃ (ps : List Addr) (kvs : List (Key × V)), vs = ps.map V.ref ∧ Paired (fun p kv => SqT K H p [kV kv.1, kv.2]) ps kvs ∧ KVs G es kvs
  | [], _, .nil => ⟨[], [], rfl, .nil, .nil⟩
  | e :: es, _, .cons h t => by
    obtain ⟨ps, kvs, rfl, h1, h2⟩ := pairs_all2 s t
    obtain ⟨a, o, rfl, ho, us, rfl, tu⟩ := h
    obtain ⟨x, y, rfl, hx, hy⟩ := all2_2 tu
    have hx : x = .str e.1 := hx
    subst hx
    exact ⟨a :: ps, (Sum.inr e.1, y) :: kvs, rfl, .cons (SqT.of (s _ _ ho)) h1, .cons ⟨rfl, hy⟩ h2⟩
theorem cln_dictP {K : PySem.W.Frag} {es : Es} (h : LVw M R (es.map fun e => rT [rS e.1, e.2])) (nd : (es.map Prod.fst).Nodup) : ClN M [R] (rDictP K) (wD es) := fun xs G H s m hx Q q => by
  obtain ⟨v, rfl, hv⟩ := all2_1 hx
  obtain ⟨a, vs, rfl, ho, t⟩ := h G H v s m hv
  obtain ⟨ps, kvs, rfl, h1, h2⟩ := pairs_all2 (K := K) s t
  refine ⟨a, ps, kvs, rfl, SqL.of ho, h1, fun p hp => ?_⟩
  have em : mergeK [] kvs = kvs := by rw [mergeK_app (by rw [List.nil_append, kvs_keys h2]; exact inr_nodup nd), List.nil_append]
  rw [em]
  obtain ⟨g, hg⟩ := new_grow (o := .dK kvs) s hp
  exact q p _ _ _ g hg hp upd_same ⟨kvs, rfl, h2⟩
/-- a tuple display with effects -/
theorem xe_tup {es : List Expr} {α : Type} {P : α → Prop} {Rs : α → List Rp} {M' : α → List Cell} {x1 : Nat} (h : XA X B ρ M es P Rs M') (hz : ∀ z, (Rs z).length ≤ 100000) : XE X B ρ M (.Tuple es x1 pos) P (fun z => rT (Rs z)) M' := fun σ G H s Q q =>
  sem_e (pe_tup pa_sem) (h σ G H s _ fun z vs G1 H1 hp sg s1 r1 => ⟨small5 (r1.len ▸ hz z), fun p hp' => by
    obtain ⟨g2, hg⟩ := new_grow (o := .tup vs) s1.sub hp'
    have g3 := pub_grow g2 hg hp' upd_same
    exact q z _ _ _ hp (sg.trans g3.gg) (s1.grow g3) ⟨p, _, rfl, upd_same, vs, rfl, r1.mono g3.gg⟩⟩)
theorem xe_lst {es : List Expr} {α : Type} {P : α → Prop} {Rs : α → List Rp} {M' : α → List Cell} (h : XA X B ρ M es P Rs M') (hz : ∀ z, (Rs z).length ≤ 100000) : XE X B ρ M (.List es pos) P (fun z => rL (Rs z)) M' := fun σ G H s Q q =>
  sem_e (pe_lst pa_sem) (h σ G H s _ fun z vs G1 H1 hp sg s1 r1 => ⟨small5 (r1.len ▸ hz z), fun p hp' => by
    obtain ⟨g2, hg⟩ := new_grow (o := .lst vs) s1.sub hp'
    have g3 := pub_grow g2 hg hp' upd_same
    exact q z _ _ _ hp (sg.trans g3.gg) (s1.grow g3) ⟨p, _, rfl, upd_same, vs, rfl, r1.mono g3.gg⟩⟩)
/-! ### the dict of literals that hold -/
def putL (ls : Cl Nm) (l : Lit) : Cl Nm := if l ∈ ls then ls else ls ++ [l]
theorem valE_so (l : Lit) : ∀ ls : Cl Nm, valE (soE ls) (ltS l) = if l ∈ ls then some (rB true) else none
  | [] => rfl
  | k :: ls => by
    have ih := valE_so l ls
    show (if ltS k = ltS l then some (rB true) else valE (soE ls) (ltS l)) = _
    rw [ih]
    by_cases e : k = l
    · subst e; simp
    · have e1 : ¬ ltS k = ltS l := fun h => e (ltS_inj h)
      have e2 : ¬ l = k := fun h => e h.symm
      rw [if_neg e1]
      simp [e2]
theorem putE_so (l : Lit) : ∀ ls : Cl Nm, putE (soE ls) (ltS l) (rB true) = soE (putL ls l)
  | [] => rfl
  | k :: ls => by
    have ih := putE_so l ls
    show (if ltS k = ltS l then (ltS l, rB true) :: soE ls else (ltS k, rB true) :: putE (soE ls) (ltS l) (rB true)) = _
    by_cases e : k = l
    · subst e
      rw [if_pos rfl]
      have : putL (k :: ls) k = k :: ls := if_pos List.mem_cons_self
      rw [this]; rfl
    · have e1 : ¬ ltS k = ltS l := fun h => e (ltS_inj h)
      have e2 : ¬ l = k := fun h => e h.symm
      rw [if_neg e1, ih]
      have : putL (k :: ls) l = k :: putL ls l := by
        unfold putL
        by_cases hm : l ∈ ls
        · rw [if_pos hm, if_pos (List.mem_cons_of_mem _ hm)]
        · rw [if_neg hm, if_neg (by simp [e2, hm])]; rfl
      rw [this]; rfl
theorem so_keys (ls : Cl Nm) : (soE ls).map Prod.fst = ls.map ltS := by rw [List.map_map]; rfl
theorem so_nodup {ls : Cl Nm} (h : ls.Nodup) : ((soE ls).map Prod.fst).Nodup := by
  rw [so_keys, List.Nodup, List.pairwise_map]
  exact h.imp fun {a b} n e => n (ltS_inj e)
theorem putL_nodup {ls : Cl Nm} {l : Lit} (h : ls.Nodup) : (putL ls l).Nodup := by
  unfold putL
  split
  · exact h
  · rename_i hm
    rw [List.nodup_append]
    refine ⟨h, by simp, fun a ha b hb e => hm ?_⟩
    have : b = l := by simpa using hb
    rw [← this, ← e]; exact ha
theorem opv_inSo {l : Lit} {ls : Cl Nm} (h : DVw M R (soE ls)) : Opv M (rLt l) R rInDK (rB (decide (l ∈ ls))) := fun x y G H s m hx hy Q q => by
  obtain ⟨a, kvs, rfl, ha, t⟩ := h G H y s m hy
  have hx : x = .str (ltS l) := hx
  subst hx
  refine ⟨a, _, rfl, DGet.k (k := Sum.inr (ltS l)) ha, ?_⟩
  rw [valV_so t]
  exact q _ G H (Grow.refl s) rfl
theorem opv_notInSo {l : Lit} {ls : Cl Nm} (h : DVw M R (soE ls)) : Opv M (rLt l) R rNotInDK (rB (!decide (l ∈ ls))) := fun x y G H s m hx hy Q q => by
  obtain ⟨a, kvs, rfl, ha, t⟩ := h G H y s m hy
  have hx : x = .str (ltS l) := hx
  subst hx
  refine ⟨a, _, rfl, DGet.k (k := Sum.inr (ltS l)) ha, ?_⟩
  rw [valV_so t]
  exact q _ G H (Grow.refl s) rfl
end
end KL

/-! KMath2 -/
/-! Half settings of some names, level by level. -/
namespace KM
variable {N : Type} [DecidableEq N]
def ixOf (S : List N) (n : N) : Nat := S.idxOf n
theorem ixOf_lt {S : List N} {n : N} (h : n ∈ S) : ixOf S n < S.length := List.idxOf_lt_length_iff.mpr h
theorem ixOf_get {S : List N} {n : N} (h : ixOf S n < S.length) : S[ixOf S n] = n := List.getElem_idxOf h
theorem ixOf_min {S : List N} {n : N} {m : Nat} (h : m < ixOf S n) (hm : m < S.length) : S[m] ≠ n := fun e => by
  have h3 := List.not_of_lt_findIdx (p := (· == n)) (xs := S) (show m < List.findIdx (· == n) S from h)
  rw [e] at h3
  simp at h3
def startOf (S : List N) (c : Cl N) : Nat := match c.getLast? with
  | none => 0
  | some l => ixOf S l.nm + 1
def pair2 (c : Cl N) (n : N) : List (Cl N) := [c ++ [⟨true, n⟩], c ++ [⟨false, n⟩]]
def longer (S : List N) (lvl : List (Cl N)) : List (Cl N) := lvl.flatMap fun c => (S.drop (startOf S c)).flatMap (pair2 c)
def lvls (S : List N) : Nat → List (Cl N)
  | 0 => [[]]
  | k + 1 => longer S (lvls S k)
def halvesTo (S : List N) : Nat → List (Cl N)
  | 0 => [[]]
  | k + 1 => halvesTo S k ++ lvls S (k + 1)
def halves (S : List N) : List (Cl N) := halvesTo S S.length
theorem startOf_snoc (S : List N) (c : Cl N) (l : Lt N) : startOf S (c ++ [l]) = ixOf S l.nm + 1 := by unfold startOf; rw [List.getLast?_concat]
theorem idxOf_at {S : List N} (h : S.Nodup) {i : Nat} (hi : i < S.length) : ixOf S S[i] = i := h.idxOf_getElem i hi
theorem mem_pair2 {c d : Cl N} {n : N} : d ∈ pair2 c n ↔ ∃ p, d = c ++ [⟨p, n⟩] := by
  unfold pair2
  simp only [List.mem_cons, List.not_mem_nil, or_false]
  constructor
  · rintro (e | e)
    · exact ⟨true, e⟩
    · exact ⟨false, e⟩
  · rintro ⟨p, e⟩
    cases p
    · exact .inr e
    · exact .inl e
theorem lvl_sub {S : List N} (hn : S.Nodup) : ∀ (k : Nat) (c : Cl N), c ∈ lvls S k → (c.map Lt.nm).Sublist (S.take (startOf S c)) ∧ c.length = k
  | 0, c, h => by
    have e : c = [] := by simpa [lvls] using h
    subst e
    exact ⟨List.nil_sublist _, rfl⟩
  | k + 1, c, h => by
    obtain ⟨d, hd, h⟩ := List.mem_flatMap.mp (show c ∈ longer S (lvls S k) from h)
    obtain ⟨n, hm, h⟩ := List.mem_flatMap.mp h
    obtain ⟨p, rfl⟩ := mem_pair2.mp h
    obtain ⟨h1, h2⟩ := lvl_sub hn k d hd
    obtain ⟨i, hi, e⟩ := List.getElem_of_mem hm
    rw [List.getElem_drop] at e
    rw [List.length_drop] at hi
    have hlt : startOf S d + i < S.length := by omega
    have hx : ixOf S n = startOf S d + i := by rw [← e]; exact idxOf_at hn hlt
    refine ⟨?_, by rw [List.length_append, h2]; rfl⟩
    rw [startOf_snoc, List.map_append]
    show (d.map Lt.nm ++ [n]).Sublist (S.take (ixOf S n + 1))
    rw [hx, List.take_add_one, List.getElem?_eq_getElem hlt, e]
    refine List.Sublist.append (h1.trans ?_) (List.Sublist.refl _)
    have : S.take (startOf S d) = (S.take (startOf S d + i)).take (startOf S d) := by rw [List.take_take, Nat.min_eq_left (Nat.le_add_right _ _)]
    rw [this]
    exact List.take_sublist _ _
theorem lvl_in {S : List N} : ∀ (k : Nat) (c : Cl N), c ∈ lvls S k → ∀ l ∈ c, l.nm ∈ S
  | 0, c, h, l, hl => by
    have e : c = [] := by simpa [lvls] using h
    subst e
    cases hl
  | k + 1, c, h, l, hl => by
    obtain ⟨d, hd, h⟩ := List.mem_flatMap.mp (show c ∈ longer S (lvls S k) from h)
    obtain ⟨n, hm, h⟩ := List.mem_flatMap.mp h
    obtain ⟨p, rfl⟩ := mem_pair2.mp h
    rcases List.mem_append.mp hl with hl | hl
    · exact lvl_in k d hd l hl
    · have e : l = ⟨p, n⟩ := by simpa using hl
      rw [e]; exact List.mem_of_mem_drop hm
theorem lvl_eq {S : List N} : ∀ (k : Nat) (c : Cl N), c ∈ lvls S k → c.length = k
  | 0, c, h => by
    have e : c = [] := by simpa [lvls] using h
    subst e; rfl
  | k + 1, c, h => by
    obtain ⟨d, hd, h⟩ := List.mem_flatMap.mp (show c ∈ longer S (lvls S k) from h)
    obtain ⟨n, hm, h⟩ := List.mem_flatMap.mp h
    obtain ⟨p, rfl⟩ := mem_pair2.mp h
    rw [List.length_append, lvl_eq k d hd]; rfl
theorem lvl_has {S : List N} (hn : S.Nodup) {c : Cl N} (hc : c.map Lt.nm = S) : ∀ k, k ≤ S.length → c.take k ∈ lvls S k
  | 0, _ => by simp [lvls]
  | k + 1, h => by
    have ih := lvl_has hn hc k (by omega)
    have hl : c.length = S.length := by rw [← hc, List.length_map]
    have hk : k < c.length := by omega
    have hs : startOf S (c.take k) = k := by
      cases k with
      | zero => rfl
      | succ j =>
        have hj : j < c.length := by omega
        have hjS : j < S.length := by omega
        rw [List.take_add_one, List.getElem?_eq_getElem hj]
        show startOf S (c.take j ++ [c[j]]) = j + 1
        rw [startOf_snoc]
        have : c[j].nm = S[j] := by
          have : (c.map Lt.nm)[j]? = S[j]? := by rw [hc]
          rw [List.getElem?_map, List.getElem?_eq_getElem hj, List.getElem?_eq_getElem hjS] at this
          exact Option.some.inj this
        rw [this, idxOf_at hn hjS]
    refine List.mem_flatMap.mpr ⟨_, ih, List.mem_flatMap.mpr ⟨c[k].nm, ?_, ?_⟩⟩
    · rw [hs]
      have hkS : k < S.length := by omega
      have : c[k].nm = S[k] := by
        have : (c.map Lt.nm)[k]? = S[k]? := by rw [hc]
        rw [List.getElem?_map, List.getElem?_eq_getElem hk, List.getElem?_eq_getElem hkS] at this
        exact Option.some.inj this
      rw [this, List.drop_eq_getElem_cons hkS]
      exact List.mem_cons_self
    · refine mem_pair2.mpr ⟨c[k].pos, ?_⟩
      rw [List.take_add_one, List.getElem?_eq_getElem hk]; rfl
theorem flat_le {α β : Type} {f : α → List β} {m : Nat} (xs : List α) (h : ∀ x ∈ xs, (f x).length ≤ m) : (xs.flatMap f).length ≤ m * xs.length := by
  induction xs with
  | nil => exact Nat.le_refl _
  | cons x r ih =>
    rw [List.flatMap_cons, List.length_append, List.length_cons, Nat.mul_succ]
    have h1 := h x List.mem_cons_self
    have h2 := ih fun y hy => h y (List.mem_cons_of_mem _ hy)
    omega
theorem more_len (S : List N) (c : Cl N) : ((S.drop (startOf S c)).flatMap (pair2 c)).length ≤ 2 * S.length := by
  refine Nat.le_trans (flat_le (m := 2) _ fun x _ => Nat.le_refl 2) ?_
  rw [List.length_drop]
  omega
theorem longer_len (S : List N) (lvl : List (Cl N)) : (longer S lvl).length ≤ 2 * S.length * lvl.length := flat_le _ fun c _ => more_len S c
theorem lvl_len (S : List N) (h : S.length ≤ 3) : ∀ k, (lvls S k).length ≤ 6 ^ k
  | 0 => Nat.le_refl _
  | k + 1 => by
    have ih := lvl_len S h k
    have h1 := longer_len S (lvls S k)
    have h2 : 2 * S.length * (lvls S k).length ≤ 6 * 6 ^ k := Nat.mul_le_mul (by omega) ih
    rw [Nat.pow_succ, Nat.mul_comm]
    exact Nat.le_trans h1 h2
theorem halvesTo_len (S : List N) (h : S.length ≤ 3) : ∀ k, (halvesTo S k).length ≤ 7 ^ k
  | 0 => Nat.le_refl _
  | k + 1 => by
    have ih := halvesTo_len S h k
    have h1 := lvl_len S h (k + 1)
    show (halvesTo S k ++ lvls S (k + 1)).length ≤ _
    rw [List.length_append, Nat.pow_succ]
    rw [Nat.pow_succ] at h1
    have h2 : 6 ^ k ≤ 7 ^ k := Nat.pow_le_pow_left (by decide) k
    omega
theorem mem_halvesTo {S : List N} {c : Cl N} : ∀ k, c ∈ halvesTo S k → ∃ j, j ≤ k ∧ c ∈ lvls S j
  | 0, h => ⟨0, Nat.le_refl _, h⟩
  | k + 1, h => by
    rcases List.mem_append.mp (show c ∈ halvesTo S k ++ lvls S (k + 1) from h) with h | h
    · obtain ⟨j, h1, h2⟩ := mem_halvesTo k h
      exact ⟨j, by omega, h2⟩
    · exact ⟨k + 1, Nat.le_refl _, h⟩
theorem halvesTo_last (S : List N) {c : Cl N} : ∀ k, c ∈ lvls S k → c ∈ halvesTo S k
  | 0, h => h
  | k + 1, h => List.mem_append_right _ h
theorem halves_len {S : List N} (h : S.length ≤ 3) : (halves S).length ≤ 343 := Nat.le_trans (halvesTo_len S h _) (Nat.pow_le_pow_right (by decide) h)
theorem halves_full {S : List N} (hn : S.Nodup) {c : Cl N} (hc : c.map Lt.nm = S) : c ∈ halves S := by
  have h := lvl_has hn hc S.length (Nat.le_refl _)
  have hl : c.length = S.length := by rw [← hc, List.length_map]
  rw [← hl, List.take_length] at h
  rw [hl] at h
  exact halvesTo_last S _ h
theorem halves_sub {S : List N} (hn : S.Nodup) {c : Cl N} (hc : c ∈ halves S) : (c.map Lt.nm).Sublist S := by
  obtain ⟨j, _, h⟩ := mem_halvesTo _ hc
  exact (lvl_sub hn j c h).1.trans (List.take_sublist _ _)
/-- shortest consequences of a table over the names S -/
def shortC (S : List N) (T : List (Cl N)) : List (Cl N) := shortest (halves S) T
theorem shortC_sub {S : List N} (hn : S.Nodup) {T : List (Cl N)} {c : Cl N} (hc : c ∈ shortC S T) : (c.map Lt.nm).Sublist S := halves_sub hn (shortest_mem hc).1
theorem shortC_len {S : List N} {T : List (Cl N)} (h : S.length ≤ 3) : (shortC S T).length ≤ 343 := Nat.le_trans (shortest_len _ _) (halves_len h)
theorem shortC_says {S : List N} {T : List (Cl N)} (hn : S.Nodup) (hT : ∀ s ∈ T, s.map Lt.nm = S) (A : Asg N) : Mods (shortC S T) A ↔ lits S A ∈ T :=
  shortest_says hn hT (fun c hc => halves_full hn hc) (fun c hc l hl => (halves_sub hn hc).subset (List.mem_map.mpr ⟨l, hl, rfl⟩)) A
end KM

/-! KF4 -/
namespace KL
open PySem PySem.Spec PyProof.Rows L2 KM
section
variable {P : Program} {w : World} {K : PySem.W.Frag} {mg : Str → Option Value} {base : Heap}
/-! ### what a code allows, by all fillings -/
def fitsM (cs : List (Cl Nm)) (t : Cl Nm) : Bool := cs.all fun c => meets c t
def allowedM (S : List Nm) (cs : List (Cl Nm)) (Hs : List Nm) : List (Cl Nm) := (fulls S).filter fun s => (fulls Hs).any fun t => fitsM cs (s ++ t)
abbrev c_allowed : Ct := .fn (γ := List Nm × List (Cl Nm) × List Nm) (fun g => [rL (g.1.map rNm), rCs g.2.1, rL (g.2.2.map rNm)]) (fun g => g.1.length ≤ 8 ∧ g.2.2.length ≤ 8 ∧ g.2.1.length ≤ 10000 ∧ ∀ c ∈ g.2.1, c.length ≤ 1000) fun g => rCs (allowedM g.1 g.2.1 g.2.2)
theorem map_rC_cat (a b : Cl Nm) : rT (a.map rLt ++ b.map rLt) = rC (a ++ b) := by
  show _ = rT ((a ++ b).map rLt)
  rw [List.map_append]
theorem dn_l_allowed (bi : BI mg) (F : DefAt K mg "_law_allowed" s_l_allowed) (Fu : Dn P w K mg base "_law_fulls" 1 p_l_fulls c_fulls) (Ff : Dn P w K mg base "_law_fits" 2 p_l_fits c_fits) : Dn P w K mg base "_law_allowed" 3 p_l_allowed c_allowed := by
  refine dn_mk F sc_l_allowed (fun _ => rfl) (fun _ _ _ _ _ _ us hl => match us, hl with | [_, _, _], _ => rfl) fun f cdv A outer s H E B D (g : List Nm × List (Cl Nm) × List Nm) hr hz hF hP hD => ?_
  obtain ⟨S, cs, Hs⟩ := g
  obtain ⟨h1, h2, h3, h4⟩ : S.length ≤ 8 ∧ Hs.length ≤ 8 ∧ cs.length ≤ 10000 ∧ ∀ c ∈ cs, c.length ≤ 1000 := hz
  show Tr _ B [some (rL (S.map rNm)), some (rCs cs), some (rL (Hs.map rNm)), none, none, none] [] _ D
  have Fu := Fu.mono (show 1 ≤ 2 by decide)
  have f1 := fulls_small h1
  have f2 := fulls_small h2
  refine tr_set (R := rCs (fulls Hs)) 3 sc_l_allowed.nd (de_call Fu hr (rL (Hs.map rNm), Hs) (da_cons (de_var 2) da_nil) ⟨fun _ => sv_l, h2⟩ fun _ _ _ _ r => r) ?_
  refine tr_ret (R := rCs (allowedM S cs Hs)) ?_ fun v σ G H st r => hD.rt () v _ _ σ G H trivial st .nil r
  refine NE.de (ne_lcIf (α := Cl Nm) 5 sc_l_allowed.nd (fulls S) rC rC (fun s => (fulls Hs).any fun t => fitsM cs (s ++ t)) (de_call (R := rCs (fulls S)) Fu hr (rL (S.map rNm), S) (da_cons (de_var 0) da_nil) ⟨fun _ => sv_l, h1⟩ fun _ _ _ _ r => r) sv_l (by omega) (fun s hs _ _ _ _ _ => ?_) fun s hs hb _ _ _ _ _ => de_var 5)
  have hs8 := full_len hs
  refine dt_val ((de_callB (cr_any rfl) bi.any (by decide +kernel) (da_cons (ne_lc (α := Cl Nm) 4 sc_l_allowed.nd (fulls Hs) rC (fun t => rB (fitsM cs (s ++ t))) (de_var 3) sv_l (by omega) fun t ht _ _ _ _ _ => ?_).de da_nil) (clv_any (bs := (fulls Hs).map fun t => fitsM cs (s ++ t)) (by rw [List.map_map]; exact lv_l))).is (by rw [any_id]))
  have ht8 := full_len ht
  refine de_call Ff hr (cs, s ++ t) (da_cons (de_var 1) (da_cons (de_op op_catA (de_var 5) (de_var 4) ((opv_catT (by rw [List.length_map, List.length_map]; omega)).is (map_rC_cat _ _))) da_nil)) ⟨h3, h4, ?_⟩ fun _ _ _ _ r => r
  show (s ++ t).length ≤ 1000
  rw [List.length_append]; omega
theorem hu65 {A : Around} {k : Nat} (hr : Room k A) : A.units + 65 < cLine := by have := hr.un; omega
section
variable {X : Cx} {B : Base} {ρ : Sl} {M : List Cell} {a b : Expr} {R1 R2 : Rp} {rest : List Stmt} {D : Ends} {x y : Str} {px py pt pt2 spos : Pos} {kt k2 : Nat}
theorem tr_parD (i j : Nat) (nd : X.N.Nodup) (ha : DA X B ρ M [a, b] [R1, R2]) (k : Tr X B ((ρ.set i (some R1)).set j (some R2)) M rest D) (hij : i ≠ j := by decide) (hi : X.N[i]? = some x := by rfl) (hj : X.N[j]? = some y := by rfl)
    (hx : X.env.scope.names.lookup x = some .local := by rfl) (hy : X.env.scope.names.lookup y = some .local := by rfl) (hc : X.calm = true := by rfl)
    (hw : swappedStores [.Tuple [.Name x px, .Name y py] kt pt] (.Tuple [a, b] k2 pt2) X.env = pure (some [x, y]) := by rfl)
    (hs : swapsWithSole [.Tuple [.Name x px, .Name y py] kt pt] (.Tuple [a, b] k2 pt2) spos.line X.env = pure false := by rfl) :
    Tr X B ρ M (.Assign [.Tuple [.Name x px, .Name y py] kt pt] (.Tuple [a, b] k2 pt2) spos :: rest) D :=
  tr_par i j nd ha.xa (fun _ => ⟨_, _, rfl⟩) (fun _ r1 r2 _ e => by cases e; exact k) hij hi hj hx hy hc hw hs
end
/-! ### names.index(n) -/
theorem eqV_str (x y : Str) : eqV (.str x) (.str y) = (x == y) := rfl
section
variable {X : Cx} {B : Base} {ρ : Sl} {M : List Cell} {o e : Expr} {R : Rp} {cpos apos : Pos}
theorem de_index {S : List Nm} {n : Nm} (ho : DE X B ρ M o R) (hl : LVw M R (S.map rNm)) (he : DE X B ρ M e (rNm n)) (hn : n ∈ S)
    (hbase : attributeBase o "index" X.env (eval o X.env) = eval o X.env := by rfl)
    (hfew : ((backTo cpos (starEach [e] X.env)).all (fun x => !x.1) && (backToKw cpos (keywordEach [] X.env)).all (fun x => x.1.isSome) && decide (([e] : List Expr).length + ([] : List Keyword).length + (if ([] : List Keyword).isEmpty then 0 else 1) < 30)) = true := by rfl)
    (hline : (apos.endLine == cpos.line) = true := by rfl) (hs : starEach [e] X.env = (false, eval e X.env) :: starEach [] X.env := by rfl) (hplain : (backTo cpos (starEach [] X.env)).any (·.1) = false := by rfl) :
    DE X B ρ M (.Call (.Attribute o "index" apos) [e] [] cpos) (rI (ixOf S n : Nat)) := fun σ G H s Q q => by
  refine sem_e (pe_bm PySem.F.plainAttrs_list PySem.F.slot_list_index PySem.F.type_list_index mt_index pe_sem (pa_cons pe_sem pa_nil hs) hbase hfew hline hs hplain) (ho σ G H s _ fun u G1 H1 g1 r1 => ?_)
  have s1 := s.grow g1
  obtain ⟨a, vs1, rfl, h1, t1⟩ := hl G1 H1 u s1.sub s1.mem r1
  refine ⟨.inl ⟨rfl, _, SqL.of h1⟩, he σ G1 H1 s1 _ fun v G2 H2 g2 r2 => ?_⟩
  have s2 := s1.grow g2
  obtain ⟨a2, vs2, e2, h2, t2⟩ := hl G2 H2 _ s2.sub s2.mem (R.mono g2.gg r1)
  cases e2
  have r2 : v = .str n.val := r2
  subst r2
  rw [map_rNm] at t2
  have ev := all2_strs t2
  subst ev
  have hlt : ixOf S n < S.length := ixOf_lt hn
  have hat : ∀ m, (h : m < S.length) → ((S.map Subtype.val).map V.str)[m]? = some (.str S[m].val) := fun m h => by rw [List.getElem?_map, List.getElem?_map, List.getElem?_eq_getElem h]; rfl
  refine ⟨a, _, .str n.val, ixOf S n, .str n.val, rfl, rfl, SqL.of h2, rfl, flat_strs _, ?_, by rw [eqV_str]; exact beq_self_eq_true _, fun m z' hm hz => ?_, q _ G2 H2 (g1.trans g2) rfl⟩
  · rw [hat _ hlt, ixOf_get hlt]
  · rw [hat m (by omega)] at hz
    cases hz
    rw [eqV_str, beq_eq_false_iff_ne]
    intro e
    exact ixOf_min hm (by omega) (Subtype.ext e)
end
/-! ### half settings -/
abbrev c_halves : Ct := .fn (γ := List Nm) (fun S => [rL (S.map rNm)]) (fun S => S.length ≤ 3) fun S => rCs (halves S)
theorem rC_snoc (c : Cl Nm) (l : Lit) : rT (c.map rLt ++ [rLt l]) = rC (c ++ [l]) := by
  show _ = rT ((c ++ [l]).map rLt)
  rw [List.map_append]; rfl
theorem rCs_snoc (cs : List (Cl Nm)) (c : Cl Nm) : cs.map rC ++ [rC c] = (cs ++ [c]).map rC := by rw [List.map_append]; rfl
theorem atI_last {α : Type} (xs : List α) (x : α) (h : xs.getLast? = some x) : atI xs (-1) = some x := by
  unfold atI ixN
  have hne : xs ≠ [] := by intro e; rw [e] at h; cases h
  have hl : 0 < xs.length := List.length_pos_iff.mpr hne
  rw [if_neg (by omega), if_pos (by omega)]
  rw [List.getLast?_eq_getElem?] at h
  show xs[_]? = _
  have e : ((-1 : Int) + (xs.length : Int)).toNat = xs.length - 1 := by omega
  rw [e]; exact h
theorem unv_neg {M : List Cell} {i : Int} : Unv M (rI i) (rU fun i => .int (-i)) (rI (-i)) := fun x G H s m hx Q q => ⟨i, hx, q _ G H (Grow.refl s) rfl⟩
theorem dn_l_halves (bi : BI mg) (F : DefAt K mg "_law_halves" s_l_halves) (Fb : Dn P w K mg base "_law_bare" 1 p_l_bare c_bare) : Dn P w K mg base "_law_halves" 2 p_l_halves c_halves := by
  refine dn_mk F sc_l_halves (fun _ => rfl) (fun _ _ _ _ _ _ us hl => match us, hl with | [_], _ => rfl) fun f cdv A outer s H E B D (S : List Nm) hr (h3 : S.length ≤ 3) hF hP hD => ?_
  show Tr _ B [some (rL (S.map rNm)), none, none, none, none, none, none, none] [] _ D
  refine tr_parD (R1 := rCs [[]]) (R2 := rCs [[]]) 1 2 sc_l_halves.nd (da_cons (ne_lst (Rs := [rC []]) (da_cons (ne_tup (Rs := []) da_nil (Nat.zero_le _)).de da_nil) (by decide)).de (da_cons (ne_lst (Rs := [rC []]) (da_cons (ne_tup (Rs := []) da_nil (Nat.zero_le _)).de da_nil) (by decide)).de da_nil)) ?_
  refine tr_range (α := Unit) (P := fun _ => True) (T := List (Cl Nm) × List (Cl Nm)) (n := fun _ => S.length) 3 sc_l_halves.nd bi.range ((de_callB cr_len bi.len (by decide +kernel) (da_cons (de_var 0) da_nil) (clv_len sv_l)).xe.weak id (fun _ h => h) (fun _ G v _ h => ?_) fun _ => rfl) (fun _ _ => by omega) (fun _ s => [some (rL (S.map rNm)), some (rCs s.1), some (rCs s.2), none, none, none, none, none]) (fun _ _ => []) (fun _ i s => s = (halvesTo S i, lvls S i)) (fun _ => ([[]], [[]])) (fun _ _ => rfl) (fun _ _ => ⟨rfl, rfl, rfl, trivial⟩) (fun _ _ => rfl) ?_ ?_
  · rw [List.length_map] at h; exact h
  · rintro _ i ⟨fd, lv⟩ _ hi hJ D' hn hrt
    have e1 : fd = halvesTo S i := congrArg Prod.fst hJ
    have e2 : lv = lvls S i := congrArg Prod.snd hJ
    have hlv : lv.length ≤ 216 := by
      rw [e2]
      exact Nat.le_trans (lvl_len S h3 i) (Nat.pow_le_pow_right (n := 6) (by decide) (show i ≤ 3 by omega))
    have hfd : fd.length ≤ 343 := by
      rw [e1]
      exact Nat.le_trans (halvesTo_len S h3 i) (Nat.pow_le_pow_right (n := 7) (by decide) (show i ≤ 3 by omega))
    have hin : ∀ c ∈ lv, ∀ l ∈ c, l.nm ∈ S := fun c hc l hl => lvl_in i c (e2 ▸ hc) l hl
    have hcl : ∀ c ∈ lv, c.length ≤ 3 := fun c hc => by rw [lvl_eq i c (e2 ▸ hc)]; omega
    have hlen : ∀ n, ((lv.take n).flatMap fun c => (S.drop (startOf S c)).flatMap (pair2 c)).length ≤ 6 * 216 := fun n => by
      refine Nat.le_trans (flat_le (m := 6) _ fun c _ => Nat.le_trans (more_len S c) (by omega)) (Nat.mul_le_mul_left 6 ?_)
      rw [List.length_take]; omega
    refine tr_own 4 sc_l_halves.nd (ne_lst da_nil (Nat.zero_le _)) fun a ha => ?_
    refine tr_for (S := List (Cl Nm)) (α := Cl Nm) 5 PassesOwn.never sc_l_halves.nd (de_var 2) (fun out => [some (rL (S.map rNm)), some (rCs fd), some (rCs lv), some (rI i), some (rV (.ref a)), none, none, none]) (fun out => [cL a (out.map rC)]) (fun i out => out = (lv.take i).flatMap fun c => (S.drop (startOf S c)).flatMap (pair2 c)) [] lv rC sv_l rfl ⟨rfl, rfl, rfl, rfl, rfl, trivial⟩ rfl ?_ ?_
    · intro P2 pm2 i2 c out hi2 hJ2 D2 hn2 hrt2
      have hcm := List.mem_of_getElem? hi2
      have hc3 := hcl c hcm
      refine tr_set (R := rI (startOf S c : Nat)) 6 sc_l_halves.nd (de_ifE (d := c.isEmpty) (dt_cmp (op_eqD hr.units) (de_var 5) (ne_tup (Rs := []) da_nil (Nat.zero_le _)).de (opv_eqNilT (df := dLt) (n := 0) (rd_C c).m (fun l _ => sh_lt l) (by decide))) (fun hb => ?_) fun hb => ?_) ?_
      · have : c = [] := by simpa using hb
        subst this
        exact de_int
      · have hne : c ≠ [] := by intro e; rw [e] at hb; cases hb
        obtain ⟨l, hl⟩ : ∃ l, c.getLast? = some l := by
          cases q : c.getLast? with
          | none => rw [List.getLast?_eq_none_iff] at q; exact absurd q hne
          | some l => exact ⟨l, rfl⟩
        have es : startOf S c = ixOf S l.nm + 1 := by unfold startOf; rw [hl]
        have hlm := List.mem_of_getLast? hl
        rw [es]
        refine (de_op op_add (de_index (S := S) (n := l.nm) (de_var 0) lv_l (de_call Fb hr l (da_cons (de_ix ix_tup (de_var 5) (de_un un_neg de_int unv_neg) (opv_ixT (atI_last _ _ ?_))) da_nil) trivial fun _ _ _ _ r => r) (hin c hcm l hlm)) de_int opv_II0).is ?_
        · rw [List.getLast?_map, hl]; rfl
        · show rI _ = rI _
          rw [Int.natCast_add]; rfl
      · refine tr_for (S := List (Cl Nm)) (α := Nm) 7 PassesOwn.never sc_l_halves.nd (ne_slice sl_list (de_var 0) (do_some (de_var 6)) do_none (sln_list lv_l)).de (fun out => [some (rL (S.map rNm)), some (rCs fd), some (rCs lv), some (rI i), some (rV (.ref a)), some (rC c), some (rI (startOf S c : Nat)), none]) (fun out => [cL a (out.map rC)]) (fun i3 o => o = out ++ ((S.drop (startOf S c)).take i3).flatMap (pair2 c)) out (S.drop (startOf S c)) rNm (by rw [cutR_map, cutR_from]; exact sv_l) (by simp) ⟨rfl, rfl, rfl, rfl, rfl, rfl, rfl, trivial⟩ rfl ?_ ?_
        · intro P3 pm3 i3 n o hi3 hJ3 D3 hn3 hrt3
          have ho : o.length ≤ 6 * 216 + 6 := by
            rw [hJ3, hJ2, List.length_append]
            have h1 := hlen i2
            have h2 : ((List.drop (startOf S c) S).take i3).length ≤ 3 := by rw [List.length_take, List.length_drop]; omega
            have h3 := flat_le (m := 2) (f := pair2 c) ((List.drop (startOf S c) S).take i3) fun x _ => Nat.le_refl 2
            omega
          refine tr_extend (ss := (pair2 c n).map rC) 0 (de_var 4) (ne_lst (Rs := (pair2 c n).map rC) (da_cons (de_op op_catA (de_var 5) (ne_tup (Rs := [rNm n]) (da_cons (de_var 7) da_nil) (by simp)).de ((opv_catT (by rw [List.length_map]; show c.length + 1 ≤ _; omega)).is (rC_snoc c ⟨true, n⟩))) (da_cons (de_op op_catA (de_var 5) (ne_tup (Rs := [rLt ⟨false, n⟩]) (da_cons (de_minus (de_var 7)) da_nil) (by simp)).de ((opv_catT (by rw [List.length_map]; show c.length + 1 ≤ _; omega)).is (rC_snoc c ⟨false, n⟩))) da_nil)) (show 2 ≤ 100000 by decide)).de lv_l rfl (.inr ha) ?_ ?_
          · rw [List.length_map, List.length_map]
            show o.length + 2 ≤ 100000
            omega
          · rw [← List.map_append]
            refine tr_nil fun σ G H st => hn3 (o ++ pair2 c n) ?_ σ G H (st.less ⟨rfl, rfl, rfl, rfl, rfl, rfl, rfl, trivial⟩)
            rw [hJ3, List.take_add_one, hi3, List.flatMap_append, List.append_assoc]
            simp
        · intro o hJ3
          rw [List.take_length] at hJ3
          refine tr_nil fun σ G H st => hn2 o ?_ σ G H (st.less ⟨rfl, rfl, rfl, rfl, rfl, trivial⟩)
          rw [hJ3, hJ2, List.take_add_one, hi2, List.flatMap_append]
          simp
    · intro out hJ2
      rw [List.take_length] at hJ2
      refine tr_pub 4 0 ha rfl rfl ?_
      have ho : out.length ≤ 6 * 216 := by
        have := hlen lv.length
        rw [List.take_length] at this
        rw [hJ2]; exact this
      refine tr_parD (R1 := rCs (fd ++ out)) (R2 := rCs out) 1 2 sc_l_halves.nd (da_cons ((ne_op op_cat (de_var 1) (de_var 4) (opn_cat lv_l lv_l (by rw [List.length_map, List.length_map]; omega))).de.is ?_) (da_cons (de_var 4) da_nil)) ?_
      · show rL _ = rL _
        rw [List.map_append]
      · refine tr_nil fun σ G H st => hn (fd ++ out, out) ?_ σ G H (st.less ⟨rfl, rfl, rfl, trivial⟩)
        have eo : out = lvls S (i + 1) := by rw [hJ2, e2]; rfl
        rw [eo, e1]; rfl
  · rintro _ ⟨fd, lv⟩ _ hJ
    have e1 : fd = halves S := congrArg Prod.fst hJ
    refine tr_ret (R := rCs fd) (de_var 1) fun v σ G H st r => hD.rt () v _ _ σ G H trivial st .nil ?_
    show (rCs (halves S)).p G v
    rw [← e1]; exact r
end
end KL

/-! KF5 -/
namespace KL
open PySem PySem.Spec PyProof.Rows L2 KM
/-- no writes; cells that are read -/
abbrev Ct.rd {γ α : Type} (args : γ → List Rp) (mem : γ → List Cell) (pre : γ → Prop) (post : γ → α → Prop) (res : γ → α → Rp) : Ct := ⟨γ, α, args, mem, fun _ _ => False, pre, post, res, fun _ _ => []⟩
theorem Fin.ret {c : Ct} {g : c.γ} {B : Base} {D : Ends} (f : Fin c g B D) (hP : B.P = fun _ => True) {P : Hp → Prop} {pm : ∀ {G G' : Hp}, Same G G' → P G → P G'} (x : c.α) {v : V} {ρ : Sl} {M : List Cell} {σ : L2.St} {G H : Hp} (hx : c.post g x) (st : Stt (B.wp P pm) ρ M σ G H) (m : Mem G H (c.mem' g x)) (r : (c.res g x).p G v) : D.rt v H :=
  f.rt x v ρ M σ G H hx ⟨st.mv, st.slots, st.mem, by rw [hP]; trivial⟩ m r
theorem SVp.weak {MP MP' : Hp → Hp → Prop} {R : Rp} {rs : List Rp} (h : SVp MP R rs) (k : ∀ G H, MP' G H → MP G H) : SVp MP' R rs := fun G H v s m r => by
  obtain ⟨a, mk, e, hm, q⟩ := h G H v s (k G H m) r
  exact ⟨a, mk, e, hm, fun G' H' s1 s2 m' => q G' H' s1 s2 (k G' H' m')⟩
theorem mem_left {G H : Hp} {M N : List Cell} (m : Mem G H (M ++ N)) : Mem G H M := m.sub (List.sublist_append_left _ _)
theorem mem_right {G H : Hp} {M N : List Cell} (m : Mem G H (M ++ N)) : Mem G H N := m.sub (List.sublist_append_right _ _)
section
variable {P : Program} {w : World} {K : PySem.W.Frag} {mg : Str → Option Value} {base : Heap}
/-! ### the shortest consequences -/
abbrev c_shortest : Ct := .fn (γ := List Nm × List (Cl Nm)) (fun g => [rL (g.1.map rNm), rCs g.2]) (fun g => g.1.length ≤ 3 ∧ g.2.length ≤ 10000 ∧ ∀ t ∈ g.2, t.length ≤ 1000) fun g => rCs (shortC g.1 g.2)
theorem halves_cl {S : List Nm} {c : Cl Nm} (h : c ∈ halves S) : c.length ≤ S.length := by
  obtain ⟨j, hj, hc⟩ := mem_halvesTo _ h
  rw [lvl_eq j c hc]; exact hj
theorem dn_l_shortest (bi : BI mg) (F : DefAt K mg "_law_shortest" s_l_shortest) (Fh : Dn P w K mg base "_law_halves" 2 p_l_halves c_halves) (Fw : Dn P w K mg base "_law_within" 1 p_l_within c_within) (Fm : Dn P w K mg base "_law_meets" 1 p_l_meets c_meets) : Dn P w K mg base "_law_shortest" 3 p_l_shortest c_shortest := by
  refine dn_mk F sc_l_shortest (fun _ => rfl) (fun _ _ _ _ _ _ us hl => match us, hl with | [_, _], _ => rfl) fun f cdv A outer s H E B D (g : List Nm × List (Cl Nm)) hr hz hF hP hD => ?_
  obtain ⟨S, T⟩ := g
  obtain ⟨h1, h2, h3⟩ : S.length ≤ 3 ∧ T.length ≤ 10000 ∧ ∀ t ∈ T, t.length ≤ 1000 := hz
  have Fw := Fw.mono (show 1 ≤ 2 by decide)
  have Fm := Fm.mono (show 1 ≤ 2 by decide)
  have hh := halves_len h1
  show Tr _ B [some (rL (S.map rNm)), some (rCs T), none, none, none, none] [] _ D
  refine tr_own 2 sc_l_shortest.nd (ne_lst da_nil (Nat.zero_le _)) fun a ha => ?_
  refine tr_for (S := List (Cl Nm)) (α := Cl Nm) 3 PassesOwn.never sc_l_shortest.nd (de_call (R := rCs (halves S)) Fh hr S (da_cons (de_var 0) da_nil) h1 fun _ _ _ _ r => r) (fun _ => [some (rL (S.map rNm)), some (rCs T), some (rV (.ref a)), none, none, none]) (fun acc => [cL a (acc.map rC)]) (fun i acc => acc = ((halves S).take i).foldl (shortStep T) []) [] (halves S) rC sv_l rfl ⟨rfl, rfl, rfl, trivial⟩ rfl ?_ ?_
  · intro P pm i c acc hi hJ D' hn hrt
    have hc3 : c.length ≤ 3 := Nat.le_trans (halves_cl (List.mem_of_getElem? hi)) h1
    have hacc : acc.length ≤ 343 := by
      have := shortest_len ((halves S).take i) T
      rw [hJ]
      refine Nat.le_trans this ?_
      rw [List.length_take]; omega
    have hsub : ∀ p ∈ acc, p.length ≤ 3 := fun p hp => by
      rcases shortest_go_mem _ _ (hJ ▸ hp) with h | h
      · cases h
      · exact Nat.le_trans (halves_cl (List.mem_of_mem_take h.1)) h1
    have hstep : ((halves S).take (i + 1)).foldl (shortStep T) [] = shortStep T acc c := by rw [List.take_add_one, hi, List.foldl_append, ← hJ]; rfl
    have fin : ∀ (acc' : List (Cl Nm)), acc' = shortStep T acc c → ∀ σ G H, Stt (B.wp P pm) [some (rL (S.map rNm)), some (rCs T), some (rV (.ref a)), some (rC c), none, none] [cL a (acc'.map rC)] σ G H → D'.nx σ H := fun acc' e σ G H st => hn acc' (e.trans hstep.symm) σ G H (st.less ⟨rfl, rfl, rfl, trivial⟩)
    refine tr_if (b := !(acc.any fun p => within p c)) (dt_not (dt_val (DE.is (de_callB (cr_any rfl) bi.any (by decide +kernel) (da_cons (NE.de (ne_lc (α := Cl Nm) 4 sc_l_shortest.nd acc rC (fun p => rB (within p c)) (de_var 2) (sv_m List.mem_cons_self) (by omega) fun p hp _ _ _ _ _ => ?_)) da_nil) (clv_any (bs := acc.map fun p => within p c) (by rw [List.map_map]; exact lv_l))) (by rw [any_id])))) (fun hb => ?_) fun hb => ?_
    · exact de_call Fw hr (rC p, p, rC c, c) (da_cons (de_var 4) (da_cons (de_var 3) da_nil)) ⟨fun _ => sv_t, fun _ => sv_t, Nat.le_trans (hsub p hp) (by decide)⟩ fun _ _ _ _ r => r
    · refine tr_if (b := T.all fun t => meets c t) (dt_val (DE.is (de_callB (cr_all rfl) bi.all (by decide +kernel) (da_cons (NE.de (ne_lc (α := Cl Nm) 5 sc_l_shortest.nd T rC (fun t => rB (meets c t)) (de_var 1) sv_l (by omega) fun t ht _ _ _ _ _ => ?_)) da_nil) (clv_all (bs := T.map fun t => meets c t) (by rw [List.map_map]; exact lv_l))) (by rw [all_id]))) (fun hb2 => ?_) fun hb2 => ?_
      · exact de_call Fm hr (c, t) (da_cons (de_var 3) (da_cons (de_var 5) da_nil)) ⟨by show c.length ≤ 1000; omega, h3 t ht⟩ fun _ _ _ _ r => r
      · refine tr_append 0 (de_var 2) (de_var 3) rfl (.inr ha) (by rw [List.length_map]; omega) ?_
        rw [rCs_snoc]
        refine tr_go (tr_go (tr_nil fun σ G H st => fin (acc ++ [c]) ?_ σ G H st))
        unfold shortStep
        rw [if_neg (by rw [Bool.not_eq_true'] at hb; rw [hb]; exact Bool.false_ne_true), if_pos hb2]
      · refine tr_go (tr_go (tr_nil fun σ G H st => fin acc ?_ σ G H st))
        unfold shortStep
        rw [if_neg (by rw [Bool.not_eq_true'] at hb; rw [hb]; exact Bool.false_ne_true), if_neg (by rw [hb2]; exact Bool.false_ne_true)]
    · refine tr_go (tr_nil fun σ G H st => fin acc ?_ σ G H st)
      unfold shortStep
      rw [if_pos (by simpa using hb)]
  · intro acc hJ
    rw [List.take_length] at hJ
    refine tr_pub 2 0 ha rfl rfl ?_
    refine tr_ret (R := rCs acc) (de_var 2) fun v σ G H st r => hD.rt () v _ _ σ G H trivial st .nil ?_
    show (rCs (shortC S T)).p G v
    rw [show shortC S T = acc from hJ.symm]; exact r
/-! ### an open literal -/
def rOl : Option Lit → Rp
  | none => rN
  | some l => rLt l
abbrev c_open : Ct := .any (γ := List (Cl Nm) × Cl Nm) (α := Option Lit) (fun g => [rCs g.1, rL (g.2.map rLt)]) (fun _ => True) (fun g o => match o with
  | none => ∀ c ∈ g.1, ∀ l ∈ c, l ∈ g.2 ∨ l.neg ∈ g.2
  | some l => l ∉ g.2 ∧ l.neg ∉ g.2 ∧ ∃ c ∈ g.1, l ∈ c) fun _ o => rOl o
theorem dn_l_open (F : DefAt K mg "_law_open" s_l_open) (Fn : Dn P w K mg base "_law_neg" 1 p_l_neg c_neg) : Dn P w K mg base "_law_open" 2 p_l_open c_open := by
  refine dn_mk F sc_l_open (fun _ => rfl) (fun _ _ _ _ _ _ us hl => match us, hl with | [_, _], _ => rfl) fun f cdv A outer s H E B D (g : List (Cl Nm) × Cl Nm) hr hz hF hP hD => ?_
  obtain ⟨cl, L⟩ := g
  show Tr _ B [some (rCs cl), some (rL (L.map rLt)), none, none] [] _ D
  refine tr_for (S := Unit) (α := Cl Nm) 2 PassesOwn.never sc_l_open.nd (de_var 0) (fun _ => [some (rCs cl), some (rL (L.map rLt)), none, none]) (fun _ => []) (fun i _ => ∀ c ∈ cl.take i, ∀ l ∈ c, l ∈ L ∨ l.neg ∈ L) () cl rC sv_l (fun c hc => by cases hc) ⟨rfl, rfl, trivial⟩ rfl ?_ ?_
  · intro P pm i c _ hi hJ D' hn hrt
    refine tr_for (S := Unit) (α := Lit) 3 PassesOwn.never sc_l_open.nd (de_var 2) (fun _ => [some (rCs cl), some (rL (L.map rLt)), some (rC c), none]) (fun _ => []) (fun i _ => ∀ l ∈ c.take i, l ∈ L ∨ l.neg ∈ L) () c rLt sv_t (fun c hc => by cases hc) ⟨rfl, rfl, rfl, trivial⟩ rfl ?_ ?_
    · intro P2 pm2 i2 l _ hi2 hJ2 D2 hn2 hrt2
      refine tr_if (DW.dt (dw_and (dt_cmp op_notIn_seq (de_var 3) (de_var 1) (opv_notInLt sv_l)) fun _ => dw_and1 (dt_cmp op_notIn_seq (de_call (R := rLt l.neg) Fn hr l (da_cons (de_var 3) da_nil) trivial fun _ _ _ _ r => r) (de_var 1) (opv_notInLt sv_l)))) (fun hb => ?_) fun hb => ?_
      · rw [Bool.and_eq_true] at hb
        refine tr_ret (R := rLt l) (de_var 3) fun v σ G H st r => ?_
        show D2.rt v H
        rw [hrt2, hrt]
        exact hD.ret hP (pm := pm2) (some l) ⟨by simpa using hb.1, by simpa using hb.2, c, List.mem_of_getElem? hi, List.mem_of_getElem? hi2⟩ st .nil r
      · refine tr_go (tr_nil fun σ G H st => hn2 () (fun k hk => ?_) σ G H (st.less ⟨rfl, rfl, rfl, trivial⟩))
        rw [List.take_add_one, hi2] at hk
        rcases List.mem_append.mp hk with hk | hk
        · exact hJ2 k hk
        · have e : k = l := by simpa using hk
          subst e
          by_cases h1 : k ∈ L
          · exact .inl h1
          · by_cases h2 : k.neg ∈ L
            · exact .inr h2
            · simp [h1, h2] at hb
    · intro _ hJ2
      refine tr_nil fun σ G H st => hn () (fun k hk => ?_) σ G H (st.less ⟨rfl, rfl, trivial⟩)
      rw [List.take_length] at hJ2
      rw [List.take_add_one, hi] at hk
      rcases List.mem_append.mp hk with hk | hk
      · exact hJ k hk
      · have e : k = c := by simpa using hk
        subst e
        exact hJ2
  · intro _ hJ
    rw [List.take_length] at hJ
    exact tr_ret (R := rN) de_non fun v σ G H st r => hD.rt none v _ _ σ G H hJ st .nil r
/-! ### codes; the names of a web -/
structure Cd where
  signs : List Nm
  helpers : List Nm
  clauses : List (Cl Nm)
abbrev cdE (c : Cd) : Es := [("signs", rL (c.signs.map rNm)), ("helpers", rL (c.helpers.map rNm)), ("clauses", rCs c.clauses)]
abbrev rCd (c : Cd) : Rp := rD (cdE c)
theorem cd_s (c : Cd) : valE (cdE c) "signs" = some (rL (c.signs.map rNm)) := if_pos rfl
theorem cd_h (c : Cd) : valE (cdE c) "helpers" = some (rL (c.helpers.map rNm)) := (if_neg (show ¬ ("signs" : Str) = "helpers" by decide)).trans (if_pos rfl)
theorem cd_c (c : Cd) : valE (cdE c) "clauses" = some (rCs c.clauses) := (if_neg (show ¬ ("signs" : Str) = "clauses" by decide)).trans ((if_neg (show ¬ ("helpers" : Str) = "clauses" by decide)).trans (if_pos rfl))
def webStep (acc : List Nm) (c : Cd) : List Nm := acc ++ c.signs.filter fun n => !decide (n ∈ acc)
def webNames (cs : List Cd) : List Nm := cs.foldl webStep []
theorem webNames_snoc (cs : List Cd) (c : Cd) : webNames (cs ++ [c]) = webStep (webNames cs) c := by unfold webNames; rw [List.foldl_append]; rfl
theorem mem_webNames {n : Nm} : ∀ {cs : List Cd}, n ∈ webNames cs ↔ ∃ c ∈ cs, n ∈ c.signs := by
  have : ∀ (cs : List Cd) (acc : List Nm), n ∈ cs.foldl webStep acc ↔ n ∈ acc ∨ ∃ c ∈ cs, n ∈ c.signs := by
    intro cs
    induction cs with
    | nil => intro acc; simp
    | cons c r ih =>
      intro acc
      rw [List.foldl_cons, ih]
      unfold webStep
      rw [List.mem_append, List.mem_filter]
      constructor
      · rintro ((h | h) | ⟨d, h1, h2⟩)
        · exact .inl h
        · exact .inr ⟨c, List.mem_cons_self, h.1⟩
        · exact .inr ⟨d, List.mem_cons_of_mem _ h1, h2⟩
      · rintro (h | ⟨d, h1, h2⟩)
        · exact .inl (.inl h)
        · rcases List.mem_cons.mp h1 with e | h1
          · subst e
            by_cases q : n ∈ acc
            · exact .inl (.inl q)
            · exact .inl (.inr ⟨h2, by simp [q]⟩)
          · exact .inr ⟨d, h1, h2⟩
  intro cs
  unfold webNames
  rw [this]
  simp
theorem webNames_nodup {cs : List Cd} (h : ∀ c ∈ cs, c.signs.Nodup) : (webNames cs).Nodup := by
  have : ∀ (cs : List Cd) (acc : List Nm), (∀ c ∈ cs, c.signs.Nodup) → acc.Nodup → (cs.foldl webStep acc).Nodup := by
    intro cs
    induction cs with
    | nil => intro acc _ h; exact h
    | cons c r ih =>
      intro acc hc ha
      rw [List.foldl_cons]
      refine ih _ (fun d hd => hc d (List.mem_cons_of_mem _ hd)) ?_
      unfold webStep
      rw [List.nodup_append]
      refine ⟨ha, (hc c List.mem_cons_self).filter _, fun x hx y hy e => ?_⟩
      rw [List.mem_filter] at hy
      have := hy.2
      rw [← e] at this
      simp [hx] at this
  exact this cs [] h .nil
theorem webNames_len {cs : List Cd} {m : Nat} (h : ∀ c ∈ cs, c.signs.length ≤ m) : (webNames cs).length ≤ m * cs.length := by
  have : ∀ (cs : List Cd) (acc : List Nm), (∀ c ∈ cs, c.signs.length ≤ m) → (cs.foldl webStep acc).length ≤ acc.length + m * cs.length := by
    intro cs
    induction cs with
    | nil => intro acc _; simp
    | cons c r ih =>
      intro acc hc
      rw [List.foldl_cons, List.length_cons, Nat.mul_succ]
      have h1 := ih (webStep acc c) fun d hd => hc d (List.mem_cons_of_mem _ hd)
      have h2 : (webStep acc c).length ≤ acc.length + c.signs.length := by
        unfold webStep
        rw [List.length_append]
        exact Nat.add_le_add_left (List.length_filter_le _ _) _
      have h3 := hc c List.mem_cons_self
      omega
  have h1 := this cs [] h
  unfold webNames
  simpa using h1
abbrev c_webNames : Ct := .rd (γ := Rp × List Cell × List Cd) (α := Unit) (fun g => [g.1]) (fun g => g.2.1) (fun g => SVp (memP g.2.1) g.1 (g.2.2.map rCd) ∧ g.2.2.length ≤ 100 ∧ ∀ c ∈ g.2.2, c.signs.length ≤ 3) (fun _ _ => True) fun g _ => rL ((webNames g.2.2).map rNm)
theorem rNm_app (a b : List Nm) : a.map rNm ++ b.map rNm = (a ++ b).map rNm := List.map_append.symm
theorem dn_l_web_names (F : DefAt K mg "_law_web_names" s_l_web_names) : Dn P w K mg base "_law_web_names" 1 p_l_web_names c_webNames := by
  refine dn_mk F sc_l_web_names (fun _ => rfl) (fun _ _ _ _ _ _ us hl => match us, hl with | [_], _ => rfl) fun f cdv A outer s H E B D (g : Rp × List Cell × List Cd) hr hz hF hP hD => ?_
  obtain ⟨R, M0, cs⟩ := g
  obtain ⟨h1, h2, h3⟩ : SVp (memP M0) R (cs.map rCd) ∧ cs.length ≤ 100 ∧ ∀ c ∈ cs, c.signs.length ≤ 3 := hz
  show Tr _ B [some R, none, none, none] M0 _ D
  refine tr_own 1 sc_l_web_names.nd (ne_lst da_nil (Nat.zero_le _)) fun a ha => ?_
  refine Tr.perm ?_ List.perm_append_comm
  refine tr_for (S := List Nm) (α := Cd) 2 PassesOwn.never sc_l_web_names.nd (de_var 0) (fun _ => [some R, some (rV (.ref a)), none, none]) (fun acc => cL a (acc.map rNm) :: M0) (fun i acc => acc = webNames (cs.take i)) [] cs rCd (h1.weak fun G H ⟨s, m⟩ => mem_right (M := [cL a (s.map rNm)]) m) rfl ⟨rfl, rfl, trivial⟩ rfl ?_ ?_
  · intro P pm i c acc hi hJ D' hn hrt
    have hc3 := h3 c (List.mem_of_getElem? hi)
    have hacc : acc.length ≤ 3 * 100 := by
      have := webNames_len (cs := cs.take i) (m := 3) fun d hd => h3 d (List.mem_of_mem_take hd)
      rw [List.length_take] at this
      rw [hJ]; omega
    refine tr_extend (ss := (c.signs.filter fun n => !decide (n ∈ acc)).map rNm) 0 (de_var 1) (NE.de (ne_lcIf (α := Nm) 3 sc_l_web_names.nd c.signs rNm rNm (fun n => !decide (n ∈ acc)) (de_dget (hu_of hr) (de_var 2) dv_d de_str (cd_s c)) sv_l (by omega) (fun n hn' _ _ _ _ _ => dt_cmp op_notIn_seq (de_var 3) (de_var 1) (opv_notInNm (sv_m List.mem_cons_self))) fun n hn' hb _ _ _ _ _ => de_var 3)) lv_l rfl (.inr ha) ?_ ?_
    · rw [List.length_map, List.length_map]
      have := List.length_filter_le (fun n => !decide (n ∈ acc)) c.signs
      omega
    · rw [rNm_app]
      refine tr_nil fun σ G H st => hn (webStep acc c) ?_ σ G H (st.less ⟨rfl, rfl, trivial⟩)
      rw [hJ, List.take_add_one, hi]
      exact (webNames_snoc _ _).symm
  · intro acc hJ
    rw [List.take_length] at hJ
    refine tr_pub 1 0 ha rfl rfl ?_
    refine tr_ret (R := rL (acc.map rNm)) (de_var 1) fun v σ G H st r => hD.rt () v _ _ σ G H trivial st .nil ?_
    show (rL ((webNames cs).map rNm)).p G v
    rw [← hJ]; exact r
/-! ### each clause once, in the names' order -/
def onceStep (ns : List Nm) (acc : List (Cl Nm)) (c : Cl Nm) : List (Cl Nm) := if upM c ns ∈ acc then acc else acc ++ [upM c ns]
def onceM (cs : List (Cl Nm)) (ns : List Nm) : List (Cl Nm) := cs.foldl (onceStep ns) []
theorem onceM_snoc (cs : List (Cl Nm)) (ns : List Nm) (c : Cl Nm) : onceM (cs ++ [c]) ns = onceStep ns (onceM cs ns) c := by unfold onceM; rw [List.foldl_append]; rfl
theorem mem_onceM {ns : List Nm} {d : Cl Nm} {cs : List (Cl Nm)} : d ∈ onceM cs ns ↔ ∃ c ∈ cs, d = upM c ns := by
  have : ∀ (cs acc : List (Cl Nm)), d ∈ cs.foldl (onceStep ns) acc ↔ d ∈ acc ∨ ∃ c ∈ cs, d = upM c ns := by
    intro cs
    induction cs with
    | nil => intro acc; simp
    | cons c r ih =>
      intro acc
      rw [List.foldl_cons, ih]
      have : d ∈ onceStep ns acc c ↔ d ∈ acc ∨ d = upM c ns := by
        unfold onceStep
        split
        · rename_i h
          constructor
          · exact .inl
          · rintro (h2 | h2)
            · exact h2
            · exact h2 ▸ h
        · simp
      rw [this]
      simp [or_assoc]
  unfold onceM
  rw [this]
  simp
theorem onceM_len (cs : List (Cl Nm)) (ns : List Nm) : (onceM cs ns).length ≤ cs.length := by
  have : ∀ (cs acc : List (Cl Nm)), (cs.foldl (onceStep ns) acc).length ≤ acc.length + cs.length := by
    intro cs
    induction cs with
    | nil => intro acc; simp
    | cons c r ih =>
      intro acc
      rw [List.foldl_cons, List.length_cons]
      have h1 := ih (onceStep ns acc c)
      have h2 : (onceStep ns acc c).length ≤ acc.length + 1 := by
        unfold onceStep
        split
        · omega
        · simp
      omega
  have := this cs []
  unfold onceM
  simpa using this
/-- (the clauses' value, cells, clauses with what stands for each, names) -/
abbrev c_once : Ct := .rd (γ := Rp × List Cell × List (Rp × Cl Nm) × List Nm) (α := Unit) (fun g => [g.1, rL (g.2.2.2.map rNm)]) (fun g => g.2.1) (fun g => SVp (memP g.2.1) g.1 (g.2.2.1.map Prod.fst) ∧ (∀ e ∈ g.2.2.1, ∀ MP, SVp MP e.1 (e.2.map rLt)) ∧ g.2.2.1.length ≤ 10000 ∧ g.2.2.2.length ≤ 1000) (fun _ _ => True) fun g _ => rCs (onceM (g.2.2.1.map Prod.snd) g.2.2.2)
theorem dn_l_once (F : DefAt K mg "_law_once" s_l_once) (Fu : Dn P w K mg base "_law_up" 1 p_l_up (c_up K)) : Dn P w K mg base "_law_once" 2 p_l_once c_once := by
  refine dn_mk F sc_l_once (fun _ => rfl) (fun _ _ _ _ _ _ us hl => match us, hl with | [_, _], _ => rfl) fun f cdv A outer s H E B D (g : Rp × List Cell × List (Rp × Cl Nm) × List Nm) hr hz hF hP hD => ?_
  obtain ⟨R, M0, cs, ns⟩ := g
  obtain ⟨h1, h2, h3, h4⟩ : SVp (memP M0) R (cs.map Prod.fst) ∧ (∀ e ∈ cs, ∀ MP, SVp MP e.1 (e.2.map rLt)) ∧ cs.length ≤ 10000 ∧ ns.length ≤ 1000 := hz
  show Tr _ B [some R, some (rL (ns.map rNm)), none, none] M0 _ D
  refine tr_own 2 sc_l_once.nd (ne_lst da_nil (Nat.zero_le _)) fun a ha => ?_
  refine Tr.perm ?_ List.perm_append_comm
  refine tr_for (S := List (Cl Nm)) (α := Rp × Cl Nm) 3 PassesOwn.never sc_l_once.nd (de_var 0) (fun _ => [some R, some (rL (ns.map rNm)), some (rV (.ref a)), none]) (fun acc => cL a (acc.map rC) :: M0) (fun i acc => acc = onceM ((cs.take i).map Prod.snd) ns) [] cs Prod.fst (h1.weak fun G H ⟨s, m⟩ => mem_right (M := [cL a (s.map rC)]) m) rfl ⟨rfl, rfl, rfl, trivial⟩ rfl ?_ ?_
  · rintro P pm i ⟨rc, c⟩ acc hi hJ D' hn hrt
    have hc : ∀ MP, SVp MP rc (c.map rLt) := h2 _ (List.mem_of_getElem? hi)
    have hacc : acc.length ≤ 10000 := by
      rw [hJ]
      refine Nat.le_trans (onceM_len _ _) ?_
      rw [List.length_map, List.length_take]; omega
    have hs : onceM ((cs.take (i + 1)).map Prod.snd) ns = onceStep ns acc c := by
      rw [List.take_add_one, hi, hJ, ← onceM_snoc, List.map_append]; rfl
    refine tr_if (dt_cmp (op_notInD (hu65 hr)) (de_call (R := rC (upM c ns)) Fu hr (rc, c, rL (ns.map rNm), ns) (da_cons (de_var 3) (da_cons (de_var 1) da_nil)) ⟨holds_s hc, fun _ => sv_l, by show ns.length ≤ 10000; omega⟩ fun _ _ _ _ r => r) (de_var 2) (opv_notInC (rd_c List.mem_cons_self fun c _ => rd_C c))) (fun hb => ?_) fun hb => ?_
    · refine tr_append 0 (de_var 2) (de_call (R := rC (upM c ns)) Fu hr (rc, c, rL (ns.map rNm), ns) (da_cons (de_var 3) (da_cons (de_var 1) da_nil)) ⟨holds_s hc, fun _ => sv_l, by show ns.length ≤ 10000; omega⟩ fun _ _ _ _ r => r) rfl (.inr ha) (by rw [List.length_map]; omega) ?_
      rw [rCs_snoc]
      refine tr_go (tr_nil fun σ G H st => hn (acc ++ [upM c ns]) ?_ σ G H (st.less ⟨rfl, rfl, rfl, trivial⟩))
      rw [hs]
      unfold onceStep
      rw [if_neg (by simpa using hb)]
    · refine tr_go (tr_nil fun σ G H st => hn acc ?_ σ G H (st.less ⟨rfl, rfl, rfl, trivial⟩))
      rw [hs]
      unfold onceStep
      rw [if_pos (by simpa using hb)]
  · intro acc hJ
    rw [List.take_length] at hJ
    refine tr_pub 2 0 ha rfl rfl ?_
    refine tr_ret (R := rCs acc) (de_var 2) fun v σ G H st r => hD.rt () v _ _ σ G H trivial st .nil ?_
    show (rCs (onceM (cs.map Prod.snd) ns)).p G v
    rw [← hJ]; exact r
end
end KL

/-! KF6 -/
namespace KL
open PySem PySem.Spec PyProof.Rows L2 KM
section
variable {X : Cx} {B : Base} {ρ : Sl} {M : List Cell} {e : Expr} {es : List Expr} {W : Wp} {Rs : List Rp}
theorem erase_last {α : Type} (M : List α) (c : α) : (M ++ [c]).eraseIdx M.length = M := by
  induction M with
  | nil => rfl
  | cons a r ih => rw [List.cons_append, List.length_cons, List.eraseIdx_cons_succ, ih]
theorem tr_pubL [NT W] {rest : List Stmt} {D : Ends} (i : Nat) {a : Addr} (hb : B.H a = none) (hi : ρ[i]? = some (some (rV (.ref a)))) (k : Tr X B (ρ.set i (some (rOf W))) M rest D) : Tr X B ρ (M ++ [cOf a W]) rest D :=
  tr_pub (W := W) i M.length hb hi (by rw [List.getElem?_append_right (Nat.le_refl _), Nat.sub_self]; rfl) (by rw [erase_last]; exact k)
theorem xa_own1 [NT W] (h : NE X B ρ M e W) (hr : ∀ a, B.H a = none → DA X B ρ (M ++ [cOf a W]) es Rs) (hs : starEach (e :: es) X.env = (false, eval e X.env) :: starEach es X.env := by rfl) : XA X B ρ M (e :: es) (fun a : Addr => B.H a = none) (fun a => rV (.ref a) :: Rs) (fun a => M ++ [cOf a W]) := fun σ G H s Q q =>
  sem_a (pa_cons pe_sem pa_sem hs) (h.xo σ G H s _ fun a v G1 H1 hp sg s1 r1 => hr a hp σ G1 H1 s1 _ fun vs G2 H2 g2 r2 => q a (v :: vs) G2 H2 hp (sg.trans g2.gg) (s1.grow g2) (.cons r1 r2))
end
section
variable {P : Program} {w : World} {K : PySem.W.Frag} {mg : Str → Option Value} {base : Heap}
structure ChG where
  R : Rp
  M0 : List Cell
  cl : List (Cl Nm)
  Rh : Rp
  half : Cl Nm
  names : List Nm
structure ChP (g : ChG) : Prop where
  sv : SVp (memP g.M0) g.R (g.cl.map rC)
  svh : ∀ MP, SVp MP g.Rh (g.half.map rLt)
  con : Con g.half
  nod : g.half.Nodup
  hn : ∀ l ∈ g.half, l.nm ∈ g.names
  cn : ∀ c ∈ g.cl, ∀ l ∈ c, l.nm ∈ g.names
  nz : g.names.length ≤ 1000
  cz : ∀ c ∈ g.cl, c.length ≤ 1000
def rOL : Option (Cl Nm) → Rp
  | none => rN
  | some L => rL (L.map rLt)
def ChPost (g : ChG) : Option (Cl Nm) → Prop
  | none => NoMod g.cl g.half
  | some L => Chz g.cl g.half L ∧ L.Nodup ∧ ∀ l ∈ L, l.nm ∈ g.names
abbrev c_chase : Ct := .rd (γ := ChG) (α := Option (Cl Nm)) (fun g => [g.R, g.Rh]) (fun g => g.M0) ChP ChPost fun _ o => rOL o
structure ChJ (g : ChG) (so : Cl Nm) : Prop where
  chi : Chi g.cl g.half so
  nod : so.Nodup
  nms : ∀ l ∈ so, l.nm ∈ g.names
theorem ChJ.len {g : ChG} {so : Cl Nm} (h : ChJ g so) : so.length ≤ g.names.length := con_len h.nod h.chi.con h.nms
theorem so_len (ls : Cl Nm) : (soE ls).length = ls.length := List.length_map ..
theorem scal_int (i j : Int) : scal (.int i) (.int j) = true := rfl
theorem dn_l_chase (bi : BI mg) (F : DefAt K mg "_law_chase" s_l_chase) (Fn : Dn P w K mg base "_law_neg" 1 p_l_neg c_neg) : Dn P w K mg base "_law_chase" 2 p_l_chase c_chase := by
  refine dn_mk F sc_l_chase (fun _ => rfl) (fun _ _ _ _ _ _ us hl => match us, hl with | [_, _], _ => rfl) fun f cdv A outer s H E B D (g : ChG) hr (hz : ChP g) hF hP hD => ?_
  show Tr _ B [some g.R, some g.Rh, none, none, none, none, none] g.M0 _ D
  have hhl : g.half.length ≤ g.names.length := con_len hz.nod hz.con hz.hn
  have hnz := hz.nz
  refine tr_unp (R1 := fun a : Addr => rV (.ref a)) (R2 := fun _ => rI (-1)) 2 3 sc_l_chase.nd (xe_tup (Rs := fun a : Addr => [rV (.ref a), rI (-1)]) (xa_own1 (ne_callTy cr_dictP bi.dict (by decide +kernel) (da_cons (NE.de (ne_lc (α := Lit) 6 sc_l_chase.nd g.half rLt (fun l => rT [rLt l, rB true]) (de_var 1) (hz.svh _) (by omega) fun l hl _ _ _ _ _ => (ne_tup (Rs := [rLt l, rB true]) (da_cons (de_var 6) (da_cons de_bl da_nil)) (by simp)).de)) da_nil) (cln_dictP (es := soE g.half) ?_ (so_nodup hz.nod))) fun a ha => da_cons (de_un un_neg de_int unv_neg) da_nil) fun _ => by simp) fun a ha => ?_
  · rw [List.map_map]; exact lv_l
  · refine Tr.perm ?_ List.perm_append_comm
    refine tr_while (S := Cl Nm × Int) PassesOwn.never (fun s => [some g.R, some g.Rh, some (rV (.ref a)), some (rI s.2), none, none, none]) (fun s => cD a (soE s.1) :: g.M0) (fun s => ChJ g s.1 ∧ s.2 ≤ s.1.length ∧ (s.2 = s.1.length → ∀ c ∈ g.cl, ∃ l ∈ c, l.neg ∉ s.1)) (fun s => 2 * (g.names.length - s.1.length) + if s.2 < s.1.length then 1 else 0) (fun s => decide (s.2 < (s.1.length : Int))) (g.half, -1) ⟨⟨Chi.start hz.con, hz.nod, hz.hn⟩, by show (-1 : Int) ≤ _; omega, fun e => by have e : (-1 : Int) = (g.half.length : Int) := e; omega⟩ ⟨rfl, rfl, rfl, rfl, trivial⟩ rfl ?_ ?_ ?_
    · rintro ⟨so, many⟩ _
      refine dt_cmp op_lt (de_var 3) (de_callB cr_lenD bi.len (by decide +kernel) (da_cons (de_var 2) da_nil) (clv_lenD (dv_c List.mem_cons_self))) ?_
      rw [so_len]
      exact opv_II0
    · rintro ⟨so, many⟩ ⟨hj, hle, hfix⟩ hb D' hn hrt
      have hb : many < (so.length : Int) := by simpa using hb
      refine tr_set (R := rI (so.length : Nat)) 3 sc_l_chase.nd (DE.is (de_callB cr_lenD bi.len (by decide +kernel) (da_cons (de_var 2) da_nil) (clv_lenD (dv_c List.mem_cons_self))) (by rw [so_len])) ?_
      refine tr_for (S := Cl Nm) (α := Cl Nm) 4 PassesOwn.never sc_l_chase.nd (de_var 0) (fun _ => [some g.R, some g.Rh, some (rV (.ref a)), some (rI (so.length : Nat)), none, none, none]) (fun s => cD a (soE s) :: g.M0) (fun i s => ChJ g s ∧ so.length ≤ s.length ∧ (s.length = so.length → ∀ c ∈ g.cl.take i, ∃ l ∈ c, l.neg ∉ s)) so g.cl rC (hz.sv.weak fun G H ⟨s, m⟩ => mem_right (M := [cD a (soE s)]) m) ⟨hj, Nat.le_refl _, fun _ c hc => by cases hc⟩ ⟨rfl, rfl, rfl, rfl, trivial⟩ rfl ?_ ?_
      · rintro P pm i c s2 hi ⟨hj2, hle2, hfix2⟩ D2 hn2 hrt2
        have hcm := List.mem_of_getElem? hi
        have hc1 := hz.cz c hcm
        have hlen2 := hj2.len
        refine tr_ownLcIf (α := Lit) 5 6 sc_l_chase.nd c rLt rLt (fun l => !decide (l.neg ∈ s2)) (de_var 4) sv_t (by omega) (fun l hl _ _ _ _ _ => dt_cmp (op_notInDK (hu_of hr)) (de_call (R := rLt l.neg) Fn hr l (da_cons (de_var 6) da_nil) trivial fun _ _ _ _ r => r) (de_var 2) (opv_notInSo (dv_c List.mem_cons_self))) (fun l hl hb _ _ _ _ _ => de_var 6) fun b hb2 => ?_
        show Tr _ _ _ ((cD a (soE s2) :: g.M0) ++ [cOf b (wL ((c.filter fun l => !decide (l.neg ∈ s2)).map rLt))]) _ _
        refine tr_pubL (M := cD a (soE s2) :: g.M0) 5 hb2 ?_ ?_
        · rfl
        have hlf : ∀ l, l ∈ (c.filter fun l => !decide (l.neg ∈ s2)) ↔ l ∈ c ∧ l.neg ∉ s2 := fun l => by simp
        generalize hleft : (c.filter fun l => !decide (l.neg ∈ s2)) = left at hlf
        have hll : left.length ≤ c.length := by rw [← hleft]; exact List.length_filter_le _ _
        have hkeep : ∀ d ∈ g.cl.take (i + 1), d ∈ g.cl.take i ∨ d = c := fun d hd => by
          rw [List.take_add_one, hi] at hd
          rcases List.mem_append.mp hd with hd | hd
          · exact .inl hd
          · exact .inr (by simpa using hd)
        have stay : left ≠ [] → ∀ (T : Prop), (∀ σ G H, Stt (B.wp P pm) [some g.R, some g.Rh, some (rV (.ref a)), some (rI (so.length : Nat)), some (rC c), some (rL (left.map rLt)), none] (cD a (soE s2) :: g.M0) σ G H → D2.nx σ H) := fun hne _ σ G H st => hn2 s2 ⟨hj2, hle2, fun e d hd => by
          rcases hkeep d hd with hd | e2
          · exact hfix2 e d hd
          · subst e2
            obtain ⟨l, hl⟩ := List.exists_mem_of_ne_nil _ hne
            exact ⟨l, (hlf l).mp hl⟩⟩ σ G H (st.less ⟨rfl, rfl, rfl, rfl, trivial⟩)
        refine tr_if (dt_cmp (op_eqD hr.units) (de_var 5) (ne_lst (Rs := []) da_nil (Nat.zero_le _)).de (opv_eqNil (df := dLt) (n := 0) (rd_L fun l _ => rd_lt l).m (fun l _ => sh_lt l) (by decide))) (fun hb3 => ?_) fun hb3 => ?_
        · have hnil : left = [] := by simpa using hb3
          refine tr_ret (R := rN) de_non fun v σ G H st r => ?_
          show D2.rt v H
          rw [hrt2, hrt]
          refine hD.ret hP (pm := pm) none (show NoMod g.cl g.half from hj2.chi.dead hcm fun l hl => ?_) st .nil r
          by_cases h : l.neg ∈ s2
          · exact h
          · have := (hlf l).mpr ⟨hl, h⟩
            rw [hnil] at this; cases this
        · have hne : left ≠ [] := by intro e; rw [e] at hb3; cases hb3
          refine tr_go ?_
          refine tr_if (b := decide (left.length = 1)) (dt_cmp op_eq (de_callB cr_len bi.len (by decide +kernel) (da_cons (de_var 5) da_nil) (clv_len sv_l)) de_int ?_) (fun hb4 => ?_) fun hb4 => ?_
          · rw [List.length_map]
            refine (opv_eqV (scal_int _ _)).is (congrArg rB ?_)
            rw [Bool.eq_iff_iff, decide_eq_true_iff, decide_eq_true_iff, V.int.injEq]
            omega
          · have hl1 : left.length = 1 := of_decide_eq_true hb4
            obtain ⟨l, el⟩ : ∃ l, left = [l] := List.length_eq_one_iff.mp hl1
            have hlm : l ∈ left := by rw [el]; exact List.mem_cons_self
            have hlc := (hlf l).mp hlm
            refine tr_dput (α := Unit) (P := fun _ => True) (S := fun _ => rB true) (M' := fun _ => cD a (soE s2) :: g.M0) (k := ltS l) 0 (hu_of hr) de_bl.xe (fun _ _ => de_var 2) (fun _ _ => de_ix ix_list (de_var 5) de_int (opv_ixL lv_l (by rw [el]; rfl))) (fun _ _ => rfl) (.inr ha) (by rw [so_len]; omega) (so_nodup hj2.nod) fun _ _ => ?_
            rw [putE_so]
            refine tr_go (tr_nil fun σ G H st => ?_)
            by_cases hm : l ∈ s2
            · have e : putL s2 l = s2 := if_pos hm
              rw [e] at st
              exact stay hne True σ G H st
            · have e : putL s2 l = s2 ++ [l] := if_neg hm
              rw [e] at st
              refine hn2 (s2 ++ [l]) ⟨⟨hj2.chi.unit hcm hlc.2 fun k hk hk2 => ?_, by have := putL_nodup (l := l) hj2.nod; rwa [e] at this, fun k hk => ?_⟩, by rw [List.length_append]; omega, fun e2 => by rw [List.length_append] at e2; have e2 : s2.length + 1 = so.length := e2; omega⟩ σ G H (st.less ⟨rfl, rfl, rfl, rfl, trivial⟩)
              · have := (hlf k).mpr ⟨hk, hk2⟩
                rw [el] at this
                simpa using this
              · rcases List.mem_append.mp hk with hk | hk
                · exact hj2.nms k hk
                · have : k = l := by simpa using hk
                  rw [this]; exact hz.cn c hcm l hlc.1
          · exact tr_go (tr_nil (stay hne True))
      · rintro s2 ⟨hj2, hle2, hfix2⟩
        rw [List.take_length] at hfix2
        refine tr_nil fun σ G H st => hn (s2, (so.length : Nat)) ⟨hj2, by show ((so.length : Nat) : Int) ≤ s2.length; omega, fun e => hfix2 (by have e : ((so.length : Nat) : Int) = (s2.length : Int) := e; omega)⟩ ?_ σ G H (st.less ⟨rfl, rfl, rfl, rfl, trivial⟩)
        have h1 := hj2.len
        have h2 := hj.len
        show 2 * (g.names.length - s2.length) + (if ((so.length : Nat) : Int) < (s2.length : Int) then 1 else 0) < 2 * (g.names.length - so.length) + (if many < (so.length : Int) then 1 else 0)
        rw [if_pos hb]
        split <;> omega
    · rintro ⟨so, many⟩ ⟨hj, hle, hfix⟩ hb
      have hb : ¬ many < (so.length : Int) := by simpa using hb
      have e : many = so.length := by have hle : many ≤ (so.length : Int) := hle; omega
      refine tr_ret (R := rL (so.map rLt)) (DE.is (NE.de (ne_callTy cr_listD bi.list (by decide +kernel) (da_cons (de_var 2) da_nil) (cln_listD (dv_c List.mem_cons_self)))) ?_) fun v σ G H st r => hD.rt (some so) v _ _ σ G H ⟨hj.chi.done (hfix e), hj.nod, hj.nms⟩ st .nil r
      show rL _ = rL _
      rw [so_keys, map_rLt]
end
end KL

/-! KF7 -/
namespace KL
open PySem PySem.Spec PyProof.Rows L2 KM
section
variable {X : Cx} {B : Base} {ρ : Sl} {M : List Cell} {e : Expr} {es : List Expr} {R : Rp} {pos p : Pos} {x : Str} {k : Nat} {ps : List Str} {c : Ct}
/-- f(..): a def that writes nothing, one of several answers -/
theorem xe_callR {g : c.γ} (F : Dn X.prog X.w X.K X.mg X.base x k ps c) (hr : Room k X.A) (ha : DA X B ρ M (e :: es) (c.args g)) (hp : c.pre g) (hW : ∀ a, ¬ c.W g a := by intro _ h; exact h) (hM : ∀ G H, Mem G H M → Mem G H (c.mem g) := by exact fun _ _ _ => Mem.nil)
    (hg : Gl X x := by rfl) (hdb : (x == ("__debug__" : Str)) = false := by decide) (he : starEach (e :: es) X.env = (false, eval e X.env) :: starEach es X.env := by rfl) (hpl : (backTo pos (starEach es X.env)).any (·.1) = false := by rfl) : XE X B ρ M (.Call (.Name x p) (e :: es) [] pos) (c.post g) (c.res g) (fun _ => M) := fun σ G H s Q q => by
  obtain ⟨f, fd, F, hm, hk, hb⟩ := F.ex
  refine sem_e (pe_call (E := E0) F hr hg hm hk hb .nil pass0 pa_sem hdb he hpl) (ha σ G H s _ fun vs G1 H1 g1 r1 => ?_)
  rw [List.append_nil]
  refine ⟨g, G1, g1.sub, r1, hM G1 H1 (s.mem.grow g1), hp, fun z v G' H' hz mv _ r => ?_⟩
  have g2 : Grow G1 H1 G' H' := ⟨mv.gg, mv.sub, fun a o h => mv.keep a o (hW a) h, mv.new⟩
  exact q z v G' H' hz (g1.gg.trans mv.gg) ((s.grow g1).grow g2) r
/-- f(..): a def that may write its cells -/
theorem xe_callW {g : c.γ} {Rst : List Cell} (F : Dn X.prog X.w X.K X.mg X.base x k ps c) (hr : Room k X.A) (ha : DA X B ρ M (e :: es) (c.args g)) (hp : c.pre g) (hM : M.Perm (c.mem g ++ Rst)) (hf : ∀ z, (c.mem' g z).map Cell.foot = (c.mem g).map Cell.foot) (hFt : ∀ a, c.W g a → feet (c.mem g) a) (hW : ∀ a, c.W g a → B.F a ∨ B.H a = none)
    (hg : Gl X x := by rfl) (hdb : (x == ("__debug__" : Str)) = false := by decide) (he : starEach (e :: es) X.env = (false, eval e X.env) :: starEach es X.env := by rfl) (hpl : (backTo pos (starEach es X.env)).any (·.1) = false := by rfl) : XE X B ρ M (.Call (.Name x p) (e :: es) [] pos) (c.post g) (c.res g) (fun z => c.mem' g z ++ Rst) := xe_call F hr g ha hp hM hf hFt hW hg hdb he hpl
end
section
variable {P : Program} {w : World} {K : PySem.W.Frag} {mg : Str → Option Value} {base : Heap}
structure FoP (n : Nat) (g : List (Cl Nm) × Cl Nm × List Nm) : Prop where
  con : Con g.2.1
  nod : g.2.1.Nodup
  hn : ∀ l ∈ g.2.1, l.nm ∈ g.2.2
  cn : ∀ c ∈ g.1, ∀ l ∈ c, l.nm ∈ g.2.2
  nz : g.2.2.length ≤ 1000
  cz : ∀ c ∈ g.1, c.length ≤ 1000
  ms : g.2.2.length ≤ g.2.1.length + n
abbrev c_found (n : Nat) : Ct := .any (γ := List (Cl Nm) × Cl Nm × List Nm) (α := Option (Cl Nm)) (fun g => [rCs g.1, rL (g.2.1.map rLt)]) (FoP n) (fun g o => Sought g.1 g.2.1 o) fun _ o => rOL o
theorem nodup_snoc {L : Cl Nm} {l : Lit} (h : L.Nodup) (h1 : l ∉ L) : (L ++ [l]).Nodup := by
  have := putL_nodup (l := l) h
  rwa [show putL L l = L ++ [l] from if_neg h1] at this
theorem rLt_snoc (L : Cl Nm) (l : Lit) : L.map rLt ++ [rLt l] = (L ++ [l]).map rLt := by rw [List.map_append]; rfl
theorem dn_found1 (n : Nat) (F : DefAt K mg "_law_found" s_l_found) (Fc : Dn P w K mg base "_law_chase" 2 p_l_chase c_chase) (Fo : Dn P w K mg base "_law_open" 2 p_l_open c_open) (Fn : Dn P w K mg base "_law_neg" 1 p_l_neg c_neg)
    (ih : ∀ m, n = m + 1 → Dn P w K mg base "_law_found" (m + 3) p_l_found (c_found m)) : Dn P w K mg base "_law_found" (n + 3) p_l_found (c_found n) := by
  refine dn_mk F sc_l_found (fun _ => rfl) (fun _ _ _ _ _ _ us hl => match us, hl with | [_, _], _ => rfl) fun f cdv A outer s H E B D (g : List (Cl Nm) × Cl Nm × List Nm) hr (hz : FoP n g) hF hP hD => ?_
  obtain ⟨cl, half, names⟩ := g
  have Fc := Fc.mono (show 2 ≤ n + 2 by omega)
  have Fo := Fo.mono (show 2 ≤ n + 2 by omega)
  have Fn := Fn.mono (show 1 ≤ n + 2 by omega)
  show Tr _ B [some (rCs cl), some (rL (half.map rLt)), none, none, none] [] _ D
  refine tr_setX 2 sc_l_found.nd (xe_callR (g := ChG.mk (rCs cl) [] cl (rL (half.map rLt)) half names) Fc hr (da_cons (de_var 0) (da_cons (de_var 1) da_nil)) ⟨sv_l, fun _ => sv_l, hz.con, hz.nod, hz.hn, hz.cn, hz.nz, hz.cz⟩) fun o ho => ?_
  cases o with
  | none =>
    refine tr_if (b := true) (dt_cmp op_isNo (de_var 2) de_non (opv_isN fun G v h => by have h : v = .non := h; simp [h])) (fun _ => ?_) (fun h => by cases h)
    exact tr_ret (R := rN) de_non fun v σ G H st r => hD.rt none v _ _ σ G H ho st .nil r
  | some L =>
    obtain ⟨hc, hnd, hnm⟩ : Chz cl half L ∧ L.Nodup ∧ ∀ l ∈ L, l.nm ∈ names := ho
    have hle : half.length ≤ L.length := len_le_of_sub hz.nod hc.sub
    have hLn : L.length ≤ names.length := con_len hnd hc.con hnm
    have hnz : names.length ≤ 1000 := hz.nz
    have hms : names.length ≤ half.length + n := hz.ms
    refine tr_if (b := false) (dt_cmp op_isNo (de_var 2) de_non (opv_isN fun G v h => rOf_notN (W := wL (L.map rLt)) h)) (fun h => by cases h) (fun _ => tr_go ?_)
    refine tr_setX 3 sc_l_found.nd (xe_callR (g := (cl, L)) Fo hr (da_cons (de_var 0) (da_cons (de_var 2) da_nil)) trivial) fun o2 ho2 => ?_
    cases o2 with
    | none =>
      refine tr_if (b := true) (dt_cmp op_isNo (de_var 3) de_non (opv_isN fun G v h => by have h : v = .non := h; simp [h])) (fun _ => ?_) (fun h => by cases h)
      exact tr_ret (R := rL (L.map rLt)) (de_var 2) fun v σ G H st r => hD.rt (some L) v _ _ σ G H (show Fnd cl half L from .of hc ho2) st .nil r
    | some l =>
      obtain ⟨h1, h2, c, hcm, hlc⟩ : l ∉ L ∧ l.neg ∉ L ∧ ∃ c ∈ cl, l ∈ c := ho2
      have hln : l.nm ∈ names := hz.cn c hcm l hlc
      have hn1 := nodup_snoc hnd h1
      have hn2 := nodup_snoc (l := l.neg) hnd h2
      have hc1 : Con (L ++ [l]) := hc.con.snoc h2
      have hc2 : Con (L ++ [l.neg]) := hc.con.snoc (by rw [neg_neg]; exact h1)
      have hm1 : ∀ k ∈ L ++ [l], k.nm ∈ names := fun k hk => by
        rcases List.mem_append.mp hk with hk | hk
        · exact hnm k hk
        · have e : k = l := by simpa using hk
          rw [e]; exact hln
      have hm2 : ∀ k ∈ L ++ [l.neg], k.nm ∈ names := fun k hk => by
        rcases List.mem_append.mp hk with hk | hk
        · exact hnm k hk
        · have e : k = l.neg := by simpa using hk
          rw [e]; exact hln
      have hlt : L.length + 1 ≤ names.length := by
        have := con_len hn1 hc1 hm1
        rw [List.length_append] at this
        exact this
      obtain ⟨m, rfl⟩ : ∃ m, n = m + 1 := ⟨n - 1, by omega⟩
      have Fr := ih m rfl
      refine tr_if (b := false) (dt_cmp op_isNo (de_var 3) de_non (opv_isN fun G v h => rS_notN (x := ltS l) h)) (fun h => by cases h) (fun _ => tr_go ?_)
      refine tr_setX 4 sc_l_found.nd (xe_callR (g := (cl, L ++ [l], names)) Fr hr (da_cons (de_var 0) (da_cons ((ne_op op_cat (de_var 2) (ne_lst (Rs := [rLt l]) (da_cons (de_var 3) da_nil) (by simp)).de (opn_cat lv_l lv_l (by rw [List.length_map]; show L.length + 1 ≤ 100000; omega))).de.is (by rw [rLt_snoc])) da_nil)) ⟨hc1, hn1, hm1, hz.cn, hz.nz, hz.cz, by show names.length ≤ (L ++ [l]).length + m; rw [List.length_append]; show _ ≤ L.length + 1 + m; omega⟩) fun o3 ho3 => ?_
      cases o3 with
      | some L3 =>
        refine tr_ret (R := rL (L3.map rLt)) (de_ifE (d := true) (dt_cmp op_isNotNo (de_var 4) de_non (opv_isNotN (c := false) fun G v h => rOf_notN (W := wL (L3.map rLt)) h)) (fun _ => de_var 4) (fun h => by cases h)) fun v σ G H st r => hD.rt (some L3) v _ _ σ G H (show Fnd cl half L3 from Fnd.up hc ho3) st .nil r
      | none =>
        refine tr_retX (α := Option (Cl Nm)) (P := fun o => Sought cl (L ++ [l.neg]) o) (S := rOL) (M' := fun _ => []) (xe_ifE (dt_cmp (c := false) op_isNotNo (de_var 4) de_non (opv_isNotN (c := true) fun G v h => by have h : v = .non := h; simp [h])).xt (fun _ _ h => by cases h) fun _ _ _ => ?_) fun o4 v σ G H ho4 st r => ?_
        · exact xe_callR (c := c_found m) (g := (cl, L ++ [l.neg], names)) Fr hr (da_cons (de_var 0) (da_cons ((ne_op op_cat (de_var 2) (ne_lst (Rs := [rLt l.neg]) (da_cons (de_call (R := rLt l.neg) Fn hr l (da_cons (de_var 3) da_nil) trivial fun _ _ _ _ r => r) da_nil) (by simp)).de (opn_cat lv_l lv_l (by rw [List.length_map]; show L.length + 1 ≤ 100000; omega))).de.is (by rw [rLt_snoc])) da_nil)) ⟨hc2, hn2, hm2, hz.cn, hz.nz, hz.cz, by show names.length ≤ (L ++ [l.neg]).length + m; rw [List.length_append]; show _ ≤ L.length + 1 + m; omega⟩
        refine hD.rt o4 v _ _ σ G H ?_ st .nil r
        cases o4 with
        | some L4 => exact (show Fnd cl half L4 from Fnd.up hc ho4)
        | none => exact (show NoMod cl half from NoMod.up hc ho3 ho4)
theorem dn_l_found (F : DefAt K mg "_law_found" s_l_found) (Fc : Dn P w K mg base "_law_chase" 2 p_l_chase c_chase) (Fo : Dn P w K mg base "_law_open" 2 p_l_open c_open) (Fn : Dn P w K mg base "_law_neg" 1 p_l_neg c_neg) : ∀ n, Dn P w K mg base "_law_found" (n + 3) p_l_found (c_found n)
  | 0 => dn_found1 0 F Fc Fo Fn fun m h => by omega
  | n + 1 => dn_found1 (n + 1) F Fc Fo Fn fun m h => by
    have e : n = m := by omega
    subst e
    exact dn_l_found F Fc Fo Fn n
end
end KL

/-! KF8 -/
/-! The stream of draws. -/
namespace KL
open PySem PySem.Spec PyProof.Rows L2 KM
structure StS where
  p : Addr
  p0 : Addr
  xs : List Int
  cur : Int
  n : Nat
  acc : Int
abbrev stR (s : StS) : List Rp := [rV (.ref s.p0), rI s.cur, rI (s.n : Nat), rI s.acc]
abbrev stC (s : StS) : List Cell := [cL s.p (stR s), cL s.p0 (s.xs.map rI)]
structure StOk (s : StS) : Prop where
  cur : 0 ≤ s.cur
  acc : 0 ≤ s.acc
  acc2 : s.acc < 2147483648
  xs : s.xs.length ≤ 100
structure StNx (s s' : StS) (k : Nat) : Prop where
  p : s'.p = s.p
  p0 : s'.p0 = s.p0
  ok : StOk s'
  n : s'.n ≤ s.n + k
theorem StNx.trans {s s' s'' : StS} {k l : Nat} (a : StNx s s' k) (b : StNx s' s'' l) : StNx s s'' (k + l) := ⟨b.p.trans a.p, b.p0.trans a.p0, b.ok, by have := a.n; have := b.n; omega⟩
theorem StNx.refl {s : StS} (h : StOk s) : StNx s s 0 := ⟨rfl, rfl, h, Nat.le_refl _⟩
theorem StNx.mono {s s' : StS} {k l : Nat} (a : StNx s s' k) (h : k ≤ l) : StNx s s' l := ⟨a.p, a.p0, a.ok, by have := a.n; omega⟩
def rInt1 : List V → Hp → VK → Prop := fun xs H Q => (∃ i, xs = [.int i] ∧ Q (.int i) H) ∨ ∃ k, xs = [.bl k] ∧ Q (.int (if k then 1 else 0)) H
theorem cr_int1 {X : Cx} : CallR X (.type "int") rInt1 := call_int1
theorem clv_int1 {M : List Cell} {i : Int} : Clv M [rI i] rInt1 (rI i) := fun xs G H s m hx Q q => by
  obtain ⟨v, rfl, hv⟩ := all2_1 hx
  exact .inl ⟨i, by rw [show v = .int i from hv], q _ G H (Grow.refl s) rfl⟩
theorem clv_intB {M : List Cell} {b : Bool} : Clv M [rB b] rInt1 (rI (if b then 1 else 0)) := fun xs G H s m hx Q q => by
  obtain ⟨v, rfl, hv⟩ := all2_1 hx
  exact .inr ⟨b, by rw [show v = .bl b from hv], q _ G H (Grow.refl s) rfl⟩
section
variable {X : Cx} {B : Base} {ρ : Sl} {M : List Cell} {e i : Expr} {pos : Pos} {s : StS}
theorem st_get (k : Nat) {r : Rp} (h : cL s.p (stR s) ∈ M) (ho : DE X B ρ M e (rV (.ref s.p))) (hi : DE X B ρ M i (rI (k : Nat))) (hk : atI (stR s) (k : Nat) = some r) (hs : PlainIx i := by exact fun _ _ => rfl) : DE X B ρ M (.Subscript e i pos) r := de_ix ix_list ho hi (opv_ixL (lv_c h) hk) hs
theorem tr_setAt {o ve : Expr} {ppos : Pos} {rest : List Stmt} {D : Ends} {a : Addr} {rs : List Rp} {R : Rp} (j k : Nat) (hv : DE X B ρ M ve R) (ho : DE X B ρ M o (rV (.ref a))) (hi : DE X B ρ M i (rI (k : Nat))) (hj : M[j]? = some (cL a rs)) (hw : B.F a ∨ B.H a = none) (hl : k < rs.length) (hz : rs.length ≤ 100000) (kk : Tr X B ρ (M.set j (cL a (rs.set k R))) rest D)
    (hs : swapsWithSole [.Subscript o i ppos] ve pos.line X.env = pure false := by rfl) (hw2 : swappedStores [.Subscript o i ppos] ve X.env = pure none := by rfl)
    (h1 : (assignEach [.Subscript o i ppos] X.env).map (·.2) = [assign (.Subscript o i ppos) X.env] := by rfl)
    (hax : ∀ v, assign (.Subscript o i ppos) X.env v = (do
      let ov ← holding [v] (eval o X.env)
      let iv ← holding [v, ov] (eval i X.env)
      standAt ppos
      holding [v, ov, iv] (setItem ov iv v)
      release [v, ov, iv] []) := by intro _; rfl) : Tr X B ρ M (.Assign [.Subscript o i ppos] ve pos :: rest) D :=
  tr_setItem (β := Unit) (P2 := fun _ _ => True) (M2 := fun _ _ => M) (ii := fun _ _ => k) j hv.xe (fun _ _ => ho) (fun _ _ => hi.xe) (fun _ _ _ _ => hl) (fun _ _ _ _ => hj) hw hz (fun _ _ _ _ => kk) hs hw2 h1 hax
theorem tr_setAtX {o ve : Expr} {ppos : Pos} {rest : List Stmt} {D : Ends} {a : Addr} {rs : List Rp} {α : Type} {P : α → Prop} {S : α → Rp} {M' : α → List Cell} (j k : Nat) (hv : XE X B ρ M ve P S M') (ho : ∀ z, P z → DE X B ρ (M' z) o (rV (.ref a))) (hi : ∀ z, P z → DE X B ρ (M' z) i (rI (k : Nat))) (hj : ∀ z, P z → (M' z)[j]? = some (cL a rs)) (hw : B.F a ∨ B.H a = none) (hl : k < rs.length) (hz : rs.length ≤ 100000) (kk : ∀ z, P z → Tr X B ρ ((M' z).set j (cL a (rs.set k (S z)))) rest D)
    (hs : swapsWithSole [.Subscript o i ppos] ve pos.line X.env = pure false := by rfl) (hw2 : swappedStores [.Subscript o i ppos] ve X.env = pure none := by rfl)
    (h1 : (assignEach [.Subscript o i ppos] X.env).map (·.2) = [assign (.Subscript o i ppos) X.env] := by rfl)
    (hax : ∀ v, assign (.Subscript o i ppos) X.env v = (do
      let ov ← holding [v] (eval o X.env)
      let iv ← holding [v, ov] (eval i X.env)
      standAt ppos
      holding [v, ov, iv] (setItem ov iv v)
      release [v, ov, iv] []) := by intro _; rfl) : Tr X B ρ M (.Assign [.Subscript o i ppos] ve pos :: rest) D :=
  tr_setItem (β := Unit) (P2 := fun _ _ => True) (M2 := fun z _ => M' z) (ii := fun _ _ => k) j hv ho (fun z hz => (hi z hz).xe) (fun _ _ _ _ => hl) (fun z _ hz _ => hj z hz) hw hz (fun z _ hz _ => kk z hz) hs hw2 h1 hax
theorem eqI {M : List Cell} {i j : Int} : Opv M (rI i) (rI j) rEq (rB (decide (i = j))) := (opv_eqV (scal_int _ _)).is (congrArg rB (by rw [Bool.eq_iff_iff, decide_eq_true_iff, decide_eq_true_iff, V.int.injEq]))
theorem neI {M : List Cell} {i j : Int} : Opv M (rI i) (rI j) rNe (rB (!decide (i = j))) := (opv_neV (scal_int _ _)).is (congrArg (fun b => rB (!b)) (by rw [Bool.eq_iff_iff, decide_eq_true_iff, decide_eq_true_iff, V.int.injEq]))
end
/-! ### functions that draw -/
abbrev c_st {γ α : Type} (st : γ → StS) (cost : γ → Nat) (args : γ → List Rp) (cells : γ → List Cell) (pre : γ → Prop) (post : γ → α → Prop) (res : γ → α → Rp) : Ct :=
  ⟨γ, StS × α, fun g => rV (.ref (st g).p) :: args g, fun g => stC (st g) ++ cells g, fun g a => a = (st g).p ∨ a = (st g).p0, fun g => StOk (st g) ∧ (st g).n + cost g ≤ 1000000 ∧ pre g, fun g z => StNx (st g) z.1 (cost g) ∧ post g z.2, fun g z => res g z.2, fun g z => stC z.1 ++ cells g⟩
section
variable {P : Program} {w : World} {K : PySem.W.Frag} {mg : Str → Option Value} {base : Heap}
abbrev c_draw : Ct := c_st (γ := StS × Nat) (α := Nat) (fun g => g.1) (fun _ => 1) (fun g => [rI (g.2 : Nat)]) (fun _ => []) (fun g => 0 < g.2 ∧ g.2 ≤ 1000) (fun g k => k < g.2) fun _ k => rI (k : Nat)
theorem rd_I' {K : PySem.W.Frag} {i : Int} : RdD K (rI i) (.int i) := rd_I
theorem nat_of {d : Int} {m : Nat} (h0 : 0 ≤ d) (h1 : d < m) : ∃ k : Nat, d = k ∧ k < m := ⟨d.toNat, by omega, by omega⟩
theorem dn_l_draw (bi : BI mg) (F : DefAt K mg "_law_draw" s_l_draw) : Dn P w K mg base "_law_draw" 1 p_l_draw c_draw := by
  refine dn_mk F sc_l_draw (fun _ => rfl) (fun _ _ _ _ _ _ us hl => match us, hl with | [_, _], _ => rfl) fun f cdv A outer s H E B D (g : StS × Nat) hr hz hF hP hD => ?_
  obtain ⟨⟨p, p0, xs, cur, n, acc⟩, many⟩ := g
  obtain ⟨ok, hn, h0, h1⟩ := hz
  have hn : n + 1 ≤ 1000000 := hn
  have h0 : 0 < many := h0
  have h1 : many ≤ 1000 := h1
  have wp : B.F p ∨ B.H p = none := .inl (by rw [hF]; exact .inl rfl)
  have wp0 : B.F p0 ∨ B.H p0 = none := .inl (by rw [hF]; exact .inr rfl)
  show Tr _ B [some (rV (.ref p)), some (rI (many : Nat)), none, none] (stC ⟨p, p0, xs, cur, n, acc⟩) _ D
  refine tr_setAt (R := rI ((n + 1 : Nat) : Int)) (rs := stR ⟨p, p0, xs, cur, n, acc⟩) 0 2 ((de_op op_add (st_get (s := ⟨p, p0, xs, cur, n, acc⟩) 2 List.mem_cons_self (de_var 0) de_int rfl) de_int opv_II0).is ?_) (de_var 0) de_int rfl wp (show 2 < 4 by decide) (show 4 ≤ 100000 by decide) ?_
  · show rI _ = rI _
    rw [Int.natCast_add]; rfl
  show Tr _ B [some (rV (.ref p)), some (rI (many : Nat)), none, none] (stC ⟨p, p0, xs, cur, n + 1, acc⟩) _ D
  have tail : ∀ (xs : List Int) (cur acc : Int), 0 ≤ cur → 0 ≤ acc → acc < 2147483648 → xs.length ≤ 100 → Tr (KX P w K mg base n_l_draw "_law_draw" (defScope s_l_draw) f cdv A outer s H E) B [some (rV (.ref p)), some (rI (many : Nat)), none, none] (stC ⟨p, p0, xs, cur, n + 1, acc⟩) ((defBody s_l_draw).drop 2) D := by
    intro xs cur acc hc0 ha0 ha1 hx
    refine tr_if (b := decide (0 < cur)) (dt_cmp op_gt (st_get (s := ⟨p, p0, xs, cur, n + 1, acc⟩) 1 List.mem_cons_self (de_var 0) de_int rfl) de_int opv_II0) (fun hb => ?_) fun hb => ?_
    · have hb : 0 < cur := of_decide_eq_true hb
      refine tr_set (R := rI (cur % (many : Nat))) 2 sc_l_draw.nd (de_op op_mod (de_callTy cr_int1 bi.int (by decide +kernel) (da_cons (st_get (s := ⟨p, p0, xs, cur, n + 1, acc⟩) 1 List.mem_cons_self (de_var 0) de_int rfl) da_nil) clv_int1) (de_var 1) (opv_II (by omega))) ?_
      refine tr_setAt (R := rI (cur / (many : Nat))) (rs := stR ⟨p, p0, xs, cur, n + 1, acc⟩) 0 1 (de_op op_fdiv (st_get (s := ⟨p, p0, xs, cur, n + 1, acc⟩) 1 List.mem_cons_self (de_var 0) de_int rfl) (de_var 1) (opv_II ⟨by omega, by omega⟩)) (de_var 0) de_int rfl wp (show 1 < 4 by decide) (show 4 ≤ 100000 by decide) ?_
      obtain ⟨k, hk, hkm⟩ := nat_of (m := many) (Int.emod_nonneg cur (by omega)) (Int.emod_lt_of_pos cur (by omega))
      exact tr_ret (R := rI (cur % (many : Nat))) (de_var 2) fun v σ G H st r => hD.rt (⟨p, p0, xs, cur / (many : Nat), n + 1, acc⟩, k) v _ _ σ G H ⟨⟨rfl, rfl, ⟨Int.ediv_nonneg hc0 (by omega), ha0, ha1, hx⟩, Nat.le_refl _⟩, hkm⟩ st st.mem (by rw [hk] at r; exact r)
    · refine tr_go ?_
      have e1 : ((acc + 104729 * ((n + 1 : Nat) : Int) + 17) ^ ((5 : Int).toNat)) % 2147483629 < 2147483629 := Int.emod_lt_of_pos _ (by decide)
      have e0 : 0 ≤ ((acc + 104729 * ((n + 1 : Nat) : Int) + 17) ^ ((5 : Int).toNat)) % 2147483629 := Int.emod_nonneg _ (by decide)
      refine tr_set (R := rI (((acc + 104729 * ((n + 1 : Nat) : Int) + 17) ^ ((5 : Int).toNat)) % 2147483629)) 3 sc_l_draw.nd (de_op op_mod (de_op op_pow (de_op op_add (de_op op_add (st_get (s := ⟨p, p0, xs, cur, n + 1, acc⟩) 3 List.mem_cons_self (de_var 0) de_int rfl) (de_op op_mul de_int (st_get (s := ⟨p, p0, xs, cur, n + 1, acc⟩) 2 List.mem_cons_self (de_var 0) de_int rfl) (opv_II (.inl ⟨by decide, by decide⟩))) opv_II0) de_int opv_II0) de_int (opv_II ⟨by decide, by decide, by show (acc + 104729 * ((n + 1 : Nat) : Int) + 17).natAbs < 2 ^ 64; omega⟩)) de_int (opv_II (by decide))) ?_
      generalize ((acc + 104729 * ((n + 1 : Nat) : Int) + 17) ^ ((5 : Int).toNat)) % 2147483629 = mx at e0 e1
      have hq : 40503 * ((n + 1 : Nat) : Int) * ((n + 1 : Nat) : Int) ≤ 40503 * 1000000 * 1000000 := by
        have h2 : (((n + 1 : Nat) : Int)) ≤ 1000000 := by omega
        have h3 : 0 ≤ (((n + 1 : Nat) : Int)) := by omega
        have h4 : 40503 * ((n + 1 : Nat) : Int) ≤ 40503 * 1000000 := by omega
        have h5 : (0 : Int) ≤ 40503 * 1000000 := by decide
        exact Int.le_trans (Int.mul_le_mul_of_nonneg_right h4 h3) (Int.mul_le_mul_of_nonneg_left h2 h5)
      have hq0 : 0 ≤ 40503 * ((n + 1 : Nat) : Int) * ((n + 1 : Nat) : Int) := Int.mul_nonneg (by omega) (by omega)
      obtain ⟨k, hk, hkm⟩ := nat_of (m := many) (Int.emod_nonneg ((mx * 48271 + 40503 * ((n + 1 : Nat) : Int) * ((n + 1 : Nat) : Int) + 13) ^ ((3 : Int).toNat) % 1000000007) (by omega)) (Int.emod_lt_of_pos _ (show (0 : Int) < many by omega))
      refine tr_ret (R := rI (((mx * 48271 + 40503 * ((n + 1 : Nat) : Int) * ((n + 1 : Nat) : Int) + 13) ^ ((3 : Int).toNat) % 1000000007) % (many : Nat))) (de_op op_mod (de_op op_mod (de_op op_pow (de_op op_add (de_op op_add (de_op op_mul (de_var 3) de_int (opv_II (.inr ⟨by decide, by decide⟩))) (de_op op_mul (de_op op_mul de_int (st_get (s := ⟨p, p0, xs, cur, n + 1, acc⟩) 2 List.mem_cons_self (de_var 0) de_int rfl) (opv_II (.inl ⟨by decide, by decide⟩))) (st_get (s := ⟨p, p0, xs, cur, n + 1, acc⟩) 2 List.mem_cons_self (de_var 0) de_int rfl) (opv_II (.inr ⟨by show -(2 ^ 64) < ((n + 1 : Nat) : Int); omega, by show ((n + 1 : Nat) : Int) < 2 ^ 64; omega⟩))) opv_II0) de_int opv_II0) de_int (opv_II ⟨by decide, by decide, ?_⟩)) de_int (opv_II (by decide))) (de_var 1) (opv_II (by omega))) fun v σ G H st r => hD.rt (⟨p, p0, xs, cur, n + 1, acc⟩, k) v _ _ σ G H ⟨⟨rfl, rfl, ⟨hc0, ha0, ha1, hx⟩, Nat.le_refl _⟩, hkm⟩ st st.mem (by rw [hk] at r; exact r)
      generalize 40503 * ((n + 1 : Nat) : Int) * ((n + 1 : Nat) : Int) = q at hq hq0
      omega
  have hxl : xs.length ≤ 100 := ok.xs
  refine tr_if (b := decide (cur = 0) && !xs.isEmpty) (DW.dt (dw_and (dt_cmp op_eq (st_get (s := ⟨p, p0, xs, cur, n + 1, acc⟩) 1 List.mem_cons_self (de_var 0) de_int rfl) de_int eqI) fun _ => dw_and1 (dt_cmp (op_neD hr.units) (st_get (s := ⟨p, p0, xs, cur, n + 1, acc⟩) 0 List.mem_cons_self (de_var 0) de_int rfl) (ne_lst (Rs := []) da_nil (Nat.zero_le _)).de (opv_neNil (df := PyData.int) (n := 0) (rd_c (List.mem_cons_of_mem _ List.mem_cons_self) fun x _ => rd_I) (fun x _ => sh_I) (by decide))))) (fun hb => ?_) fun hb => tr_go (tail xs cur acc ok.cur ok.acc ok.acc2 hxl)
  cases xs with
  | nil => simp at hb
  | cons x xs =>
    have hxl : xs.length + 1 ≤ 100 := hxl
    refine tr_setAtX (α := Unit) (P := fun _ => True) (S := fun _ => rI x) (M' := fun _ => stC ⟨p, p0, xs, cur, n + 1, acc⟩) (rs := stR ⟨p, p0, xs, cur, n + 1, acc⟩) 0 1 (xe_popAt (a := p0) (rs := (x :: xs).map rI) (j := 1) (i := fun _ => 0) (M' := fun _ => stC ⟨p, p0, x :: xs, cur, n + 1, acc⟩) (st_get (s := ⟨p, p0, x :: xs, cur, n + 1, acc⟩) 0 List.mem_cons_self (de_var 0) de_int rfl) rfl de_int.xe wp0 (fun _ _ => rfl) (fun _ _ => rfl) (by rw [List.length_map, List.length_cons]; omega)) (fun _ _ => de_var 0) (fun _ _ => de_int) (fun _ _ => rfl) wp (show 1 < 4 by decide) (show 4 ≤ 100000 by decide) fun _ _ => ?_
    show Tr _ B [some (rV (.ref p)), some (rI (many : Nat)), none, none] (stC ⟨p, p0, xs, x, n + 1, acc⟩) _ _
    refine tr_if (b := decide (x < 10 ^ (18 : Int).toNat)) (dt_cmp op_lt (st_get (s := ⟨p, p0, xs, x, n + 1, acc⟩) 1 List.mem_cons_self (de_var 0) de_int rfl) (de_op op_pow de_int de_int (opv_II ⟨by decide, by decide, by decide⟩)) opv_II0) (fun hb2 => ?_) fun hb2 => ?_
    · refine tr_setAt (R := rI ((acc * 31 + x + 7) % 2147483647)) (rs := stR ⟨p, p0, xs, x, n + 1, acc⟩) 0 3 (de_op op_mod (de_callTy cr_int1 bi.int (by decide +kernel) (da_cons (de_op op_add (de_op op_add (de_op op_mul (st_get (s := ⟨p, p0, xs, x, n + 1, acc⟩) 3 List.mem_cons_self (de_var 0) de_int rfl) de_int (opv_II (.inr ⟨by decide, by decide⟩))) (st_get (s := ⟨p, p0, xs, x, n + 1, acc⟩) 1 List.mem_cons_self (de_var 0) de_int rfl) opv_II0) de_int opv_II0) da_nil) clv_int1) de_int (opv_II (by decide))) (de_var 0) de_int rfl wp (show 3 < 4 by decide) (show 4 ≤ 100000 by decide) ?_
      show Tr _ B [some (rV (.ref p)), some (rI (many : Nat)), none, none] (stC ⟨p, p0, xs, x, n + 1, (acc * 31 + x + 7) % 2147483647⟩) _ _
      refine tr_setAt (R := rI 0) (rs := stR ⟨p, p0, xs, x, n + 1, (acc * 31 + x + 7) % 2147483647⟩) 0 1 de_int (de_var 0) de_int rfl wp (show 1 < 4 by decide) (show 4 ≤ 100000 by decide) ?_
      have e0 : 0 ≤ (acc * 31 + x + 7) % 2147483647 := Int.emod_nonneg _ (by decide)
      have e1 : (acc * 31 + x + 7) % 2147483647 < 2147483647 := Int.emod_lt_of_pos _ (by decide)
      exact tr_go (tr_go (tail xs 0 _ (Int.le_refl _) e0 (by omega) (by omega)))
    · refine tr_go (tr_go (tail xs x acc ?_ ok.acc ok.acc2 (by omega)))
      have hb2 : ¬ x < 10 ^ (18 : Int).toNat := by simpa using hb2
      have : (10 : Int) ^ (18 : Int).toNat = 1000000000000000000 := by decide
      omega
end
end KL

/-! KX -/
/-! Comprehensions whose parts have effects; functions that draw. -/
namespace KL
open PySem PySem.Spec PyProof.Rows L2 KM
/-- what is iterated over, whatever is written meanwhile -/
structure Wk (J : It) (G0 : Hp) (n : Nat) (rf : Nat → Rp) : Prop where
  go : ∀ i H G, Same G0 G → Same G H → i < n → J.go i H
  stop : ∀ i H G, Same G0 G → Same G H → n ≤ i → J.stop i H
  yld : ∀ i H x H' G, Same G0 G → Same G H → i < n → J.yld i H x H' → H' = H ∧ (rf i).p G x
theorem Wk.mono {J : It} {G0 G1 : Hp} {n : Nat} {rf : Nat → Rp} (w : Wk J G0 n rf) (s : Same G0 G1) : Wk J G1 n rf :=
  ⟨fun i H G a b c => w.go i H G (s.trans a) b c, fun i H G a b c => w.stop i H G (s.trans a) b c, fun i H x H' G a b c d => w.yld i H x H' G (s.trans a) b c d⟩
theorem wk_range {G0 : Hp} {n : Nat} : Wk (Itr 0 n) G0 n fun i => rI (i : Nat) :=
  ⟨fun i H G _ _ h => h, fun i H G _ _ h => h, fun i H x H' G _ _ _ ⟨e, y⟩ => ⟨e, by rw [y]; show V.int (0 + (i : Int)) = V.int i; rw [Int.zero_add]⟩⟩
theorem wk_seq {J : It} {mk : List V → HO} {a : Addr} {G0 H0 : Hp} {rs : List Rp} {vs : List V} (w : Walked J fun H vs => H a = some (mk vs)) (hG : G0 a = some (mk vs)) (t : All2 G0 rs vs) : Wk J G0 rs.length fun i => rs.getD i rN :=
  ⟨fun i H G s1 s2 h => w.1 i H vs (vs[i]'(by rw [← t.len]; exact h)) (s2 _ _ (s1 _ _ hG)) (by rw [List.getElem?_eq_getElem (by rw [← t.len]; exact h)]),
   fun i H G s1 s2 h => w.2.1 i H vs (s2 _ _ (s1 _ _ hG)) (by rw [← t.len]; exact h),
   fun i H x H' G s1 s2 h y => by
    obtain ⟨e, y⟩ := w.2.2 i H x H' y
    have hx := y vs (s2 _ _ (s1 _ _ hG))
    obtain ⟨r, hr, hp⟩ := t.get' hx
    refine ⟨e, ?_⟩
    have : rs.getD i rN = r := by rw [List.getD_eq_getElem?_getD, hr]; rfl
    rw [this]; exact r.mono s1 hp⟩
section
variable {X : Cx} {B : Base} {ρ : Sl} {M : List Cell} {elt iter : Expr} {pos : Pos}
theorem elc_core {S T : Type} {It : L2.It} {n : Nat} {rf : Nat → Rp} {G : Hp} (w : Wk It G n rf) {j : Nat} {tt : TT} {te : TE} {σ : L2.St} {H1 : Hp} (acc : S → List Rp) (Ms : S → List Cell) (J : Nat → S → Prop) (s0 : S) (j0 : J 0 s0) (a0 : acc s0 = []) (st : Stt B ρ (Ms s0) σ G H1)
    (Pt : Nat → S → T → Prop) (b : T → Bool) (Mt : T → List Cell)
    (ht : ∀ i s, i < n → J i s → ∀ D0 σ2 G2 H2, Stt B (ρ.set j (some (rf i))) (D0 :: Ms s) σ2 G2 H2 → ∀ Q : Bool → Hp → Prop, (∀ t G' H', Pt i s t → Same G2 G' → Stt B (ρ.set j (some (rf i))) (D0 :: Mt t) σ2 G' H' → Q (b t) H') → tt σ2 H2 Q)
    (he : ∀ i s t, i < n → J i s → Pt i s t → b t = true → ∀ D0 σ2 G2 H2, Stt B (ρ.set j (some (rf i))) (D0 :: Mt t) σ2 G2 H2 → ∀ Q : VK, (∀ (s' : S) (r : Rp) v G' H', J (i + 1) s' → acc s' = acc s ++ [r] → Same G2 G' → Stt B (ρ.set j (some (rf i))) (D0 :: Ms s') σ2 G' H' → r.p G' v → Q v H') → te σ2 H2 Q)
    (h0 : ∀ i s t, i < n → J i s → Pt i s t → b t = false → ∃ s', J (i + 1) s' ∧ acc s' = acc s ∧ Ms s' = Mt t)
    (hz : ∀ i s, J i s → (acc s).length ≤ i) (hn : n ≤ 100000) (Q : VK) (q : ∀ D s G' H', J n s → B.H D = none → Same G G' → Stt B ρ (cL D (acc s) :: Ms s) σ G' H' → Q (.ref D) H') :
    ∀ D, H1 D = none → ∃ W : Nat → Nat → Hp → Prop, (∃ m, W 0 m (upd H1 D (.lst []))) ∧ ∀ i m H, W i m H →
      (It.stop i H ∧ Q (.ref D) H) ∨ (It.go i H ∧ ∃ Nx : Hp → Prop, (∀ H', Nx H' → ∃ m', m' < m ∧ W (i + 1) m' H') ∧ ∀ x H', It.yld i H x H' → gName j x (wipe σ [j]) H' fun σ2 H2 => wipe σ2 [j] = wipe σ [j] ∧ tt σ2 H2 fun b H3 =>
        if b = true then te σ2 H3 fun y H4 => ∃ acc, H4 D = some (.lst acc) ∧ acc.length < sizeLine ∧ Nx (upd H4 D (.lst (acc ++ [y]))) else Nx H3) := by
  intro D hD
  have hbD := st.none_of hD
  obtain ⟨gD, hGD⟩ := new_grow (o := .lst []) st.sub hD
  have s1 : Stt B ρ (cL D (acc s0) :: Ms s0) σ G (upd H1 D (.lst [])) := (own_new (W := wL (acc s0)) st gD hGD hD upd_same (by rw [a0]; exact ⟨[], rfl, .nil⟩)).perm List.perm_append_comm
  refine ⟨fun i m H => m = n - i ∧ i ≤ n ∧ ∃ s G', J i s ∧ Same G G' ∧ Stt B ρ (cL D (acc s) :: Ms s) σ G' H, ⟨n, by simp, Nat.zero_le _, s0, G, j0, Same.refl _, s1⟩, ?_⟩
  rintro i m H ⟨rfl, hi, s, G1, js, sg, s2⟩
  by_cases hlt : i < n
  · refine .inr ⟨w.go i H G1 sg s2.sub hlt, fun H => ∃ s G', J (i + 1) s ∧ Same G G' ∧ Stt B ρ (cL D (acc s) :: Ms s) σ G' H, fun H' p => ⟨n - (i + 1), by omega, rfl, hlt, p⟩, fun x H' y => ?_⟩
    obtain ⟨e, hx⟩ := w.yld i H x H' G1 sg s2.sub hlt y
    subst e
    have s3 : Stt B (ρ.set j (some (rf i))) (cL D (acc s) :: Ms s) ((σ.set j none).set j (some x)) G1 H' := s2.item j hx
    refine ⟨by show ((σ.set j none).set j (some x)).set j none = σ.set j none; rw [List.set_set, List.set_set], ?_⟩
    have back : ∀ {M' : List Cell} {G2 H2 : Hp}, Same G1 G2 → Stt B (ρ.set j (some (rf i))) M' ((σ.set j none).set j (some x)) G2 H2 → Stt B ρ M' σ G2 H2 := fun sg2 st2 => ⟨st2.mv, s2.slots.mono sg2, st2.mem, st2.pf⟩
    refine ht i s hlt js _ _ G1 H' s3 _ fun t G2 H2 pt sg2 s4 => ?_
    cases hb : b t with
    | false =>
      obtain ⟨s', j', e1, e2⟩ := h0 i s t hlt js pt hb
      exact iteF ⟨s', G2, j', sg.trans sg2, by rw [e1, e2]; exact back sg2 s4⟩
    | true =>
      refine iteT (he i s t hlt js pt hb _ _ G2 H2 s4 _ fun s' r v G3 H3 j' ea sg3 s5 rv => ?_)
      have s6 := back (sg2.trans sg3) s5
      obtain ⟨u, hu, vs, eu, tv⟩ := cell_at s6.mem (j := 0) (a := D) (W := wL (acc s)) rfl
      subst eu
      refine ⟨vs, hu, small5' ?_, s', G3, j', (sg.trans sg2).trans sg3, ?_⟩
      · rw [← tv.len]
        have := hz i s js
        omega
      · rw [ea]
        exact s6.put (j := 0) (W := wL (acc s)) rfl (.inr hbD) ⟨_, rfl, tv.snoc rv⟩
  · have e : i = n := by omega
    subst e
    exact .inl ⟨w.stop _ H G1 sg s2.sub (Nat.le_refl _), q D s G1 H js hbD sg s2⟩
/-- iterables -/
def IX (X : Cx) (B : Base) (ρ : Sl) (M : List Cell) (tg iter : Expr) {α : Type} (P : α → Prop) (n : α → Nat) (rf : α → Nat → Rp) (M' : α → List Cell) : Prop := ∃ wi, PI X tg iter wi ∧ ∀ σ G H, Stt B ρ M σ G H → ∀ R : L2.It → Hp → Prop, (∀ z It G' H', P z → Same G G' → Stt B ρ (M' z) σ G' H' → Wk It G' (n z) (rf z) → R It H') → wi σ H R
theorem ix_range {tg ae : Expr} {fp cp : Pos} {α : Type} {P : α → Prop} {n : α → Nat} {M' : α → List Cell} (hm : X.mg "range" = none) (he : XE X B ρ M ae P (fun z => rI (n z)) M') (hn : ∀ z, P z → n z ≤ 100000) (hg : Gl X "range" := by rfl) (hsa : starEach [ae] X.env = [(false, eval ae X.env)] := by rfl) :
    IX X B ρ M tg (.Call (.Name "range" fp) [ae] [] cp) P n (fun _ i => rI (i : Nat)) M' := ⟨_, pi_range1 hg hm (pa_cons pe_sem pa_nil (by rw [hsa]; rfl)) hsa, fun σ G H s R q => he σ G H s _ fun z v G1 H1 pz sg s1 r1 => by
  have r1 : v = .int (n z) := r1
  subst r1
  have hb := hn z pz
  have e62 : (100000 : Int) < 2 ^ 62 := by decide
  refine ⟨n z, rfl, by omega, by omega, ?_⟩
  have en : ((n z : Int)).toNat = n z := by omega
  rw [en]
  exact q z _ G1 H1 pz sg s1 wk_range⟩
theorem ix_seq' {tg : Expr} {R : Rp} {rs : List Rp} (it : DE X B ρ M iter R) (h : ∀ MP, SVp MP R rs) : IX X B ρ M tg iter (fun _ : Unit => True) (fun _ => rs.length) (fun _ i => rs.getD i rN) (fun _ => M) := ⟨_, pi_seq pe_sem, fun σ G H s Rr q => it σ G H s _ fun u G1 H1 g1 r1 => by
  obtain ⟨a, mk, ea, hmk, hv⟩ := h (fun G H => G = H) G1 G1 u (Same.refl _) rfl r1
  obtain ⟨vs, ho, t⟩ := hv G1 G1 (Same.refl _) (Same.refl _) rfl
  exact ⟨a, mk, vs, ea, hmk, g1.sub _ _ ho, fun It w => q () It G1 H1 trivial g1.gg (s.grow g1) (wk_seq (H0 := H1) w ho t)⟩⟩
variable {y : Str} {py : Pos} {scope : Scope} {α S : Type} {P : α → Prop} {n : α → Nat} {rf : α → Nat → Rp} {M' : α → List Cell}
theorem xe_lcX (j : Nat) (nd : X.N.Nodup) (ix : IX X B ρ M (.Name y py) iter P n rf M') (acc : S → List Rp) (Ms : S → List Cell) (J : α → Nat → S → Prop) (s0 : α → S) (j0 : ∀ z, P z → J z 0 (s0 z)) (a0 : ∀ z, acc (s0 z) = []) (m0 : ∀ z, Ms (s0 z) = M' z)
    (he : ∀ z i s, P z → i < n z → J z i s → ∀ D0, AllB X scope fun X' => XE X' B (ρ.set j (some (rf z i))) (D0 :: Ms s) elt (fun p : S × Rp => J z (i + 1) p.1 ∧ acc p.1 = acc s ++ [p.2]) Prod.snd (fun p => D0 :: Ms p.1))
    (hz : ∀ z i s, J z i s → (acc s).length ≤ i) (hn : ∀ z, P z → n z ≤ 100000) (ok : BlkOk X.N X.env.scope scope [(y, j)] := by exact blkOk_by (by kernel_rfl)) (hj : X.N[j]? = some y := by rfl)
    (hx : AllB X scope (fun X' => L2.Loc X'.env.scope y) := by first | exact fun _ _ _ _ _ => .inl rfl | exact fun _ _ _ _ _ => .inr rfl) (hf : AllB X scope (fun X' => X'.fn y = true ∨ X'.env.scope.names.lookup y = some .local) := by first | exact fun _ _ _ _ _ => .inl rfl | exact fun _ _ _ _ _ => .inr rfl)
    (hc : X.calm = true := by rfl) (hs : ∀ x, foldedSetIterable iter X.env x = pure x := by intro _; rfl) :
    XE X B ρ M (.ListComp elt [⟨.Name y py, iter, [], 0⟩] scope pos) (fun p : α × Addr × S => P p.1 ∧ B.H p.2.1 = none ∧ J p.1 (n p.1) p.2.2) (fun p => rV (.ref p.2.1)) (fun p => cL p.2.1 (acc p.2.2) :: Ms p.2.2) := fun σ G H s Q q => by
  obtain ⟨wi, pi, ix⟩ := ix
  refine sem_e (pe_lc (own := [(y, j)]) (g := gName j) (tt := tYes) (te := blkE X scope elt) hc nd pi ok (fun s H C cl fp => pg_name nd hj (hx s H C cl fp) (hf s H C cl fp)) (fun _ _ _ _ _ => pts_nil) (fun s H C cl fp => pe_blk s H C cl fp) hs) ?_
  refine ix σ G H s _ fun z It G1 H1 hp sg s1 w => ?_
  refine elc_core (T := S) (j := j) (tt := tYes) (te := blkE X scope elt) w acc Ms (J z) (s0 z) (j0 z hp) (a0 z) (by rw [m0]; exact s1) (fun _ s t => t = s) (fun _ => true) Ms ?_ ?_ (fun i s t _ _ _ h => by cases h) (hz z) (hn z hp) Q fun D s G2 H2 js hD sg2 s2 => q (z, D, s) _ G2 H2 ⟨hp, hD, js⟩ (sg.trans sg2) s2 rfl
  · exact fun i s hi js D0 σ2 G2 H2 s2 Q q => q s G2 H2 rfl (Same.refl _) s2
  · intro i s t hi js et _ D0 σ2 G2 H2 s2 Q q s0 H0 C cl fp
    subst et
    exact he z i t hp hi js D0 s0 H0 C cl fp σ2 G2 H2 s2 Q fun p v G3 H3 hp3 sg3 s3 r3 => q p.1 p.2 v G3 H3 hp3.1 hp3.2 sg3 s3 r3
theorem tr_lcX {T : Type} {c : Expr} {rest : List Stmt} {D : Ends} {x : Str} {px spos : Pos} (k j : Nat) (nd : X.N.Nodup) (ix : IX X B ρ M (.Name y py) iter P n rf M') (acc : S → List Rp) (Ms : S → List Cell) (J : α → Nat → S → Prop) (s0 : α → S) (j0 : ∀ z, P z → J z 0 (s0 z)) (a0 : ∀ z, acc (s0 z) = []) (m0 : ∀ z, Ms (s0 z) = M' z) (Pt : α → Nat → S → T → Prop) (b : T → Bool) (Mt : T → List Cell)
    (ht : ∀ z i s, P z → i < n z → J z i s → ∀ D0, AllB X scope fun X' => XT X' B (ρ.set j (some (rf z i))) (D0 :: Ms s) c (Pt z i s) b (fun t => D0 :: Mt t))
    (he : ∀ z i s t, P z → i < n z → J z i s → Pt z i s t → b t = true → ∃ s' r, J z (i + 1) s' ∧ acc s' = acc s ++ [r] ∧ Ms s' = Mt t ∧ ∀ D0, AllB X scope fun X' => DE X' B (ρ.set j (some (rf z i))) (D0 :: Mt t) elt r)
    (h0 : ∀ z i s t, P z → i < n z → J z i s → Pt z i s t → b t = false → ∃ s', J z (i + 1) s' ∧ acc s' = acc s ∧ Ms s' = Mt t)
    (hz : ∀ z i s, J z i s → (acc s).length ≤ i) (hn : ∀ z, P z → n z ≤ 100000) (kk : ∀ z a s, P z → B.H a = none → J z (n z) s → Tr X B (ρ.set k (some (rV (.ref a)))) (cL a (acc s) :: Ms s) rest D) (ok : BlkOk X.N X.env.scope scope [(y, j)] := by exact blkOk_by (by kernel_rfl)) (hi : X.N[k]? = some x := by rfl) (hxl : X.env.scope.names.lookup x = some .local := by rfl)
    (hsw : swapsWith (.ListComp elt [⟨.Name y py, iter, [c], 0⟩] scope pos) (some (.Name x px)) spos.line X.env = pure true := by exact sw_true rfl rfl rfl (by kernel_rfl)) (hj : X.N[j]? = some y := by rfl)
    (hx : AllB X scope (fun X' => L2.Loc X'.env.scope y) := by first | exact fun _ _ _ _ _ => .inl rfl | exact fun _ _ _ _ _ => .inr rfl) (hf : AllB X scope (fun X' => X'.fn y = true ∨ X'.env.scope.names.lookup y = some .local) := by first | exact fun _ _ _ _ _ => .inl rfl | exact fun _ _ _ _ _ => .inr rfl)
    (hc : X.calm = true := by rfl) (hs : ∀ x, foldedSetIterable iter X.env x = pure x := by intro _; rfl) : Tr X B ρ M (.Assign [.Name x px] (.ListComp elt [⟨.Name y py, iter, [c], 0⟩] scope pos) spos :: rest) D := tr_sem fun σ G H s => by
  obtain ⟨wi, pi, ix⟩ := ix
  refine sem_s (ps_setLc (own := [(y, j)]) (g := gName j) (tt := blkT X scope c) (te := blkE X scope elt) hc nd hi hxl hsw pi ok (fun s H C cl fp => pg_name nd hj (hx s H C cl fp) (hf s H C cl fp)) (fun s H C cl fp => pts_one (pt_blk s H C cl fp)) (fun s H C cl fp => pe_blk s H C cl fp) hs) ?_
  refine ix σ G H s _ fun z It G1 H1 hp sg s1 w => ?_
  refine elc_core (T := T) (j := j) (tt := blkT X scope c) (te := blkE X scope elt) w acc Ms (J z) (s0 z) (j0 z hp) (a0 z) (by rw [m0]; exact s1) (Pt z) b Mt ?_ ?_ (fun i s t hi js pt hb => h0 z i s t hp hi js pt hb) (hz z) (hn z hp) (fun x H1 => SemSs X rest D (σ.set k (some x)) H1) ?_
  · exact fun i s hi js D0 σ2 G2 H2 s2 Q q s0 H0 C cl fp => ht z i s hp hi js D0 s0 H0 C cl fp σ2 G2 H2 s2 Q q
  · intro i s t hi js pt hb D0 σ2 G2 H2 s2 Q q s0 H0 C cl fp
    obtain ⟨s', r, j', ea, em, hd⟩ := he z i s t hp hi js pt hb
    exact hd D0 s0 H0 C cl fp σ2 G2 H2 s2 Q fun v G3 H3 g3 r3 => q s' r v G3 H3 j' ea g3.gg (by rw [em]; exact s2.grow g3) r3
  · exact fun D s G2 H2 js hD sg2 s2 => kk z D s hp hD js _ G2 H2 (s2.set rfl)
/-- an owned value becomes data -/
theorem XE.pub {e : Expr} {β : Type} {Q' : β → Prop} {a : β → Addr} {W : β → Wp} [∀ z, NT (W z)] {N : β → List Cell} (h : XE X B ρ M e Q' (fun z => rV (.ref (a z))) (fun z => cOf (a z) (W z) :: N z)) (hb : ∀ z, Q' z → B.H (a z) = none) : XE X B ρ M e Q' (fun z => rOf (W z)) N := fun σ G H s Q q => h σ G H s Q fun z v G1 H1 hz sg s1 r1 => by
  have r1 : v = .ref (a z) := r1
  subst r1
  obtain ⟨o, ho, hw⟩ := s1.mem.ok _ List.mem_cons_self
  have ss : Same G1 (upd G1 (a z) o) := fun b u q => by rw [upd_ne (ne_of_none q (s1.mem.out _ List.mem_cons_self (a z) (by simp [cOf])))]; exact q
  exact q z _ _ H1 hz (sg.trans ss) (s1.pub (a := a z) (o := o) (by simp [cOf]) ho (hb z hz)) ⟨a z, o, rfl, upd_same, (W z).mono ss hw⟩
end
/-! ### functions that draw, called -/
def StW (B : Base) (s : StS) : Prop := (B.F s.p ∨ B.H s.p = none) ∧ (B.F s.p0 ∨ B.H s.p0 = none)
theorem StW.nx {B : Base} {s s' : StS} {k : Nat} (h : StW B s) (e : StNx s s' k) : StW B s' := by
  unfold StW; rw [e.p, e.p0]; exact h
section
variable {X : Cx} {B : Base} {ρ : Sl} {M : List Cell} {e : Expr} {es : List Expr} {R : Rp} {pos p : Pos} {x : Str} {k : Nat} {ps : List Str}
theorem st_foot {s s' : StS} {k : Nat} (e : StNx s s' k) : (stC s').map Cell.foot = (stC s).map Cell.foot := by
  show [[s'.p], [s'.p0]] = [[s.p], [s.p0]]
  rw [e.p, e.p0]
theorem xe_st {γ α : Type} {st : γ → StS} {cost : γ → Nat} {args : γ → List Rp} {cells : γ → List Cell} {pre : γ → Prop} {post : γ → α → Prop} {res : γ → α → Rp} {g : γ} {Rst : List Cell} (F : Dn X.prog X.w X.K X.mg X.base x k ps (c_st st cost args cells pre post res)) (hr : Room k X.A) (ha : DA X B ρ M (e :: es) (rV (.ref (st g).p) :: args g)) (hok : StOk (st g)) (hn : (st g).n + cost g ≤ 1000000) (hp : pre g) (hw : StW B (st g)) (hM : M.Perm (stC (st g) ++ (cells g ++ Rst)))
    (hg : Gl X x := by rfl) (hdb : (x == ("__debug__" : Str)) = false := by decide) (he : starEach (e :: es) X.env = (false, eval e X.env) :: starEach es X.env := by rfl) (hpl : (backTo pos (starEach es X.env)).any (·.1) = false := by rfl) : XE X B ρ M (.Call (.Name x p) (e :: es) [] pos) (fun z : StS × α => StNx (st g) z.1 (cost g) ∧ post g z.2) (fun z => res g z.2) (fun z => stC z.1 ++ (cells g ++ Rst)) := fun σ G H s Q q => by
  obtain ⟨f, fd, F, hm, hk, hb⟩ := F.ex
  refine sem_e (pe_call (E := E0) F hr hg hm hk hb .nil pass0 pa_sem hdb he hpl) (ha σ G H s _ fun vs G1 H1 g1 r1 => ?_)
  rw [List.append_nil]
  have s1 : Stt B ρ ((stC (st g) ++ cells g) ++ Rst) σ G1 H1 := by rw [List.append_assoc]; exact (s.grow g1).perm hM
  refine ⟨g, G1, g1.sub, r1, s1.mem.sub (List.sublist_append_left _ _), ⟨hok, hn, hp⟩, fun z v G' H' hz mv mm r => ?_⟩
  have hFt : ∀ a, (a = (st g).p ∨ a = (st g).p0) → feet (stC (st g) ++ cells g) a := fun a h => by
    rcases h with e | e
    · exact ⟨_, List.mem_append_left _ List.mem_cons_self, by rw [e]; simp [cOf]⟩
    · exact ⟨_, List.mem_append_left _ (List.mem_cons_of_mem _ List.mem_cons_self), by rw [e]; simp [cOf]⟩
  have mv' : Move (feet (stC (st g) ++ cells g)) G1 H1 G' H' := ⟨mv.gg, mv.sub, fun a o n h => mv.keep a o (fun w => n (hFt a w)) h, mv.there, mv.new⟩
  have hW : ∀ a, (a = (st g).p ∨ a = (st g).p0) → B.F a ∨ B.H a = none := fun a h => by
    rcases h with e | e
    · rw [e]; exact hw.1
    · rw [e]; exact hw.2
  refine q z v G' H' hz (g1.gg.trans mv.gg) ?_ r
  have := s1.mem.frame mv' mm (by rw [List.map_append, List.map_append, st_foot hz.1])
  rw [List.append_assoc] at this
  exact ⟨s1.mv.wider mv hW, s1.slots.mono mv.gg, this, B.pm mv.gg s1.pf⟩
end
end KL

/-! KF9 -/
namespace KL
open PySem PySem.Spec PyProof.Rows L2 KM
section
variable {X : Cx} {B : Base} {ρ : Sl} {M : List Cell} {e o a b : Expr} {R : Rp} {pos p apos : Pos} {k : Nat}
theorem XE.to {α β : Type} {P : α → Prop} {S : α → Rp} {M' : α → List Cell} {P' : β → Prop} {S' : β → Rp} {N' : β → List Cell} (h : XE X B ρ M e P S M') (f : α → β) (hp : ∀ x, P x → P' (f x)) (hr : ∀ x, P x → S x = S' (f x)) (hm : ∀ x, P x → (M' x).Perm (N' (f x))) : XE X B ρ M e P' S' N' := fun σ G H s Q q =>
  h σ G H s Q fun x v G' H' p sg st r => q (f x) v G' H' (hp x p) sg (st.perm (hm x p)) (hr x p ▸ r)
theorem XT.to {α β : Type} {P : α → Prop} {d : α → Bool} {M' : α → List Cell} {P' : β → Prop} {d' : β → Bool} {N' : β → List Cell} (h : XT X B ρ M e P d M') (f : α → β) (hp : ∀ x, P x → P' (f x)) (hr : ∀ x, P x → d x = d' (f x)) (hm : ∀ x, P x → (M' x).Perm (N' (f x))) : XT X B ρ M e P' d' N' := fun σ G H s Q q =>
  h σ G H s Q fun x G' H' p sg st => by rw [hr x p]; exact q (f x) G' H' (hp x p) sg (st.perm (hm x p))
theorem xe_draw {s : StS} {m : Nat} {Rst : List Cell} (F : Dn X.prog X.w X.K X.mg X.base "_law_draw" k p_l_draw c_draw) (hr : Room k X.A) (ha : DE X B ρ M a (rV (.ref s.p))) (hb : DE X B ρ M b (rI (m : Nat))) (h0 : 0 < m) (h1 : m ≤ 1000) (hok : StOk s) (hn : s.n + 1 ≤ 1000000) (hw : StW B s) (hM : M.Perm (stC s ++ Rst))
    (hg : Gl X "_law_draw" := by rfl) (he : starEach [a, b] X.env = (false, eval a X.env) :: starEach [b] X.env := by rfl) (he2 : starEach [b] X.env = (false, eval b X.env) :: starEach [] X.env := by rfl) (hpl : (backTo pos (starEach [b] X.env)).any (·.1) = false := by rfl) :
    XE X B ρ M (.Call (.Name "_law_draw" p) [a, b] [] pos) (fun z : StS × Nat => StNx s z.1 1 ∧ z.2 < m) (fun z => rI (z.2 : Nat)) (fun z => stC z.1 ++ Rst) :=
  xe_st (g := (s, m)) F hr (da_cons ha (da_cons hb da_nil he2) he) hok hn ⟨h0, h1⟩ hw hM hg (by decide) he hpl
theorem atI_getD {rs : List Rp} {k : Nat} (h : k < rs.length) : atI rs (k : Nat) = some (rs.getD k rN) := by
  unfold atI
  have hx : ixN rs.length (k : Int) = some k := by
    unfold ixN
    rw [if_pos (by omega), if_pos (by omega)]
    simp
  rw [hx]
  show rs[k]? = _
  rw [List.getD_eq_getElem?_getD, List.getElem?_eq_getElem h]; rfl
theorem perm_front {c d x : Cell} {L : List Cell} : (x :: c :: d :: L).Perm (c :: d :: x :: L) := (List.Perm.swap c x _).trans ((List.Perm.swap d x L).cons c)
end
section
variable {P : Program} {w : World} {K : PySem.W.Frag} {mg : Str → Option Value} {base : Heap}
abbrev c_pick : Ct := c_st (γ := StS × List Rp) (α := Nat) (fun g => g.1) (fun _ => 1) (fun g => [rL g.2]) (fun _ => []) (fun g => 0 < g.2.length ∧ g.2.length ≤ 1000) (fun g k => k < g.2.length) fun g k => g.2.getD k rN
theorem dn_l_pick (bi : BI mg) (F : DefAt K mg "_law_pick" s_l_pick) (Fd : Dn P w K mg base "_law_draw" 1 p_l_draw c_draw) : Dn P w K mg base "_law_pick" 2 p_l_pick c_pick := by
  refine dn_mk F sc_l_pick (fun _ => rfl) (fun _ _ _ _ _ _ us hl => match us, hl with | [_, _], _ => rfl) fun f cdv A outer s H E B D (g : StS × List Rp) hr hz hF hP hD => ?_
  obtain ⟨st, rs⟩ := g
  obtain ⟨ok, hn, h0, h1⟩ := hz
  have hw : StW B st := ⟨.inl (by rw [hF]; exact .inl rfl), .inl (by rw [hF]; exact .inr rfl)⟩
  show Tr _ B [some (rV (.ref st.p)), some (rL rs)] (stC st ++ []) _ D
  refine tr_retX (α := Unit × (StS × Nat)) (P := fun z => True ∧ (StNx st z.2.1 1 ∧ z.2.2 < rs.length)) (S := fun z => rs.getD z.2.2 rN) (M' := fun z => stC z.2.1 ++ []) (xe_ix ix_list (de_var 1).xe (fun _ _ => xe_draw Fd hr (de_var 0) (de_callB cr_len bi.len (by decide +kernel) (da_cons (de_var 1) da_nil) (clv_len sv_l)) h0 h1 ok hn hw (List.Perm.refl _)) fun _ y _ hy => opv_ixL lv_l (atI_getD hy.2)) fun z v σ G H hz st2 r => ?_
  exact hD.rt z.2 v _ _ σ G H hz.2 st2 st2.mem r
section
variable {X : Cx} {B : Base} {ρ : Sl} {M : List Cell} {a b : Expr} {pos p : Pos} {k : Nat}
theorem xe_pick {s : StS} {rs : List Rp} {Rst : List Cell} (F : Dn X.prog X.w X.K X.mg X.base "_law_pick" k p_l_pick c_pick) (hr : Room k X.A) (ha : DE X B ρ M a (rV (.ref s.p))) (hb : DE X B ρ M b (rL rs)) (h0 : 0 < rs.length) (h1 : rs.length ≤ 1000) (hok : StOk s) (hn : s.n + 1 ≤ 1000000) (hw : StW B s) (hM : M.Perm (stC s ++ Rst))
    (hg : Gl X "_law_pick" := by rfl) (he : starEach [a, b] X.env = (false, eval a X.env) :: starEach [b] X.env := by rfl) (he2 : starEach [b] X.env = (false, eval b X.env) :: starEach [] X.env := by rfl) (hpl : (backTo pos (starEach [b] X.env)).any (·.1) = false := by rfl) :
    XE X B ρ M (.Call (.Name "_law_pick" p) [a, b] [] pos) (fun z : StS × Nat => StNx s z.1 1 ∧ z.2 < rs.length) (fun z => rs.getD z.2 rN) (fun z => stC z.1 ++ Rst) :=
  xe_st (g := (s, rs)) F hr (da_cons ha (da_cons hb da_nil he2) he) hok hn ⟨h0, h1⟩ hw hM hg (by decide) he hpl
end
abbrev c_mixed : Ct := c_st (γ := StS × Rp × List Rp) (α := List Rp) (fun g => g.1) (fun g => g.2.2.length) (fun g => [g.2.1]) (fun _ => []) (fun g => (∀ MP, SVp MP g.2.1 g.2.2) ∧ g.2.2.length ≤ 1000) (fun g ys => ys.Perm g.2.2) fun _ ys => rL ys
theorem dn_l_mixed (bi : BI mg) (F : DefAt K mg "_law_mixed" s_l_mixed) (Fd : Dn P w K mg base "_law_draw" 1 p_l_draw c_draw) : Dn P w K mg base "_law_mixed" 2 p_l_mixed c_mixed := by
  refine dn_mk F sc_l_mixed (fun _ => rfl) (fun _ _ _ _ _ _ us hl => match us, hl with | [_, _], _ => rfl) fun f cdv A outer s H E B D (g : StS × Rp × List Rp) hr hz hF hP hD => ?_
  obtain ⟨st, R, rs⟩ := g
  obtain ⟨ok, hn, hv, h1⟩ := hz
  have hn : st.n + rs.length ≤ 1000000 := hn
  have h1 : rs.length ≤ 1000 := h1
  have hv : ∀ MP, SVp MP R rs := hv
  have hw : StW B st := ⟨.inl (by rw [hF]; exact .inl rfl), .inl (by rw [hF]; exact .inr rfl)⟩
  show Tr _ B [some (rV (.ref st.p)), some R, none, none] (stC st) _ D
  refine tr_own 2 sc_l_mixed.nd (ne_callTy cr_list bi.list (by decide +kernel) (da_cons (de_var 1) da_nil) (cln_list (hv _))) fun a ha => ?_
  show Tr _ B [some (rV (.ref st.p)), some R, some (rV (.ref a)), none] (stC st ++ [cL a rs]) _ D
  refine tr_retX (XE.pub (xe_lcX (α := Unit) (P := fun _ => True) (n := fun _ => rs.length) (rf := fun _ i => rI (i : Nat)) (M' := fun _ => stC st ++ [cL a rs]) (S := StS × List Rp × List Rp) 3 sc_l_mixed.nd (ix_range bi.range ((de_callB cr_len bi.len (by decide +kernel) (da_cons (de_var 2) da_nil) (clv_len (sv_m (by simp)))).xe.to id (fun _ h => h) (fun _ _ => rfl) fun _ _ => List.Perm.refl _) (fun _ _ => by omega))
    (fun s => s.2.2) (fun s => stC s.1 ++ [cL a s.2.1]) (fun _ i s => StNx st s.1 i ∧ s.2.1.length + i = rs.length ∧ (s.2.2 ++ s.2.1).Perm rs ∧ s.2.2.length = i) (fun _ => (st, rs, [])) (fun _ _ => ⟨StNx.refl ok, rfl, List.Perm.refl _, rfl⟩) (fun _ => rfl) (fun _ => rfl) ?_ (fun _ i s h => Nat.le_of_eq h.2.2.2) (fun _ _ => by omega)) fun z hz => hz.2.1) fun z v σ G H hz st2 r => ?_
  · rintro _ i ⟨s1, rem, out⟩ _ hi ⟨nx, hl, hp, ho⟩ D0 _ _ _ _ _
    have hl : rem.length + i = rs.length := hl
    have nxn : s1.n ≤ st.n + i := nx.n
    have hi : i < rs.length := hi
    refine XE.to (α := StS × Nat) (P := fun z => StNx s1 z.1 1 ∧ z.2 < rem.length) (S := fun z => rem.getD z.2 rN) (M' := fun z => stC z.1 ++ [D0, cL a (rem.eraseIdx z.2)]) ?_ (fun z => ((z.1, rem.eraseIdx z.2, out ++ [rem.getD z.2 rN]), rem.getD z.2 rN)) (fun z hz => ⟨⟨nx.trans hz.1, ?_, ?_, ?_⟩, rfl⟩) (fun _ _ => rfl) fun z hz => (perm_front).symm
    · exact xe_popAt (rs := rem) (j := 3) (i := fun z : StS × Nat => z.2) (M' := fun z => stC z.1 ++ [D0, cL a rem]) (de_var 2 (by rfl)) rfl (xe_draw Fd hr (by rw [← nx.p]; exact (de_var 0)) (de_callB cr_len bi.len (by decide +kernel) (da_cons (de_var 2) da_nil) (clv_len (sv_m (rs := rem) (by simp)))) (by omega) (by omega) nx.ok (by omega) (hw.nx nx) perm_front) (.inr ha) (fun _ _ => rfl) (fun z hz => by rw [List.getD_eq_getElem?_getD, List.getElem?_eq_getElem hz.2]; rfl) (by omega)
    · show (rem.eraseIdx z.2).length + (i + 1) = rs.length
      rw [List.length_eraseIdx, if_pos hz.2]; omega
    · show ((out ++ [rem.getD z.2 rN]) ++ rem.eraseIdx z.2).Perm rs
      refine List.Perm.trans ?_ hp
      rw [List.append_assoc]
      refine List.Perm.append_left out ?_
      have := (perm_erase (M := rem) (j := z.2) (c := rem.getD z.2 rN) (by rw [List.getD_eq_getElem?_getD, List.getElem?_eq_getElem hz.2]; rfl)).symm
      exact this
    · show (out ++ [rem.getD z.2 rN]).length = i + 1
      have ho : out.length = i := ho
      rw [List.length_append, ho]; rfl
  · obtain ⟨_, a2, s1, rem, out⟩ := z
    obtain ⟨_, hb, nx, hl, hp, ho⟩ := hz
    have hl : rem.length + rs.length = rs.length := hl
    have hnil : rem = [] := List.eq_nil_of_length_eq_zero (by omega)
    have hp : (out ++ rem).Perm rs := hp
    rw [hnil, List.append_nil] at hp
    refine hD.rt (s1, out) v _ _ σ G H ⟨nx, hp⟩ st2 ?_ r
    have hm : Mem G H (stC s1 ++ [cL a rem]) := st2.mem
    show Mem G H (stC s1 ++ [])
    rw [List.append_nil]
    exact hm.sub (List.sublist_append_left _ _)
section
variable {X : Cx} {B : Base} {ρ : Sl} {M : List Cell} {a b : Expr} {pos p : Pos} {k : Nat}
theorem xe_mixed {s : StS} {R : Rp} {rs : List Rp} {Rst : List Cell} (F : Dn X.prog X.w X.K X.mg X.base "_law_mixed" k p_l_mixed c_mixed) (hr : Room k X.A) (ha : DE X B ρ M a (rV (.ref s.p))) (hb : DE X B ρ M b R) (hv : ∀ MP, SVp MP R rs) (h1 : rs.length ≤ 1000) (hok : StOk s) (hn : s.n + rs.length ≤ 1000000) (hw : StW B s) (hM : M.Perm (stC s ++ Rst))
    (hg : Gl X "_law_mixed" := by rfl) (he : starEach [a, b] X.env = (false, eval a X.env) :: starEach [b] X.env := by rfl) (he2 : starEach [b] X.env = (false, eval b X.env) :: starEach [] X.env := by rfl) (hpl : (backTo pos (starEach [b] X.env)).any (·.1) = false := by rfl) :
    XE X B ρ M (.Call (.Name "_law_mixed" p) [a, b] [] pos) (fun z : StS × List Rp => StNx s z.1 rs.length ∧ z.2.Perm rs) (fun z => rL z.2) (fun z => stC z.1 ++ Rst) :=
  xe_st (g := (s, R, rs)) F hr (da_cons ha (da_cons hb da_nil he2) he) hok hn ⟨hv, h1⟩ hw hM hg (by decide) he hpl
end
end
end KL

/-! KF10 -/
namespace KL
open PySem PySem.Spec PyProof.Rows L2 KM
/-! ### fresh names -/
theorem nmOk_of {s : Str} (h1 : 1 ≤ s.cps.toList.length) (h2 : s.cps.toList.length ≤ 8) (h : ∀ c ∈ s.cps.toList, 97 ≤ c ∧ c ≤ 122) : nmOk s = true := by
  unfold nmOk
  rw [Array.length_toList] at h1 h2
  simp only [Bool.and_eq_true, decide_eq_true_eq, List.all_eq_true]
  exact ⟨⟨h1, h2⟩, h⟩
def spareN (k : Nat) : Nm := ⟨⟨#[113, 97 + k / 26 % 26, 97 + k % 26]⟩, nmOk_of (by simp) (by simp) (fun c hc => by
  simp at hc
  omega)⟩
theorem spareN_inj {i j : Nat} (hi : i < 676) (hj : j < 676) (h : spareN i = spareN j) : i = j := by
  have e := congrArg (fun n : Nm => n.val.cps.toList) h
  simp [spareN] at e
  omega
theorem spare_some {taken : List Nm} (h : taken.length < 676) : ¬ ∀ j, j < 676 → spareN j ∈ taken := fun ha => by
  have h1 : ((List.range 676).map spareN).Nodup := by
    rw [List.Nodup, List.pairwise_map]
    refine List.Pairwise.imp_of_mem ?_ List.pairwise_lt_range
    intro a b ha hb hab e
    have := spareN_inj (List.mem_range.mp ha) (List.mem_range.mp hb) e
    omega
  have h2 := len_le_of_sub h1 (ys := taken) fun x hx => by
    obtain ⟨j, hj, rfl⟩ := List.mem_map.mp hx
    exact ha j (List.mem_range.mp hj)
  rw [List.length_map, List.length_range] at h2
  omega
abbrev lettersS : Str := "abcdefghijklmnopqrstuvwxyz"
theorem letters_at : ∀ k, k < 26 → atI lettersS.cps.toList (k : Nat) = some (97 + k) := by
  have h : ((List.range 26).all fun k => decide (atI lettersS.cps.toList ((k : Nat) : Int) = some (97 + k))) = true := by decide +kernel
  intro k hk
  exact of_decide_eq_true (List.all_eq_true.mp h k (List.mem_range.mpr hk))
def wordsN : List Nm := [⟨"sign", by decide +kernel⟩, ⟨"helper", by decide +kernel⟩, ⟨"clause", by decide +kernel⟩, ⟨"dead", by decide +kernel⟩, ⟨"forced", by decide +kernel⟩, ⟨"all", by decide +kernel⟩, ⟨"found", by decide +kernel⟩]
theorem joinL_one : ∀ cs : List Nat, TL.joinL [] (cs.map fun c => [c]) = cs
  | [] => rfl
  | [c] => rfl
  | c :: d :: r => by
    have ih := joinL_one (d :: r)
    show [c] ++ ([] ++ TL.joinL [] ((d :: r).map fun c => [c])) = _
    rw [ih]; rfl
theorem join_codes (cs : List Nat) : Txt.join "" (cs.map fun c => ⟨#[c]⟩) = ⟨cs.toArray⟩ := by
  rw [TL.join_eq]
  refine str_ext ?_
  have h := TL.tl_join "" (cs.map fun c => (⟨#[c]⟩ : Str))
  have e0 : TL.tl "" = [] := by decide
  rw [e0, List.map_map] at h
  have e1 : (cs.map (TL.tl ∘ fun c => (⟨#[c]⟩ : Str))) = cs.map fun c => [c] := List.map_congr_left fun c _ => rfl
  rw [e1, joinL_one] at h
  exact h
theorem codes_nm {cs : List Nat} (h1 : 1 ≤ cs.length) (h2 : cs.length ≤ 8) (h : ∀ c ∈ cs, 97 ≤ c ∧ c ≤ 122) : nmOk ⟨cs.toArray⟩ = true := nmOk_of h1 h2 h
section
variable {X : Cx} {B : Base} {ρ : Sl} {M : List Cell} {e o a b : Expr} {R : Rp} {pos p apos : Pos} {k : Nat}
theorem opv_ixS {z : Str} {i : Int} {c : Nat} (hl : z.length ≤ 100000) (h : atI z.cps.toList i = some c) : Opv M (rS z) (rI i) rIxS (rS ⟨#[c]⟩) := fun x y G H s m hx hy Q q => ⟨z, i, c, hx, hy, small5 hl, h, q _ G H (Grow.refl s) rfl⟩
theorem xe_join {t : Str} {α : Type} {P : α → Prop} {ys : α → List Str} {M' : α → List Cell} (ho : DE X B ρ M o (rS t)) (he : XE X B ρ M e P (fun z => rL ((ys z).map rS)) M') (hz : ∀ z, P z → ((ys z).map (·.length)).sum + (ys z).length * t.length ≤ 16777216) (hs : starEach [e] X.env = [(false, eval e X.env)] := by rfl) (hbase : attributeBase o "join" X.env (eval o X.env) = eval o X.env := by rfl) (hline : (apos.endLine == pos.line) = true := by rfl) :
    XE X B ρ M (.Call (.Attribute o "join" apos) [e] [] pos) P (fun z => rS (Txt.join t (ys z))) M' := fun σ G H s Q q =>
  sem_e (pe_join pe_sem pe_sem hs hbase hline) (ho σ G H s _ fun u G1 H1 g1 r1 => ⟨⟨t, r1⟩, he σ G1 H1 (s.grow g1) _ fun z v G2 H2 hp sg s2 r2 => by
    obtain ⟨a, o, rfl, ho, vs, rfl, tv⟩ := r2
    have ev := all2_strs tv
    subst ev
    exact ⟨t, a, ys z, r1, rfl, .inl (SqL.of (s2.sub _ _ ho)), hz z hp, q z _ G2 H2 hp (g1.gg.trans sg) s2 rfl⟩⟩)
end
theorem sum_one {cs : List Nat} : ((cs.map fun c => (⟨#[c]⟩ : Str)).map (·.length)).sum = cs.length := by
  induction cs with
  | nil => rfl
  | cons c r ih => rw [List.map_cons, List.map_cons, List.sum_cons, ih, List.length_cons]; show 1 + _ = _; omega
def sizesN : List Nat := [1, 1, 1, 2, 3, 8]
theorem sizes_at : ∀ k, k < 6 → (sizesN.map fun n => rI (n : Nat)).getD k rN = rI ((sizesN.getD k 1 : Nat) : Int)
  | 0, _ => rfl
  | 1, _ => rfl
  | 2, _ => rfl
  | 3, _ => rfl
  | 4, _ => rfl
  | 5, _ => rfl
  | k + 6, h => by omega
theorem sizes_b : ∀ k, 1 ≤ sizesN.getD k 1 ∧ sizesN.getD k 1 ≤ 8
  | 0 | 1 | 2 | 3 | 4 | 5 => by decide
  | k + 6 => by show 1 ≤ 1 ∧ 1 ≤ 8; decide
theorem words_at : ∀ k, k < 7 → (wordsN.map rNm).getD k rN = rNm (wordsN.getD k (spareN 0))
  | 0, _ => rfl
  | 1, _ => rfl
  | 2, _ => rfl
  | 3, _ => rfl
  | 4, _ => rfl
  | 5, _ => rfl
  | 6, _ => rfl
  | k + 7, h => by omega
section
variable {P : Program} {w : World} {K : PySem.W.Frag} {mg : Str → Option Value} {base : Heap}
abbrev c_fresh : Ct := c_st (γ := StS × List Nm) (α := Nm) (fun g => g.1) (fun _ => 12) (fun g => [rL (g.2.map rNm)]) (fun _ => []) (fun g => g.2.length < 676) (fun g n => n ∉ g.2) fun _ n => rNm n
theorem spare_eq {k : Nat} (h : k < 676) : (("q" : Str) ++ ⟨#[97 + k / 26]⟩) ++ ⟨#[97 + k % 26]⟩ = (spareN k).val := by
  refine str_ext ?_
  rw [app_cps, app_cps]
  have e : ("q" : Str).cps.toList = [113] := by decide +kernel
  rw [e]
  have : k / 26 % 26 = k / 26 := by omega
  simp [spareN, this]
theorem dn_l_fresh (bi : BI mg) (F : DefAt K mg "_law_fresh" s_l_fresh) (Fd : Dn P w K mg base "_law_draw" 1 p_l_draw c_draw) (Fp : Dn P w K mg base "_law_pick" 2 p_l_pick c_pick) : Dn P w K mg base "_law_fresh" 3 p_l_fresh c_fresh := by
  refine dn_mk F sc_l_fresh (fun _ => rfl) (fun _ _ _ _ _ _ us hl => match us, hl with | [_, _], _ => rfl) fun f cdv A outer s H E B D (g : StS × List Nm) hr hz hF hP hD => ?_
  obtain ⟨st, taken⟩ := g
  obtain ⟨ok, hn, ht⟩ := hz
  have hn : st.n + 12 ≤ 1000000 := hn
  have ht : taken.length < 676 := ht
  have Fd := Fd.mono (show 1 ≤ 2 by decide)
  have hw : StW B st := ⟨.inl (by rw [hF]; exact .inl rfl), .inl (by rw [hF]; exact .inr rfl)⟩
  show Tr _ B [some (rV (.ref st.p)), some (rL (taken.map rNm)), none, none, none, none, none] (stC st) _ D
  refine tr_unp (α := Unit) (P := fun _ => True) (R1 := fun _ => rS lettersS) (R2 := fun _ => rL (wordsN.map rNm)) (M' := fun _ => stC st) 2 3 sc_l_fresh.nd (ne_tup (Rs := [rS lettersS, rL (wordsN.map rNm)]) (da_cons de_str (da_cons (ne_lst (Rs := wordsN.map rNm) (da_cons de_str (da_cons de_str (da_cons de_str (da_cons de_str (da_cons de_str (da_cons de_str (da_cons de_str da_nil))))))) (by decide)).de da_nil)) (by decide)).de.xe fun _ _ => ?_
  show Tr _ B [some (rV (.ref st.p)), some (rL (taken.map rNm)), some (rS lettersS), some (rL (wordsN.map rNm)), none, none, none] (stC st) _ D
  have lz : lettersS.length ≤ 100000 := by decide +kernel
  refine tr_setX (α := (Unit × (StS × Nat)) × Addr × (StS × List Nat)) (P := fun z => StNx st z.2.2.1 9 ∧ 1 ≤ z.2.2.2.length ∧ z.2.2.2.length ≤ 8 ∧ ∀ c ∈ z.2.2.2, 97 ≤ c ∧ c ≤ 122) (S := fun z => rS ⟨z.2.2.2.toArray⟩) (M' := fun z => stC z.2.2.1) 5 sc_l_fresh.nd ?_ ?_
  · refine XE.to (P := fun z : (Unit × (StS × Nat)) × Addr × (StS × List Nat) => (True ∧ (StNx st z.1.2.1 1 ∧ z.1.2.2 < 6)) ∧ B.H z.2.1 = none ∧ StNx z.1.2.1 z.2.2.1 (sizesN.getD z.1.2.2 1) ∧ z.2.2.2.length = sizesN.getD z.1.2.2 1 ∧ ∀ c ∈ z.2.2.2, 97 ≤ c ∧ c ≤ 122) (S := fun z => rS (Txt.join "" (z.2.2.2.map fun c => ⟨#[c]⟩))) (M' := fun z => stC z.2.2.1) (xe_join de_str (XE.weak (XE.pub (xe_lcX (α := Unit × (StS × Nat)) (P := fun z => True ∧ (StNx st z.2.1 1 ∧ z.2.2 < 6)) (n := fun z => sizesN.getD z.2.2 1) (rf := fun _ i => rI (i : Nat)) (M' := fun z => stC z.2.1 ++ []) (S := StS × List Nat) 4 sc_l_fresh.nd (ix_range bi.range ?_ ?_) (fun s => s.2.map fun c => rS ⟨#[c]⟩) (fun s => stC s.1) (fun z i s => StNx z.2.1 s.1 i ∧ s.2.length = i ∧ ∀ c ∈ s.2, 97 ≤ c ∧ c ≤ 122) (fun z => (z.2.1, [])) (fun z hz => ⟨StNx.refl hz.2.1.ok, rfl, fun c hc => by cases hc⟩) (fun _ => rfl) (fun _ => rfl) ?_ ?_ ?_) fun z hz => hz.2.1) id (fun _ h => h) ?_ fun _ => rfl) ?_) id ?_ ?_ fun _ _ => List.Perm.refl _
    · refine XE.to (P := fun z : Unit × (StS × Nat) => True ∧ (StNx st z.2.1 1 ∧ z.2.2 < 6)) (S := fun z => (sizesN.map fun n => rI (n : Nat)).getD z.2.2 rN) (M' := fun z => stC z.2.1 ++ []) (xe_ix ix_list (ne_lst (Rs := sizesN.map fun n => rI (n : Nat)) (da_cons de_int (da_cons de_int (da_cons de_int (da_cons de_int (da_cons de_int (da_cons de_int da_nil)))))) (by decide)).de.xe (fun _ _ => xe_draw (s := st) (m := 6) Fd hr (de_var 0) de_int (by decide) (by decide) ok (by omega) hw (List.Perm.refl _)) fun _ y _ hy => opv_ixL lv_l (atI_getD hy.2)) id (fun _ h => h) (fun z hz => sizes_at _ hz.2.2) fun _ _ => List.Perm.refl _
    · intro z hz
      have := (sizes_b z.2.2).2
      omega
    · rintro ⟨_, s1, k1⟩ i ⟨s2, cs⟩ ⟨_, nx1, hk1⟩ hi ⟨nx2, hl, hc⟩ D0 _ _ _ _ _
      have hi : i < sizesN.getD k1 1 := hi
      have hb := (sizes_b k1).2
      have nn1 : s1.n ≤ st.n + 1 := nx1.n
      have nn2 : s2.n ≤ s1.n + i := nx2.n
      refine XE.to (P := fun z : Unit × (StS × Nat) => True ∧ (StNx s2 z.2.1 1 ∧ z.2.2 < 26)) (S := fun z => rS ⟨#[97 + z.2.2]⟩) (M' := fun z => stC z.2.1 ++ [D0]) (xe_ix ix_str (de_var 2).xe (fun _ _ => xe_draw (s := s2) (m := 26) Fd hr (by rw [← nx1.p, ← nx2.p]; exact (de_var 0)) de_int (by decide) (by decide) nx2.ok (by omega) ((hw.nx nx1).nx nx2) perm_front) fun _ y _ hy => opv_ixS lz (letters_at _ hy.2)) (fun z => ((z.2.1, cs ++ [97 + z.2.2]), rS ⟨#[97 + z.2.2]⟩)) (fun z hz => ⟨⟨nx2.trans hz.2.1, ?_, ?_⟩, ?_⟩) (fun _ _ => rfl) fun z hz => perm_front.symm
      · have hl : cs.length = i := hl
        show (cs ++ [97 + z.2.2]).length = i + 1
        rw [List.length_append, hl]; rfl
      · intro c hc2
        rcases List.mem_append.mp hc2 with hc2 | hc2
        · exact hc c hc2
        · have e : c = 97 + z.2.2 := by simpa using hc2
          have := hz.2.2
          omega
      · show (cs ++ [97 + z.2.2]).map _ = cs.map _ ++ _
        rw [List.map_append]; rfl
    · intro z i s h
      show (s.2.map _).length ≤ i
      rw [List.length_map]
      exact Nat.le_of_eq h.2.1
    · intro z hz
      have := (sizes_b z.2.2).2
      omega
    · intro z G v hz h
      show (rL ((z.2.2.2.map fun c => (⟨#[c]⟩ : Str)).map rS)).p G v
      rw [List.map_map]; exact h
    · intro z hz
      show ((z.2.2.2.map fun c => (⟨#[c]⟩ : Str)).map (·.length)).sum + (z.2.2.2.map fun c => (⟨#[c]⟩ : Str)).length * _ ≤ _
      rw [sum_one, hz.2.2.2.1]
      have := (sizes_b z.1.2.2).2
      have e0 : (("" : Str)).length = 0 := by decide
      rw [e0, Nat.mul_zero]
      omega
    · intro z hz
      have hb := sizes_b z.1.2.2
      have e := hz.2.2.2.1
      exact ⟨(hz.1.2.1.trans hz.2.2.1).mono (by omega), by show 1 ≤ z.2.2.2.length; omega, by show z.2.2.2.length ≤ 8; omega, hz.2.2.2.2⟩
    · intro z hz
      show rS _ = rS _
      rw [join_codes]; rfl
  · rintro ⟨_, _, s1, cs⟩ ⟨nx1, hc1, hc2, hc3⟩
    have nn1 : s1.n ≤ st.n + 9 := nx1.n
    show Tr _ B [some (rV (.ref st.p)), some (rL (taken.map rNm)), some (rS lettersS), some (rL (wordsN.map rNm)), none, some (rNm ⟨⟨cs.toArray⟩, codes_nm hc1 hc2 hc3⟩), none] (stC s1) _ D
    generalize (⟨⟨cs.toArray⟩, codes_nm hc1 hc2 hc3⟩ : Nm) = nm0
    refine tr_setX (α := StS × Nm) (P := fun z => StNx s1 z.1 2) (S := fun z => rNm z.2) (M' := fun z => stC z.1) 5 sc_l_fresh.nd (xe_ifE (α := (StS × Nat) × Unit) (P := fun z => (StNx s1 z.1.1 1 ∧ z.1.2 < 9) ∧ True) (d := fun z => decide ((z.1.2 : Int) = 0)) (M1 := fun z => stC z.1.1 ++ []) (xt_cmp op_eq (xe_draw (s := s1) (m := 9) Fd hr (by rw [← nx1.p]; exact (de_var 0)) de_int (by decide) (by decide) nx1.ok (by omega) (hw.nx nx1) (List.Perm.refl _)) (fun _ _ => de_int.xe) fun _ _ _ _ => eqI) ?_ ?_) ?_
    · rintro ⟨⟨s2, k2⟩, _⟩ ⟨⟨nx2, _⟩, _⟩ _
      have nn2 : s2.n ≤ s1.n + 1 := nx2.n
      refine XE.to (P := fun z : StS × Nat => StNx s2 z.1 1 ∧ z.2 < (wordsN.map rNm).length) (S := fun z => (wordsN.map rNm).getD z.2 rN) (M' := fun z => stC z.1 ++ []) (xe_pick (s := s2) (rs := wordsN.map rNm) (Rst := []) Fp hr (by rw [← nx1.p, ← nx2.p]; exact (de_var 0)) (de_var 3) (by decide) (by decide) nx2.ok (by omega) ((hw.nx nx1).nx nx2) (List.Perm.refl _)) (fun z => (z.1, wordsN.getD z.2 (spareN 0))) (fun z hz => (nx2.trans hz.1)) (fun z hz => words_at _ hz.2) fun _ _ => List.Perm.refl _
    · rintro ⟨⟨s2, k2⟩, _⟩ ⟨⟨nx2, _⟩, _⟩ _
      exact (de_var 5).xe.to (fun _ => (s2, nm0)) (fun _ _ => nx2.mono (by decide)) (fun _ _ => rfl) fun _ _ => List.Perm.refl _
    · rintro ⟨s2, nm⟩ nx2
      have nn2 : s2.n ≤ s1.n + 2 := nx2.n
      have nx : StNx st s2 12 := (nx1.trans nx2).mono (by decide)
      refine tr_range (α := Unit) (P := fun _ => True) (T := Unit) (n := fun _ => if nm ∈ taken then 676 else 0) 4 sc_l_fresh.nd bi.range ((DE.is (de_op op_mul de_int (de_callTy cr_int1 bi.int (by decide +kernel) (da_cons (de_cmp op_in_seq (de_var 5) (de_var 1) (opv_inNm sv_l)) da_nil) clv_intB) (opv_II (.inl ⟨by decide, by decide⟩))) ?_).xe) (fun _ _ => by split <;> decide) (fun _ _ => [some (rV (.ref st.p)), some (rL (taken.map rNm)), some (rS lettersS), some (rL (wordsN.map rNm)), none, some (rNm nm), none]) (fun _ _ => stC s2) (fun _ i _ => ∀ j, j < i → spareN j ∈ taken) (fun _ => ()) (fun _ _ j h => by omega) (fun _ _ => ⟨rfl, rfl, rfl, rfl, rfl, trivial⟩) (fun _ _ => rfl) ?_ ?_
      · show rI _ = rI _
        by_cases h : nm ∈ taken
        · rw [if_pos h, decide_eq_true h]; rfl
        · rw [if_neg h, decide_eq_false h]; rfl
      · intro _ i _ _ hi hJ D' hn' hrt
        have hi : i < 676 := by
          by_cases h : nm ∈ taken
          · rw [if_pos h] at hi; exact hi
          · rw [if_neg h] at hi; omega
        have h1 : i / 26 < 26 := by omega
        have h2 : i % 26 < 26 := by omega
        refine tr_set (R := rNm (spareN i)) 6 sc_l_fresh.nd (DE.is (de_op op_addStr (de_op op_addStr de_str (de_ix ix_str (de_var 2) (DE.is (de_op op_fdiv (de_var 4) de_int (opv_II ⟨by decide, by decide⟩)) (show _ = rI ((i / 26 : Nat) : Int) from by show rI _ = rI _; rw [Int.natCast_ediv]; rfl)) (opv_ixS lz (letters_at _ h1))) (opv_addS ?_)) (de_ix ix_str (de_var 2) (DE.is (de_op op_mod (de_var 4) de_int (opv_II (by decide))) (show _ = rI ((i % 26 : Nat) : Int) from by show rI _ = rI _; rw [Int.natCast_emod]; rfl)) (opv_ixS lz (letters_at _ h2))) (opv_addS ?_)) (congrArg rS (spare_eq hi))) ?_
        · exact (show 1 + 1 ≤ 100000 by decide)
        · exact (show 2 + 1 ≤ 100000 by decide)
        · refine tr_if (dt_cmp op_notIn_seq (de_var 6) (de_var 1) (opv_notInNm sv_l)) (fun hb => ?_) fun hb => ?_
          · refine tr_ret (R := rNm (spareN i)) (de_var 6) fun v σ G H st2 r => ?_
            show D'.rt v H
            rw [hrt]
            exact hD.rt (s2, spareN i) v _ _ σ G H ⟨nx, by simpa using hb⟩ st2 st2.mem r
          · refine tr_go (tr_nil fun σ G H st2 => hn' () (fun j hj => ?_) σ G H (st2.less ⟨rfl, rfl, rfl, rfl, rfl, trivial⟩))
            by_cases e : j = i
            · subst e; simpa using hb
            · exact hJ j (by omega)
      · intro _ _ _ hJ
        have hnt : nm ∉ taken := fun h => by
          rw [if_pos h] at hJ
          exact spare_some ht hJ
        exact tr_ret (R := rNm nm) (de_var 5) fun v σ G H st2 r => hD.rt (s2, nm) v _ _ σ G H ⟨nx, hnt⟩ st2 st2.mem r
section
variable {X : Cx} {B : Base} {ρ : Sl} {M : List Cell} {a b : Expr} {pos p : Pos} {k : Nat}
theorem xe_fresh {s : StS} {taken : List Nm} {Rst : List Cell} (F : Dn X.prog X.w X.K X.mg X.base "_law_fresh" k p_l_fresh c_fresh) (hr : Room k X.A) (ha : DE X B ρ M a (rV (.ref s.p))) (hb : DE X B ρ M b (rL (taken.map rNm))) (h1 : taken.length < 676) (hok : StOk s) (hn : s.n + 12 ≤ 1000000) (hw : StW B s) (hM : M.Perm (stC s ++ Rst))
    (hg : Gl X "_law_fresh" := by rfl) (he : starEach [a, b] X.env = (false, eval a X.env) :: starEach [b] X.env := by rfl) (he2 : starEach [b] X.env = (false, eval b X.env) :: starEach [] X.env := by rfl) (hpl : (backTo pos (starEach [b] X.env)).any (·.1) = false := by rfl) :
    XE X B ρ M (.Call (.Name "_law_fresh" p) [a, b] [] pos) (fun z : StS × Nm => StNx s z.1 12 ∧ z.2 ∉ taken) (fun z => rNm z.2) (fun z => stC z.1 ++ Rst) :=
  xe_st (g := (s, taken)) F hr (da_cons ha (da_cons hb da_nil he2) he) hok hn h1 hw hM hg (by decide) he hpl
end
end
end KL

/-! KF11 -/
namespace KL
open PySem PySem.Spec PyProof.Rows L2 KM
/-! ### valid codes -/
def ClOk (ns : List Nm) (d : Cl Nm) : Prop := (d.map Lt.nm).Nodup ∧ ∀ l ∈ d, l.nm ∈ ns
structure CdOk (c : Cd) : Prop where
  nod : (c.signs ++ c.helpers).Nodup
  cls : ∀ d ∈ c.clauses, ClOk (c.signs ++ c.helpers) d
theorem ClOk.con {ns : List Nm} {d : Cl Nm} (h : ClOk ns d) : Con d := con_of_nodup_nm h.1
theorem ClOk.len {ns : List Nm} {d : Cl Nm} (h : ClOk ns d) : d.length ≤ ns.length := by
  have := len_le_of_sub h.1 (ys := ns) fun x hx => by
    obtain ⟨l, hl, rfl⟩ := List.mem_map.mp hx
    exact h.2 l hl
  rwa [List.length_map] at this
theorem ClOk.nodup {ns : List Nm} {d : Cl Nm} (h : ClOk ns d) : d.Nodup := List.Pairwise.imp (fun {a b} hab e => hab (by rw [e])) (List.pairwise_map.mp h.1)
theorem upM_nodup (d : Cl Nm) : ∀ {ns : List Nm}, ns.Nodup → (upM d ns).Nodup
  | [], _ => .nil
  | n :: r, h => by
    rw [List.nodup_cons] at h
    have e : upM d (n :: r) = ((both n).filter fun l => decide (l ∈ d)) ++ upM d r := by unfold upM; rw [List.flatMap_cons]
    rw [e, List.nodup_append]
    refine ⟨List.Pairwise.filter _ (by unfold both; simp), upM_nodup d h.2, fun a ha b hb e => ?_⟩
    have h1 : a.nm = n := by
      have := (List.mem_filter.mp ha).1
      unfold both at this
      simp only [List.mem_cons, List.not_mem_nil, or_false] at this
      rcases this with e | e <;> rw [e]
    have h2 := (mem_upM.mp hb).2
    rw [← e, h1] at h2
    exact h.1 h2
theorem upM_ok {d : Cl Nm} {ns : List Nm} (hc : Con d) (hn : ns.Nodup) : ClOk ns (upM d ns) :=
  ⟨nodup_map_nm (upM_nodup d hn) fun l hl hl2 => hc l (mem_upM.mp hl).1 (mem_upM.mp hl2).1, fun l hl => (mem_upM.mp hl).2⟩
theorem once_ok {cs : List (Cl Nm)} {ns : List Nm} (hc : ∀ d ∈ cs, Con d) (hn : ns.Nodup) : ∀ d ∈ onceM cs ns, ClOk ns d := fun d hd => by
  obtain ⟨c, h1, rfl⟩ := mem_onceM.mp hd
  exact upM_ok (hc c h1) hn
theorem perm_map_inv {α β : Type} {f : α → β} : ∀ {ys : List β} {xs : List α}, ys.Perm (xs.map f) → ∃ zs : List α, zs.Perm xs ∧ ys = zs.map f
  | [], xs, h => by
    have : xs.map f = [] := h.symm.eq_nil
    exact ⟨[], by rw [List.map_eq_nil_iff.mp this], rfl⟩
  | y :: ys, xs, h => by
    have hm : y ∈ xs.map f := h.subset List.mem_cons_self
    obtain ⟨x, hx, e⟩ := List.mem_map.mp hm
    obtain ⟨l, r, rfl⟩ := List.append_of_mem hx
    have h2 : ys.Perm ((l ++ r).map f) := by
      have : (y :: ys).Perm (y :: (l ++ r).map f) := by
        refine h.trans ?_
        rw [List.map_append, List.map_append, List.map_cons, e]
        exact List.perm_middle
      exact List.Perm.cons_inv this
    obtain ⟨zs, h3, rfl⟩ := perm_map_inv h2
    exact ⟨x :: zs, (h3.cons x).trans List.perm_middle.symm, by rw [List.map_cons, e]⟩
theorem pcon_ext {d d' : Cl Nm} {n : Nm} {b : Bool} (h : (d.map Lt.nm).Nodup) (hs : d'.Sublist d) (hn : n ∉ d.map Lt.nm) : Con (d' ++ [⟨b, n⟩]) := by
  refine con_of_nodup_nm ?_
  rw [List.map_append, List.nodup_append]
  refine ⟨h.sublist (hs.map _), by simp, fun a ha c hc e => hn ?_⟩
  have e2 : c = n := by simpa using hc
  rw [← e2, ← e]
  exact (hs.map _).subset ha
section
variable {X : Cx} {B : Base} {ρ : Sl} {M : List Cell} {a b e : Expr} {pos p : Pos} {k : Nat} {α β : Type} {P : α → Prop} {P2 : α → β → Prop} {Sa : α → Rp} {Sb : α → β → Rp} {M1 : α → List Cell} {M2 : α → β → List Cell}
theorem xa_2 (ha : XE X B ρ M a P Sa M1) (hb : ∀ z, P z → XE X B ρ (M1 z) b (P2 z) (Sb z) (M2 z)) (hs : starEach [a, b] X.env = (false, eval a X.env) :: starEach [b] X.env := by rfl) (hs2 : starEach [b] X.env = (false, eval b X.env) :: starEach [] X.env := by rfl) :
    XA X B ρ M [a, b] (fun p : α × β => P p.1 ∧ P2 p.1 p.2) (fun p => [Sa p.1, Sb p.1 p.2]) (fun p => M2 p.1 p.2) := fun σ G H s Q q =>
  sem_a (pa_cons pe_sem (pa_cons pe_sem pa_nil hs2) hs) (ha σ G H s _ fun z v G1 H1 hp sg s1 r1 => hb z hp σ G1 H1 s1 _ fun y u G2 H2 hp2 sg2 s2 r2 => q (z, y) [v, u] G2 H2 ⟨hp, hp2⟩ (sg.trans sg2) s2 (.cons ((Sa z).mono sg2 r1) (.cons r2 .nil)))
theorem tr_par2 {rest : List Stmt} {D : Ends} {x y : Str} {px py pt pt2 spos : Pos} {kt k2 : Nat} (i j : Nat) (nd : X.N.Nodup) (ha : XE X B ρ M a P Sa M1) (hb : ∀ z, P z → XE X B ρ (M1 z) b (P2 z) (Sb z) (M2 z)) (k : ∀ z y, P z → P2 z y → Tr X B ((ρ.set i (some (Sa z))).set j (some (Sb z y))) (M2 z y) rest D) (hij : i ≠ j := by decide) (hi : X.N[i]? = some x := by rfl) (hj : X.N[j]? = some y := by rfl)
    (hx : X.env.scope.names.lookup x = some .local := by rfl) (hy : X.env.scope.names.lookup y = some .local := by rfl) (hc : X.calm = true := by rfl)
    (hw : swappedStores [.Tuple [.Name x px, .Name y py] kt pt] (.Tuple [a, b] k2 pt2) X.env = pure (some [x, y]) := by rfl)
    (hs : swapsWithSole [.Tuple [.Name x px, .Name y py] kt pt] (.Tuple [a, b] k2 pt2) spos.line X.env = pure false := by rfl) (hsa : starEach [a, b] X.env = (false, eval a X.env) :: starEach [b] X.env := by rfl) (hs2 : starEach [b] X.env = (false, eval b X.env) :: starEach [] X.env := by rfl) :
    Tr X B ρ M (.Assign [.Tuple [.Name x px, .Name y py] kt pt] (.Tuple [a, b] k2 pt2) spos :: rest) D :=
  tr_par i j nd (xa_2 ha hb hsa hs2) (fun _ => ⟨_, _, rfl⟩) (fun z r1 r2 hz e => by cases e; exact k z.1 z.2 hz.1 hz.2) hij hi hj hx hy hc hw hs
theorem all2_map_fst {xs : List (Rp × Cl Nm)} : xs.map Prod.fst = xs.map fun e => e.1 := rfl
end
section
variable {P : Program} {w : World} {K : PySem.W.Frag} {mg : Str → Option Value} {base : Heap}
structure PaP (c : Cd) : Prop where
  ok : CdOk c
  s : c.signs.length ≤ 3
  h : c.helpers.length ≤ 1
  z : c.clauses.length ≤ 900
abbrev c_parted : Ct := c_st (γ := StS × Cd) (α := Cd) (fun g => g.1) (fun _ => 20) (fun g => [rCd g.2]) (fun _ => []) (fun g => PaP g.2) (fun g c => CdOk c ∧ c.signs = g.2.signs ∧ c.helpers.length ≤ g.2.helpers.length + 1 ∧ c.clauses.length ≤ g.2.clauses.length + 1) fun _ c => rCd c
def tagC (cs : List (Cl Nm)) : List (Rp × Cl Nm) := cs.map fun c => (rC c, c)
theorem tagC_fst (cs : List (Cl Nm)) : (tagC cs).map Prod.fst = cs.map rC := by unfold tagC; rw [List.map_map]; rfl
theorem tagC_snd (cs : List (Cl Nm)) : (tagC cs).map Prod.snd = cs := by unfold tagC; rw [List.map_map]; exact List.map_id' cs
theorem tagE_fst (xs ys : List (Cl Nm)) (p q : Rp × Cl Nm) : (tagC xs ++ [p, q] ++ tagC ys).map Prod.fst = xs.map rC ++ [p.1, q.1] ++ ys.map rC := by rw [List.map_append, List.map_append, tagC_fst, tagC_fst]; rfl
theorem tagC_sv {cs : List (Cl Nm)} : ∀ e ∈ tagC cs, ∀ MP, SVp MP e.1 (e.2.map rLt) := fun e he MP => by
  obtain ⟨c, _, rfl⟩ := List.mem_map.mp he
  exact sv_t
theorem nodup_end {α : Type} {xs : List α} {x : α} (h : xs.Nodup) (hx : x ∉ xs) : (xs ++ [x]).Nodup := by
  rw [List.nodup_append]
  refine ⟨h, by simp, fun a ha b hb e => ?_⟩
  have e2 : b = x := by simpa using hb
  rw [e, e2] at ha
  exact hx ha
theorem atI_map {α : Type} {f : α → Rp} {xs : List α} {k : Nat} {x : α} (h : xs[k]? = some x) : atI (xs.map f) (k : Nat) = some (f x) := by
  have hk : k < xs.length := (List.getElem?_eq_some_iff.mp h).1
  have := atI_getD (rs := xs.map f) (k := k) (by rw [List.length_map]; exact hk)
  rw [this, List.getD_eq_getElem?_getD, List.getElem?_map, h]; rfl
theorem both_at (n : Nm) : ∀ k, k < 2 → ∃ b, ((both n).map rLt).getD k rN = rLt ⟨b, n⟩
  | 0, _ => ⟨true, rfl⟩
  | 1, _ => ⟨false, rfl⟩
  | k + 2, h => by omega
theorem mem_pair {xs ys zs : List (Rp × Cl Nm)} {d1 d2 : Cl Nm} {r1 r2 : Rp} : (xs ++ [(r1, d1), (r2, d2)] ++ zs).map Prod.snd = xs.map Prod.snd ++ [d1, d2] ++ zs.map Prod.snd := by rw [List.map_append, List.map_append]; rfl
theorem dn_l_parted (bi : BI mg) (F : DefAt K mg "_law_parted" s_l_parted) (Fd : Dn P w K mg base "_law_draw" 1 p_l_draw c_draw) (Ff : Dn P w K mg base "_law_fresh" 3 p_l_fresh c_fresh) (Fm : Dn P w K mg base "_law_mixed" 2 p_l_mixed c_mixed) (Fp : Dn P w K mg base "_law_pick" 2 p_l_pick c_pick) (Fn : Dn P w K mg base "_law_neg" 1 p_l_neg c_neg) (Fo : Dn P w K mg base "_law_once" 2 p_l_once c_once) : Dn P w K mg base "_law_parted" 4 p_l_parted c_parted := by
  refine dn_mk F sc_l_parted (fun _ => rfl) (fun _ _ _ _ _ _ us hl => match us, hl with | [_, _], _ => rfl) fun f cdv A outer s H E B D (g : StS × Cd) hr hz hF hP hD => ?_
  obtain ⟨st, c⟩ := g
  obtain ⟨ok, hn, hc⟩ := hz
  have hn : st.n + 20 ≤ 1000000 := hn
  have hc : PaP c := hc
  have Fd := Fd.mono (show 1 ≤ 3 by decide)
  have Fm := Fm.mono (show 2 ≤ 3 by decide)
  have Fp := Fp.mono (show 2 ≤ 3 by decide)
  have Fn := Fn.mono (show 1 ≤ 3 by decide)
  have Fo := Fo.mono (show 2 ≤ 3 by decide)
  have hw : StW B st := ⟨.inl (by rw [hF]; exact .inl rfl), .inl (by rw [hF]; exact .inr rfl)⟩
  have hs3 := hc.s
  have hh1 := hc.h
  have hcz := hc.z
  show Tr _ B [some (rV (.ref st.p)), some (rCd c), none, none, none, none, none, none, none] (stC st) _ D
  refine tr_if (dt_cmp (op_eqD hr.units) (de_dget (hu_of hr) (de_var 1) dv_d de_str (cd_c c)) (ne_lst (Rs := []) da_nil (Nat.zero_le _)).de (opv_eqNil (df := dC) (n := 1) (rd_L fun d _ => rd_C d).m (fun d _ => sh_C d) (by decide))) (fun hb => ?_) fun hb => tr_go ?_
  · exact tr_ret (R := rCd c) (de_var 1) fun v σ G H st2 r => hD.rt (st, c) v _ _ σ G H ⟨(StNx.refl ok).mono (Nat.zero_le _), hc.ok, rfl, by omega, by omega⟩ st2 st2.mem r
  · have hne : 0 < c.clauses.length := by
      rcases Nat.eq_zero_or_pos c.clauses.length with e | e
      · rw [List.eq_nil_of_length_eq_zero e] at hb; cases hb
      · exact e
    refine tr_par2 2 3 sc_l_parted.nd (xe_draw (s := st) (m := c.clauses.length) (Rst := []) Fd hr (de_var 0) (DE.is (de_callB cr_len bi.len (by decide +kernel) (da_cons (de_dget (hu_of hr) (de_var 1) dv_d de_str (cd_c c)) da_nil) (clv_len sv_l)) (by rw [List.length_map])) hne (by omega) ok (by omega) hw (List.Perm.refl _)) (fun z hz => xe_fresh (s := z.1) (taken := c.signs ++ c.helpers) (Rst := []) Ff hr (by rw [← hz.1.p]; exact (de_var 0)) (DE.is (ne_op op_cat (de_dget (hu_of hr) (de_var 1) dv_d de_str (cd_s c)) (de_dget (hu_of hr) (de_var 1) dv_d de_str (cd_h c)) (opn_cat lv_l lv_l (by rw [List.length_map, List.length_map]; omega))).de (by rw [rNm_app])) (by rw [List.length_append]; omega) hz.1.ok (by have := hz.1.n; omega) (hw.nx hz.1) (List.Perm.refl _)) ?_
    rintro ⟨s1, at_⟩ ⟨s2, name⟩ ⟨nx1, hat⟩ ⟨nx2, hfr⟩
    have hat : at_ < c.clauses.length := hat
    have nn1 : s1.n ≤ st.n + 1 := nx1.n
    have nn2 : s2.n ≤ s1.n + 12 := nx2.n
    have nx12 : StNx st s2 13 := nx1.trans nx2
    have hda : c.clauses[at_]? = some c.clauses[at_] := List.getElem?_eq_getElem hat
    have hdm : c.clauses[at_] ∈ c.clauses := List.getElem_mem hat
    generalize c.clauses[at_] = d at hda hdm
    have hd := hc.ok.cls d hdm
    have hd4 := hd.len
    rw [List.length_append] at hd4
    refine tr_par2 4 5 sc_l_parted.nd (xe_mixed (s := s2) (R := rC d) (rs := d.map rLt) (Rst := []) Fm hr (by rw [← nx12.p]; exact (de_var 0)) (de_ix ix_list (de_dget (hu_of hr) (de_var 1) dv_d de_str (cd_c c)) (de_var 2) (opv_ixL lv_l (atI_map hda))) (fun _ => sv_t) (by rw [List.length_map]; omega) nx12.ok (by rw [List.length_map]; omega) (hw.nx nx12) (List.Perm.refl _)) (fun z hz => xe_pick (s := z.1) (rs := (both name).map rLt) (Rst := []) Fp hr (by rw [← nx12.p, ← hz.1.p]; exact (de_var 0)) (ne_lst (Rs := (both name).map rLt) (da_cons (de_var 3) (da_cons (de_minus (de_var 3)) da_nil)) (two_small name)).de (show 0 < 2 by decide) (show 2 ≤ 1000 by decide) hz.1.ok (by have := hz.1.n; rw [List.length_map] at this; omega) ((hw.nx nx12).nx hz.1) (List.Perm.refl _)) ?_
    rintro ⟨s3, ys⟩ ⟨s4, k⟩ ⟨nx3, hperm⟩ ⟨nx4, hk⟩
    obtain ⟨d', hp', rfl⟩ := perm_map_inv hperm
    obtain ⟨b, hb2⟩ := both_at name k hk
    have nn3 : s3.n ≤ s2.n + (d.map rLt).length := nx3.n
    rw [List.length_map] at nn3
    have nn4 : s4.n ≤ s3.n + 1 := nx4.n
    have nx14 : StNx st s4 18 := by
      have := (nx12.trans nx3).trans nx4
      refine this.mono ?_
      rw [List.length_map]; omega
    have hd'l : d'.length = d.length := hp'.length_eq
    show Tr _ B ((([some (rV (.ref st.p)), some (rCd c), some (rI (at_ : Nat)), some (rNm name), none, none, none, none, none] : Sl).set 4 (some (rL (d'.map rLt)))).set 5 (some (((both name).map rLt).getD k rN))) (stC s4 ++ []) _ D
    obtain ⟨l1, hl1⟩ : ∃ l : Lit, l = ⟨b, name⟩ := ⟨_, rfl⟩
    rw [hb2, ← hl1]
    show Tr _ B [some (rV (.ref st.p)), some (rCd c), some (rI (at_ : Nat)), some (rNm name), some (rL (d'.map rLt)), some (rLt l1), none, none, none] (stC s4) _ D
    refine tr_setX 6 sc_l_parted.nd (xe_draw (s := s4) (m := d'.length + 1) (Rst := []) Fd hr (by rw [← nx14.p]; exact (de_var 0)) (DE.is (de_op op_add (de_callB cr_len bi.len (by decide +kernel) (da_cons (de_var 4) da_nil) (clv_len sv_l)) de_int opv_II0) (by rw [List.length_map]; show rI _ = rI _; rw [Int.natCast_add]; rfl)) (by omega) (by omega) nx14.ok (by omega) (hw.nx nx14) (List.Perm.refl _)) ?_
    rintro ⟨s5, size⟩ ⟨nx5, hsz⟩
    have nx15 : StNx st s5 19 := nx14.trans nx5
    have hns : (c.signs ++ c.helpers ++ [name]).Nodup := nodup_end hc.ok.nod hfr
    refine tr_set (R := rL ((c.signs ++ c.helpers ++ [name]).map rNm)) 7 sc_l_parted.nd (DE.is (ne_op op_cat (ne_op op_cat (de_dget (hu_of hr) (de_var 1) dv_d de_str (cd_s c)) (de_dget (hu_of hr) (de_var 1) dv_d de_str (cd_h c)) (opn_cat lv_l lv_l (by rw [List.length_map, List.length_map]; omega))).de (ne_lst (Rs := [rNm name]) (da_cons (de_var 3) da_nil) (by simp)).de (opn_cat lv_l lv_l (by rw [List.length_append, List.length_map, List.length_map]; show _ + 1 ≤ 100000; omega))).de (show rL _ = rL _ by rw [List.map_append, List.map_append]; rfl)) ?_
    have hE1 : ∀ (x : Lit) (l : Cl Nm), rL (l.map rLt ++ [rLt x]) = rL ((l ++ [x]).map rLt) := fun x l => by rw [rLt_snoc]
    refine tr_set (R := rL ((tagC (c.clauses.take at_) ++ [(rL ((d'.take size ++ [l1]).map rLt), d'.take size ++ [l1]), (rL ((d'.drop size ++ [l1.neg]).map rLt), d'.drop size ++ [l1.neg])] ++ tagC (c.clauses.drop (at_ + 1))).map Prod.fst)) 8 sc_l_parted.nd (DE.is (ne_op op_cat (ne_op op_cat (DE.is (ne_slice sl_list (de_dget (hu_of hr) (de_var 1) dv_d de_str (cd_c c)) do_none (do_some (de_var 2)) (sln_list lv_l)).de (by rw [cutR_map, cutR_to])) (ne_lst (Rs := [rL ((d'.take size ++ [l1]).map rLt), rL ((d'.drop size ++ [l1.neg]).map rLt)]) (da_cons (DE.is (ne_op op_cat (DE.is (ne_slice sl_list (de_var 4) do_none (do_some (de_var 6)) (sln_list lv_l)).de (by rw [cutR_map, cutR_to])) (ne_lst (Rs := [rLt l1]) (da_cons (de_var 5) da_nil) (by simp)).de (opn_cat lv_l lv_l ?_)).de (hE1 _ _)) (da_cons (DE.is (ne_op op_cat (DE.is (ne_slice sl_list (de_var 4) (do_some (de_var 6)) do_none (sln_list lv_l)).de (by rw [cutR_map, cutR_from])) (ne_lst (Rs := [rLt l1.neg]) (da_cons (de_call (R := rLt l1.neg) Fn hr l1 (da_cons (de_var 5) da_nil) trivial fun _ _ _ _ r => r) da_nil) (by simp)).de (opn_cat lv_l lv_l ?_)).de (hE1 _ _)) da_nil)) (by simp)).de (opn_cat lv_l lv_l ?_)).de (DE.is (ne_slice sl_list (de_dget (hu_of hr) (de_var 1) dv_d de_str (cd_c c)) (do_some (DE.is (de_op op_add (de_var 2) de_int opv_II0) (show _ = rI ((at_ + 1 : Nat) : Int) from by show rI _ = rI _; rw [Int.natCast_add]; rfl))) do_none (sln_list lv_l)).de (by rw [cutR_map, cutR_from])) (opn_cat lv_l lv_l ?_)).de ?_) ?_
    · rw [List.length_map, List.length_take]; show _ + 1 ≤ 100000; omega
    · rw [List.length_map, List.length_drop]; show _ + 1 ≤ 100000; omega
    · rw [List.length_map, List.length_take]; show _ + 2 ≤ 100000; omega
    · rw [List.length_append, List.length_map, List.length_map, List.length_take, List.length_drop]; show _ + 2 + _ ≤ 100000; omega
    · exact congrArg rL (tagE_fst (c.clauses.take at_) (c.clauses.drop (at_ + 1)) (rL ((d'.take size ++ [l1]).map rLt), d'.take size ++ [l1]) (rL ((d'.drop size ++ [l1.neg]).map rLt), d'.drop size ++ [l1.neg])).symm
    · have hlen : (tagC (c.clauses.take at_) ++ [(rL ((d'.take size ++ [l1]).map rLt), d'.take size ++ [l1]), (rL ((d'.drop size ++ [l1.neg]).map rLt), d'.drop size ++ [l1.neg])] ++ tagC (c.clauses.drop (at_ + 1))).length = c.clauses.length + 1 := by
        rw [List.length_append, List.length_append]
        unfold tagC
        rw [List.length_map, List.length_map, List.length_take, List.length_drop]
        show _ + 2 + _ = _
        omega
      have hcn : name ∉ d.map Lt.nm := fun h => by
        obtain ⟨l, hl, e⟩ := List.mem_map.mp h
        exact hfr (e ▸ hd.2 l hl)
      have hd'n : (d'.map Lt.nm).Nodup := (hp'.map Lt.nm).nodup_iff.mpr hd.1
      have hcn' : name ∉ d'.map Lt.nm := fun h => hcn ((hp'.map Lt.nm).subset h)
      generalize hE : (tagC (c.clauses.take at_) ++ [(rL ((d'.take size ++ [l1]).map rLt), d'.take size ++ [l1]), (rL ((d'.drop size ++ [l1.neg]).map rLt), d'.drop size ++ [l1.neg])] ++ tagC (c.clauses.drop (at_ + 1))) = E at hlen
      have hEs : ∀ e ∈ E, (∀ MP, SVp MP e.1 (e.2.map rLt)) ∧ Con e.2 := fun e he => by
        rw [← hE] at he
        rcases List.mem_append.mp he with he | he
        · rcases List.mem_append.mp he with he | he
          · refine ⟨tagC_sv e he, ?_⟩
            obtain ⟨x, hx, rfl⟩ := List.mem_map.mp he
            exact (hc.ok.cls x (List.mem_of_mem_take hx)).con
          · rcases List.mem_cons.mp he with e1 | he
            · subst e1; exact ⟨fun _ => sv_l, hl1 ▸ pcon_ext hd'n (List.take_sublist _ _) hcn'⟩
            · have e1 := List.mem_singleton.mp he
              subst e1; exact ⟨fun _ => sv_l, hl1 ▸ pcon_ext hd'n (List.drop_sublist _ _) hcn'⟩
        · refine ⟨tagC_sv e he, ?_⟩
          obtain ⟨x, hx, rfl⟩ := List.mem_map.mp he
          exact (hc.ok.cls x (List.mem_of_mem_drop hx)).con
      refine tr_ret (R := rCd ⟨c.signs, c.helpers ++ [name], onceM (E.map Prod.snd) (c.signs ++ c.helpers ++ [name])⟩) (NE.de (ne_disp (dp_cons de_str (de_dget (hu_of hr) (de_var 1) dv_d de_str (cd_s c)) (dp_cons de_str (DE.is (ne_op op_cat (de_dget (hu_of hr) (de_var 1) dv_d de_str (cd_h c)) (ne_lst (Rs := [rNm name]) (da_cons (de_var 3) da_nil) (by simp)).de (opn_cat lv_l lv_l (by rw [List.length_map]; show _ + 1 ≤ 100000; omega))).de (show rL _ = rL ((c.helpers ++ [name]).map rNm) by rw [List.map_append]; rfl)) (dp_cons de_str (de_call (R := rCs (onceM (E.map Prod.snd) (c.signs ++ c.helpers ++ [name]))) Fo hr (rL (E.map Prod.fst), [], E, c.signs ++ c.helpers ++ [name]) (da_cons (de_var 8) (da_cons (de_var 7) da_nil)) ⟨sv_l, fun e he => (hEs e he).1, by show E.length ≤ 10000; omega, ?_⟩ fun _ _ _ _ r => r) dp_nil))) (show (["signs", "helpers", "clauses"] : List Str).Nodup by decide) (show 3 ≤ 15 by decide))) fun v σ G H st2 r => ?_
      · show (c.signs ++ c.helpers ++ [name]).length ≤ 1000
        rw [List.length_append, List.length_append]; show _ + _ + 1 ≤ 1000; omega
      · refine hD.rt (s5, ⟨c.signs, c.helpers ++ [name], onceM (E.map Prod.snd) (c.signs ++ c.helpers ++ [name])⟩) v _ _ σ G H ⟨nx15.mono (by show 19 ≤ 20; decide), ⟨?_, ?_⟩, rfl, ?_, ?_⟩ st2 st2.mem r
        · show (c.signs ++ (c.helpers ++ [name])).Nodup
          rw [← List.append_assoc]; exact hns
        · intro x hx
          show ClOk (c.signs ++ (c.helpers ++ [name])) x
          rw [← List.append_assoc]
          refine once_ok (fun y hy => ?_) hns x hx
          obtain ⟨e, he, rfl⟩ := List.mem_map.mp hy
          exact (hEs e he).2
        · show (c.helpers ++ [name]).length ≤ _
          rw [List.length_append]; exact Nat.le_refl _
        · show (onceM (E.map Prod.snd) _).length ≤ c.clauses.length + 1
          have := onceM_len (E.map Prod.snd) (c.signs ++ c.helpers ++ [name])
          rw [List.length_map] at this
          omega
end
end KL

/-! KF12 -/
namespace KL
open PySem PySem.Spec PyProof.Rows L2 KM
theorem LVw.weak {M M' : List Cell} {R : Rp} {rs : List Rp} (h : LVw M R rs) (k : ∀ G H, Mem G H M' → Mem G H M) : LVw M' R rs := fun G H v s m r => h G H v s (k G H m) r
theorem perm_back {c d x : Cell} {L : List Cell} : (c :: d :: x :: L).Perm (x :: c :: d :: L) := perm_front.symm
theorem getD_map' {α : Type} {f : α → Rp} {xs : List α} {k : Nat} (h : k < xs.length) : (xs.map f).getD k rN = f xs[k] := by
  rw [List.getD_eq_getElem?_getD, List.getElem?_map, List.getElem?_eq_getElem h]; rfl
theorem nodup_set {α : Type} [DecidableEq α] {n : α} : ∀ {xs : List α} {i : Nat}, xs.Nodup → n ∉ xs → (xs.set i n).Nodup
  | [], _, _, _ => .nil
  | x :: xs, 0, h, hn => by
    rw [List.nodup_cons] at h
    rw [List.set_cons_zero, List.nodup_cons]
    exact ⟨fun m => hn (List.mem_cons_of_mem _ m), h.2⟩
  | x :: xs, i + 1, h, hn => by
    rw [List.nodup_cons] at h
    rw [List.set_cons_succ, List.nodup_cons]
    refine ⟨fun m => ?_, nodup_set h.2 fun m => hn (List.mem_cons_of_mem _ m)⟩
    rcases List.mem_or_eq_of_mem_set m with m | m
    · exact h.1 m
    · exact hn (m ▸ List.mem_cons_self)
section
variable {P : Program} {w : World} {K : PySem.W.Frag} {mg : Str → Option Value} {base : Heap}
structure BrG where
  st : StS
  Rc : Rp
  Rt : Rp
  M0 : List Cell
  codes : List Cd
  taken : List Nm
structure BrP (g : BrG) : Prop where
  sv : SVp (memP g.M0) g.Rc (g.codes.map rCd)
  lv : LVw g.M0 g.Rt (g.taken.map rNm)
  cz : g.codes.length ≤ 100
  cs : ∀ c ∈ g.codes, c.signs.length ≤ 3
  tz : g.taken.length ≤ 100
  dis : ∀ n ∈ webNames g.codes, n ∉ g.taken
structure BrQ (g : BrG) (xs : List Nm) : Prop where
  lo : 1 ≤ xs.length
  hi : xs.length ≤ 3
  nod : xs.Nodup
  tk : ∀ x ∈ xs, x ∉ g.taken
  one : ∀ x ∈ xs, ∀ y ∈ xs, x ∈ webNames g.codes → y ∈ webNames g.codes → x = y
abbrev c_branch : Ct := c_st (γ := BrG) (α := List Nm) (fun g => g.st) (fun _ => 60) (fun g => [g.Rc, g.Rt, rI 3]) (fun g => g.M0) BrP BrQ fun _ xs => rL (xs.map rNm)
theorem dn_l_branch (bi : BI mg) (F : DefAt K mg "_law_branch" s_l_branch) (Fd : Dn P w K mg base "_law_draw" 1 p_l_draw c_draw) (Ff : Dn P w K mg base "_law_fresh" 3 p_l_fresh c_fresh) (Fp : Dn P w K mg base "_law_pick" 2 p_l_pick c_pick) (Fw : Dn P w K mg base "_law_web_names" 1 p_l_web_names c_webNames) : Dn P w K mg base "_law_branch" 4 p_l_branch c_branch := by
  refine dn_mk F sc_l_branch (fun _ => rfl) (fun _ _ _ _ _ _ us hl => match us, hl with | [_, _, _, _], _ => rfl) fun f cdv A outer s H E B D (g : BrG) hr hz hF hP hD => ?_
  obtain ⟨st, Rc, Rt, M0, codes, taken⟩ := g
  obtain ⟨ok, hn, hb⟩ := hz
  have hn : st.n + 60 ≤ 1000000 := hn
  have Fd := Fd.mono (show 1 ≤ 3 by decide)
  have Fp := Fp.mono (show 2 ≤ 3 by decide)
  have Fw := Fw.mono (show 1 ≤ 3 by decide)
  have hw : StW B st := ⟨.inl (by rw [hF]; exact .inl rfl), .inl (by rw [hF]; exact .inr rfl)⟩
  have hcz : codes.length ≤ 100 := hb.cz
  have htz : taken.length ≤ 100 := hb.tz
  have hnl : (webNames codes).length ≤ 300 := Nat.le_trans (webNames_len hb.cs) (by omega)
  have hdis : ∀ n ∈ webNames codes, n ∉ taken := hb.dis
  have hlv : LVw M0 Rt (taken.map rNm) := hb.lv
  show Tr _ B [some (rV (.ref st.p)), some Rc, some Rt, some (rI 3), none, none, none] (stC st ++ M0) _ D
  refine tr_set (R := rL ((webNames codes).map rNm)) 4 sc_l_branch.nd (de_call Fw hr (Rc, M0, codes) (da_cons (de_var 1) da_nil) ⟨hb.sv, hb.cz, hb.cs⟩ (fun _ _ _ _ r => r) (hM := fun G H m => mem_right m)) ?_
  generalize hnames : webNames codes = names at hnl hdis
  refine tr_own 5 sc_l_branch.nd (ne_lst da_nil (Nat.zero_le _)) fun a ha => ?_
  refine Tr.perm (M' := cL a [] :: (stC st ++ M0)) ?_ List.perm_append_comm
  have fin : ∀ (s1 : StS) (xs : List Nm), StNx st s1 60 → BrQ ⟨st, Rc, Rt, M0, codes, taken⟩ xs → Tr (KX P w K mg base n_l_branch "_law_branch" (defScope s_l_branch) f cdv A outer s H E) B [some (rV (.ref st.p)), some Rc, some Rt, some (rI 3), some (rL (names.map rNm)), some (rV (.ref a)), none] (cL a (xs.map rNm) :: (stC s1 ++ M0)) ((defBody s_l_branch).drop 4) D := by
    intro s1 xs nx q
    refine tr_pub 5 0 ha rfl rfl ?_
    exact tr_ret (R := rL (xs.map rNm)) (de_var 5) fun v σ G H st2 r => hD.rt (s1, xs) v _ _ σ G H ⟨nx, q⟩ st2 st2.mem r
  refine tr_range (α := StS × Nat) (P := fun z => StNx st z.1 1 ∧ z.2 < 3) (T := StS × List Nm) (n := fun z => z.2 + 1) (M1 := fun z => cL a [] :: (stC z.1 ++ M0)) 6 sc_l_branch.nd bi.range (XE.to (xe_op op_add de_int.xe (fun _ _ => xe_draw (s := st) (m := 3) (Rst := cL a [] :: M0) Fd hr (de_var 0) (de_var 3) (by decide) (by decide) ok (by omega) hw perm_front) fun _ _ _ _ => opv_II0) (fun z => z.2) (fun z hz => hz.2) (fun z hz => ?_) fun z hz => perm_back) (fun z hz => by have := hz.2; omega) (fun _ _ => [some (rV (.ref st.p)), some Rc, some Rt, some (rI 3), some (rL (names.map rNm)), some (rV (.ref a)), none]) (fun z t => cL a (t.2.map rNm) :: (stC t.1 ++ M0)) (fun z i t => StNx z.1 t.1 (12 * i) ∧ t.2.length = i ∧ t.2.Nodup ∧ ∀ x ∈ t.2, x ∉ taken ∧ x ∉ names) (fun z => (z.1, [])) (fun z hz => ⟨StNx.refl hz.1.ok, rfl, .nil, fun x hx => by cases hx⟩) (fun _ _ => ⟨rfl, rfl, rfl, rfl, rfl, rfl, trivial⟩) (fun _ _ => rfl) ?_ ?_
  · show rI _ = rI _
    rw [Int.natCast_add, Int.add_comm]; rfl
  · rintro ⟨s0, k0⟩ i ⟨s1, xs⟩ ⟨nx0, hk0⟩ hi ⟨nx1, hl, hnd, hx⟩ D' hn' hrt
    have hi : i < k0 + 1 := hi
    have hk0 : k0 < 3 := hk0
    have nn0 : s0.n ≤ st.n + 1 := nx0.n
    have nn1 : s1.n ≤ s0.n + 12 * i := nx1.n
    have hl : xs.length = i := hl
    have nx01 := nx0.trans nx1
    refine tr_dropX (xe_append (a := a) (rs := xs.map rNm) (j := 0) (P := fun z : StS × Nm => StNx s1 z.1 12 ∧ z.2 ∉ taken ++ names ++ xs) (S := fun z : StS × Nm => rNm z.2) (M' := fun z : StS × Nm => cL a (xs.map rNm) :: (stC z.1 ++ M0)) (de_var 5) rfl (XE.to (xe_fresh (s := s1) (taken := taken ++ names ++ xs) (Rst := cL a (xs.map rNm) :: M0) Ff hr (by rw [← nx0.p, ← nx1.p]; exact (de_var 0)) (DE.is (ne_op op_cat (ne_op op_cat (de_var 2) (de_var 4) (opn_cat (hlv.weak fun G H m => mem_right (M := cL a (xs.map rNm) :: stC s1) m) lv_l (by rw [List.length_map, List.length_map]; omega))).de (de_var 5) (opn_cat lv_l (lv_c List.mem_cons_self) (by rw [List.length_append, List.length_map, List.length_map, List.length_map]; omega))).de (show rL _ = rL _ by rw [List.map_append, List.map_append])) (by rw [List.length_append, List.length_append]; omega) nx1.ok (by omega) ((hw.nx nx0).nx nx1) perm_front) id (fun _ h => h) (fun _ _ => rfl) fun _ _ => perm_back) (.inr ha) (by rw [List.length_map]; omega) (fun _ _ => rfl)) fun z hz => ?_
    obtain ⟨s2, n⟩ := z
    obtain ⟨nx2, hf⟩ := hz
    have hf : n ∉ taken ++ names ++ xs := hf
    rw [List.mem_append, List.mem_append] at hf
    show Tr _ B _ (cL a (xs.map rNm ++ [rNm n]) :: (stC s2 ++ M0)) _ _
    rw [show xs.map rNm ++ [rNm n] = (xs ++ [n]).map rNm by rw [List.map_append]; rfl]
    refine tr_nil fun σ G H st2 => hn' (s2, xs ++ [n]) ⟨(nx1.trans nx2).mono (by omega), by show (xs ++ [n]).length = i + 1; rw [List.length_append, hl]; rfl, nodup_end hnd fun h => hf (.inr h), fun x hx2 => ?_⟩ σ G H (st2.less ⟨rfl, rfl, rfl, rfl, rfl, rfl, trivial⟩)
    rcases List.mem_append.mp hx2 with h | h
    · exact hx x h
    · have e : x = n := by simpa using h
      rw [e]
      exact ⟨fun h => hf (.inl (.inl h)), fun h => hf (.inl (.inr h))⟩
  · rintro ⟨s0, k0⟩ ⟨s1, xs⟩ ⟨nx0, hk0⟩ ⟨nx1, hl, hnd, hx⟩
    have hk0 : k0 < 3 := hk0
    have nn0 : s0.n ≤ st.n + 1 := nx0.n
    have nn1 : s1.n ≤ s0.n + 12 * (k0 + 1) := nx1.n
    have hl : xs.length = k0 + 1 := hl
    have nx01 : StNx st s1 37 := (nx0.trans nx1).mono (by show 1 + 12 * (k0 + 1) ≤ 37; omega)
    have nn01 := nx01.n
    have hfresh : ∀ s2, StNx st s2 60 → Tr (KX P w K mg base n_l_branch "_law_branch" (defScope s_l_branch) f cdv A outer s H E) B [some (rV (.ref st.p)), some Rc, some Rt, some (rI 3), some (rL (names.map rNm)), some (rV (.ref a)), none] (cL a (xs.map rNm) :: (stC s2 ++ M0)) ((defBody s_l_branch).drop 4) D := fun s2 nx => fin s2 xs nx ⟨by show 1 ≤ xs.length; omega, by show xs.length ≤ 3; omega, hnd, fun x h => (hx x h).1, fun x h y _ hxw _ => absurd (hnames ▸ hxw) (hx x h).2⟩
    refine tr_ifX (α := StS × Bool) (P := fun z => StNx s1 z.1 1 ∧ (z.2 = true → names ≠ [])) (b := fun z => z.2) (M' := fun z => cL a (xs.map rNm) :: (stC z.1 ++ M0)) (xt_and (α := Unit) (P := fun _ => True) (d := fun _ => !names.isEmpty) (M1 := fun _ => cL a (xs.map rNm) :: (stC s1 ++ M0)) (dt_cmp (op_neD hr.units) (de_var 4) (ne_lst (Rs := []) da_nil (Nat.zero_le _)).de (opv_neNil (df := dNm) (n := 0) (rd_L fun d _ => rd_nm d).m (fun d _ => sh_nm d) (by decide))).xt (fun _ _ hne => XT.to (xt_cmp op_gt (xe_draw (s := s1) (m := 5) (Rst := cL a (xs.map rNm) :: M0) Fd hr (by rw [← nx01.p]; exact (de_var 0)) de_int (by decide) (by decide) nx01.ok (by omega) (hw.nx nx01) perm_front) (fun _ _ => de_int.xe) fun z _ _ _ => opv_II0) (fun z => (z.1.1, decide ((0 : Int) < z.1.2))) (fun z hz => ⟨hz.1.1, fun _ e => by rw [e] at hne; cases hne⟩) (fun _ _ => rfl) fun _ _ => perm_back) (fun _ _ hne => ⟨(s1, false), ⟨(StNx.refl nx01.ok).mono (Nat.zero_le _), fun h => by cases h⟩, rfl, rfl⟩)) ?_ ?_
    · rintro ⟨s2, bb⟩ ⟨nx2, hne⟩ hbb
      have nx02 := nx01.trans nx2
      have nn2 : s2.n ≤ s1.n + 1 := nx2.n
      have hne : names ≠ [] := hne hbb
      have hpos : 0 < names.length := List.length_pos_iff.mpr hne
      refine tr_setItem (a := a) (rs := xs.map rNm) (α := StS × Nat) (P := fun z => StNx s2 z.1 1 ∧ z.2 < (names.map rNm).length) (S := fun z => (names.map rNm).getD z.2 rN) (M' := fun z => cL a (xs.map rNm) :: (stC z.1 ++ M0)) (β := StS × Nat) (P2 := fun z y => StNx z.1 y.1 1 ∧ y.2 < xs.length) (M2 := fun _ y => cL a (xs.map rNm) :: (stC y.1 ++ M0)) (ii := fun _ y => y.2) 0 (XE.to (xe_pick (s := s2) (rs := names.map rNm) (Rst := cL a (xs.map rNm) :: M0) Fp hr (by rw [← nx02.p]; exact (de_var 0)) (de_var 4) (by rw [List.length_map]; exact hpos) (by rw [List.length_map]; omega) nx02.ok (by omega) (hw.nx nx02) perm_front) id (fun _ h => h) (fun _ _ => rfl) fun _ _ => perm_back) (fun _ _ => de_var 5) (fun z hz => XE.to (xe_draw (s := z.1) (m := xs.length) (Rst := cL a (xs.map rNm) :: M0) Fd hr (by rw [← nx02.p, ← hz.1.p]; exact (de_var 0)) (DE.is (de_callB cr_len bi.len (by decide +kernel) (da_cons (de_var 5) da_nil) (clv_len (sv_m (rs := xs.map rNm) List.mem_cons_self))) (by rw [List.length_map])) (by omega) (by omega) hz.1.ok (by have := hz.1.n; omega) ((hw.nx nx02).nx hz.1) perm_front) id (fun _ h => h) (fun _ _ => rfl) fun _ _ => perm_back) (fun z y _ hy => by rw [List.length_map]; exact hy.2) (fun _ _ _ _ => rfl) (.inr ha) (by rw [List.length_map]; omega) ?_
      rintro ⟨s3, k3⟩ ⟨s4, k4⟩ ⟨nx3, hk3⟩ ⟨nx4, hk4⟩
      have hk3 : k3 < names.length := by have h : k3 < (names.map rNm).length := hk3; rwa [List.length_map] at h
      show Tr _ B _ (cL a ((xs.map rNm).set k4 ((names.map rNm).getD k3 rN)) :: (stC s4 ++ M0)) _ _
      rw [getD_map' hk3, ← List.map_set]
      have hmem : names[k3] ∈ names := List.getElem_mem hk3
      generalize names[k3] = n at hmem
      have hnx : n ∉ xs := fun h => (hx n h).2 hmem
      have hms : ∀ x, x ∈ xs.set k4 n → x ∈ xs ∨ x = n := fun x h => List.mem_or_eq_of_mem_set h
      refine tr_go (fin s4 (xs.set k4 n) (((nx02.trans nx3).trans nx4).mono (by show 37 + 1 + 1 + 1 ≤ 60; decide)) ⟨by rw [List.length_set]; omega, by rw [List.length_set]; omega, nodup_set hnd hnx, fun x h => ?_, fun x h y h2 hxw hyw => ?_⟩)
      · rcases hms x h with h | h
        · exact (hx x h).1
        · rw [h]; exact hdis n hmem
      · have e : ∀ x, x ∈ xs.set k4 n → x ∈ webNames codes → x = n := fun x h hw2 => by
          rcases hms x h with h | h
          · exact absurd (hnames ▸ hw2) (hx x h).2
          · exact h
        rw [e x h hxw, e y h2 hyw]
    · rintro ⟨s2, bb⟩ ⟨nx2, hne⟩ hbb
      exact tr_go (hfresh s2 ((nx01.trans nx2).mono (by show 37 + 1 ≤ 60; decide)))
end
end KL

/-! KF13 -/
namespace KL
open PySem PySem.Spec PyProof.Rows L2 KM
theorem neg_ok {ns : List Nm} {d : Cl Nm} (h : ClOk ns d) : ClOk ns (d.map Lt.neg) := ⟨by rw [List.map_map]; exact h.1, fun l hl => by
  obtain ⟨k, hk, rfl⟩ := List.mem_map.mp hl
  exact h.2 k hk⟩
theorem full_ok {ns : List Nm} {d : Cl Nm} (hn : ns.Nodup) (h : d ∈ fulls ns) : ClOk ns d := ⟨by rw [mem_fulls.mp h]; exact hn, fun l hl => by
  rw [← mem_fulls.mp h]; exact List.mem_map.mpr ⟨l, hl, rfl⟩⟩
theorem short_ok {ns : List Nm} {T : List (Cl Nm)} {d : Cl Nm} (hn : ns.Nodup) (h : d ∈ shortC ns T) : ClOk ns d :=
  ⟨(shortC_sub hn h).nodup hn, fun l hl => (shortC_sub hn h).subset (List.mem_map.mpr ⟨l, hl, rfl⟩)⟩
theorem rOL_non {o : Option (Cl Nm)} {G : Hp} {v : V} (h : (rOL o).p G v) : decide (v = .non) = o.isNone := by
  cases o with
  | none => have h : v = .non := h; simp [h]
  | some L => exact rOf_notN (W := wL (L.map rLt)) h
section
variable {P : Program} {w : World} {K : PySem.W.Frag} {mg : Str → Option Value} {base : Heap}
section
variable {X : Cx} {B : Base} {ρ : Sl} {M : List Cell} {a b : Expr} {pos p : Pos} {k : Nat}
theorem xe_parted {s : StS} {c : Cd} {Rst : List Cell} (F : Dn X.prog X.w X.K X.mg X.base "_law_parted" k p_l_parted c_parted) (hr : Room k X.A) (ha : DE X B ρ M a (rV (.ref s.p))) (hb : DE X B ρ M b (rCd c)) (h1 : PaP c) (hok : StOk s) (hn : s.n + 20 ≤ 1000000) (hw : StW B s) (hM : M.Perm (stC s ++ Rst))
    (hg : Gl X "_law_parted" := by rfl) (he : starEach [a, b] X.env = (false, eval a X.env) :: starEach [b] X.env := by rfl) (he2 : starEach [b] X.env = (false, eval b X.env) :: starEach [] X.env := by rfl) (hpl : (backTo pos (starEach [b] X.env)).any (·.1) = false := by rfl) :
    XE X B ρ M (.Call (.Name "_law_parted" p) [a, b] [] pos) (fun z : StS × Cd => StNx s z.1 20 ∧ CdOk z.2 ∧ z.2.signs = c.signs ∧ z.2.helpers.length ≤ c.helpers.length + 1 ∧ z.2.clauses.length ≤ c.clauses.length + 1) (fun z => rCd z.2) (fun z => stC z.1 ++ Rst) :=
  xe_st (g := (s, c)) F hr (da_cons ha (da_cons hb da_nil he2) he) hok hn h1 hw hM hg (by decide) he hpl
end
abbrev c_dead : Ct := c_st (γ := StS × List Nm) (α := Cd × List (Cl Nm)) (fun g => g.1) (fun _ => 400) (fun g => [rL (g.2.map rNm), rI 1]) (fun _ => []) (fun g => g.2.Nodup ∧ g.2.length ≤ 3) (fun g z => CdOk z.1 ∧ z.1.signs = g.2 ∧ z.1.helpers.length ≤ 1 ∧ z.1.clauses.length ≤ 900) fun _ z => rT [rCd z.1, rCs z.2]
theorem dn_l_dead (bi : BI mg) (F : DefAt K mg "_law_dead_code" s_l_dead_code) (Fd : Dn P w K mg base "_law_draw" 1 p_l_draw c_draw) (Fu : Dn P w K mg base "_law_fulls" 1 p_l_fulls c_fulls) (Fs : Dn P w K mg base "_law_shortest" 3 p_l_shortest c_shortest) (Fn : Dn P w K mg base "_law_neg" 1 p_l_neg c_neg) (Fc : Dn P w K mg base "_law_chase" 2 p_l_chase c_chase) (Fo : Dn P w K mg base "_law_once" 2 p_l_once c_once) (Fp : Dn P w K mg base "_law_parted" 4 p_l_parted c_parted) : Dn P w K mg base "_law_dead_code" 5 p_l_dead_code c_dead := by
  refine dn_mk F sc_l_dead_code (fun _ => rfl) (fun _ _ _ _ _ _ us hl => match us, hl with | [_, _, _], _ => rfl) fun f cdv A outer s H E B D (g : StS × List Nm) hr hz hF hP hD => ?_
  obtain ⟨st, S⟩ := g
  obtain ⟨ok, hn, hnd, hS⟩ := hz
  have hn : st.n + 400 ≤ 1000000 := hn
  have hS : S.length ≤ 3 := hS
  have hnd : S.Nodup := hnd
  have Fd := Fd.mono (show 1 ≤ 4 by decide)
  have Fu := Fu.mono (show 1 ≤ 4 by decide)
  have Fs := Fs.mono (show 3 ≤ 4 by decide)
  have Fn := Fn.mono (show 1 ≤ 4 by decide)
  have Fc := Fc.mono (show 2 ≤ 4 by decide)
  have Fo := Fo.mono (show 2 ≤ 4 by decide)
  have hw : StW B st := ⟨.inl (by rw [hF]; exact .inl rfl), .inl (by rw [hF]; exact .inr rfl)⟩
  have hfl : (fulls S).length ≤ 8 := by
    rw [fulls_len]
    exact Nat.pow_le_pow_right (n := 2) (by decide) hS
  show Tr _ B [some (rV (.ref st.p)), some (rL (S.map rNm)), some (rI 1), none, none, none, none, none, none, none, none, none] (stC st) _ D
  refine tr_unp (α := Addr × (StS × Nat)) (P := fun z => B.H z.1 = none ∧ (StNx st z.2.1 1 ∧ z.2.2 < 5)) (R1 := fun z => rV (.ref z.1)) (R2 := fun z => rI (z.2.2 : Nat)) (M' := fun z => stC z.2.1 ++ [cL z.1 []]) 3 4 sc_l_dead_code.nd (xe_tup (Rs := fun z : Addr × (StS × Nat) => [rV (.ref z.1), rI (z.2.2 : Nat)]) (xa_2 (NE.xo (W := wL []) (ne_lst da_nil (Nat.zero_le _))) fun a ha => xe_draw (s := st) (m := 5) (Rst := [cL a []]) Fd hr (de_var 0) de_int (by decide) (by decide) ok (by omega) hw (List.Perm.refl _)) fun _ => by simp) ?_
  rintro ⟨a, s1, share⟩ ⟨ha, nx1, hsh⟩
  refine Tr.perm (M' := cL a [] :: stC s1) ?_ perm_back
  have nn1 : s1.n ≤ st.n + 1 := nx1.n
  refine tr_for (S := StS × List (Cl Nm)) (α := Cl Nm) 5 PassesOwn.never sc_l_dead_code.nd (de_call (R := rCs (fulls S)) Fu hr (rL (S.map rNm), S) (da_cons (de_var 1) da_nil) ⟨fun _ => sv_l, by show S.length ≤ 8; omega⟩ fun _ _ _ _ r => r) (fun _ => [some (rV (.ref st.p)), some (rL (S.map rNm)), some (rI 1), some (rV (.ref a)), some (rI (share : Nat)), none, none, none, none, none, none, none]) (fun t => cL a (t.2.map rC) :: stC t.1) (fun i t => StNx s1 t.1 i ∧ t.2.length ≤ i ∧ ∀ c ∈ t.2, c ∈ fulls S) (s1, []) (fulls S) rC sv_l ⟨StNx.refl nx1.ok, Nat.le_refl _, fun c hc => by cases hc⟩ ⟨rfl, rfl, rfl, rfl, rfl, trivial⟩ rfl ?_ ?_
  · rintro P2 pm2 i c ⟨s2, al⟩ hi ⟨nx2, hl, hsub⟩ D' hn' hrt
    have hi8 : i < 8 := by
      have := (List.getElem?_eq_some_iff.mp hi).1
      omega
    have nn2 : s2.n ≤ s1.n + i := nx2.n
    have hl : al.length ≤ i := hl
    refine tr_ifX (xt_cmp op_lt (xe_draw (s := s2) (m := 4) (Rst := [cL a (al.map rC)]) Fd hr (by rw [← nx1.p, ← nx2.p]; exact (de_var 0)) de_int (by decide) (by decide) nx2.ok (by omega) ((hw.nx nx1).nx nx2) perm_front) (fun _ _ => (de_var 4).xe) fun _ _ _ _ => opv_II0) ?_ ?_
    · rintro ⟨⟨s3, k⟩, _⟩ ⟨⟨nx3, _⟩, _⟩ _
      refine Tr.perm (M' := cL a (al.map rC) :: stC s3) ?_ perm_back
      refine tr_append 0 (de_var 3) (de_var 5) rfl (.inr ha) (by rw [List.length_map]; omega) ?_
      rw [rCs_snoc]
      refine tr_go (tr_nil fun σ G H st2 => hn' (s3, al ++ [c]) ⟨nx2.trans nx3, by show (al ++ [c]).length ≤ i + 1; rw [List.length_append]; show _ + 1 ≤ _; omega, fun d hd => ?_⟩ σ G H (st2.less ⟨rfl, rfl, rfl, rfl, rfl, trivial⟩))
      rcases List.mem_append.mp hd with hd | hd
      · exact hsub d hd
      · have e : d = c := by simpa using hd
        rw [e]; exact List.mem_of_getElem? hi
    · rintro ⟨⟨s3, k⟩, _⟩ ⟨⟨nx3, _⟩, _⟩ _
      refine Tr.perm (M' := cL a (al.map rC) :: stC s3) ?_ perm_back
      exact tr_go (tr_nil fun σ G H st2 => hn' (s3, al) ⟨nx2.trans nx3, by show al.length ≤ i + 1; omega, hsub⟩ σ G H (st2.less ⟨rfl, rfl, rfl, rfl, rfl, trivial⟩))
  rintro ⟨s2, al⟩ ⟨nx2, hal, hsub⟩
  have nn2 : s2.n ≤ s1.n + (fulls S).length := nx2.n
  have hal : al.length ≤ (fulls S).length := hal
  have nx12 : StNx st s2 9 := (nx1.trans nx2).mono (by omega)
  have nn12 := nx12.n
  refine tr_pub 3 0 ha rfl rfl ?_
  refine tr_set (R := rCs (shortC S al)) 6 sc_l_dead_code.nd (de_call Fs hr (S, al) (da_cons (de_var 1) (da_cons (de_var 3) da_nil)) ⟨hS, by show al.length ≤ 10000; omega, fun t ht => by rw [full_len (hsub t ht)]; omega⟩ fun _ _ _ _ r => r) ?_
  have hsl := shortC_len (T := al) hS
  have hsok : ∀ d ∈ shortC S al, ClOk S d := fun d hd => short_ok hnd hd
  generalize shortC S al = sh at hsl hsok
  have R3 : ∀ (b : Addr) (hb : B.H b = none) (cls : List (Cl Nm)) (s3 : StS), (∀ d ∈ cls, ClOk S d) → cls.length ≤ 343 → StNx st s3 354 → Tr (KX P w K mg base n_l_dead_code "_law_dead_code" (defScope s_l_dead_code) f cdv A outer s H E) B [some (rV (.ref st.p)), some (rL (S.map rNm)), some (rI 1), some (rCs al), none, none, some (rCs sh), none, some (rV (.ref b)), none, none, none] (cL b (cls.map rC) :: stC s3) ((defBody s_l_dead_code).drop 7) D := by
    intro b hb cls s3 hcok hcl nx3
    have nn3 := nx3.n
    refine tr_for (S := List (Cl Nm)) (α := Cl Nm) 5 PassesOwn.never sc_l_dead_code.nd (de_var 6) (fun _ => [some (rV (.ref st.p)), some (rL (S.map rNm)), some (rI 1), some (rCs al), none, none, some (rCs sh), none, some (rV (.ref b)), none, none, none]) (fun t => cL b (t.map rC) :: stC s3) (fun i t => t.length ≤ 343 + i ∧ ∀ c ∈ t, ClOk S c) cls sh rC sv_l ⟨hcl, hcok⟩ ⟨rfl, rfl, rfl, rfl, rfl, rfl, trivial⟩ rfl ?_ ?_
    · rintro P2 pm2 i c t hi ⟨htl, htok⟩ D' hn' hrt
      have hi3 : i < 343 := by
        have := (List.getElem?_eq_some_iff.mp hi).1
        omega
      have hcs := neg_ok (hsok c (List.mem_of_getElem? hi))
      have hc3 := (hsok c (List.mem_of_getElem? hi)).len
      refine tr_ifX (α := Option (Cl Nm) × Unit) (P := fun z => ChPost (ChG.mk (rV (.ref b)) [cL b (t.map rC)] t (rL ((c.map Lt.neg).map rLt)) (c.map Lt.neg) S) z.1 ∧ True) (b := fun z => z.1.isSome) (M' := fun _ => cL b (t.map rC) :: stC s3) (xt_cmp (d := fun (z : Option (Cl Nm)) (_ : Unit) => z.isSome) (P := ChPost (ChG.mk (rV (.ref b)) [cL b (t.map rC)] t (rL ((c.map Lt.neg).map rLt)) (c.map Lt.neg) S)) (Sa := rOL) (M1 := fun _ => cL b (t.map rC) :: stC s3) (P2 := fun _ _ => True) (M2 := fun _ _ => cL b (t.map rC) :: stC s3) (Sb := fun _ _ => rN) op_isNotNo ?_ (fun _ _ => de_non.xe) fun z _ _ _ => (opv_isNotN (c := z.isNone) fun G v h => rOL_non h).is (by cases z <;> rfl)) ?_ ?_
      · exact xe_callR (c := c_chase) (g := ChG.mk (rV (.ref b)) [cL b (t.map rC)] t (rL ((c.map Lt.neg).map rLt)) (c.map Lt.neg) S) Fc hr (da_cons (de_var 8) (da_cons (DE.is (NE.de (ne_lc (α := Lit) 11 sc_l_dead_code.nd c rLt (fun l => rLt l.neg) (de_var 5) sv_t (by omega) fun l hl _ _ _ _ _ => de_call (R := rLt l.neg) Fn hr l (da_cons (de_var 11) da_nil) trivial fun _ _ _ _ r => r)) (show rL _ = rL _ by rw [List.map_map]; rfl)) da_nil)) ⟨sv_m List.mem_cons_self, fun _ => sv_l, hcs.con, hcs.nodup, hcs.2, fun d hd => (htok d hd).2, by show S.length ≤ 1000; omega, fun d hd => by have := (htok d hd).len; omega⟩ (hM := fun G H m => m.sub (List.sublist_append_left [cL b (t.map rC)] (stC s3)))
      · rintro ⟨z, _⟩ _ _
        refine tr_append 0 (de_var 8) (de_var 5) rfl (.inr hb) (by rw [List.length_map]; omega) ?_
        rw [rCs_snoc]
        refine tr_go (tr_nil fun σ G H st2 => hn' (t ++ [c]) ⟨by rw [List.length_append]; show t.length + 1 ≤ _; omega, fun d hd => ?_⟩ σ G H (st2.less ⟨rfl, rfl, rfl, rfl, rfl, rfl, trivial⟩))
        rcases List.mem_append.mp hd with hd | hd
        · exact htok d hd
        · have e : d = c := by simpa using hd
          rw [e]; exact hsok c (List.mem_of_getElem? hi)
      · rintro ⟨z, _⟩ _ _
        exact tr_go (tr_nil fun σ G H st2 => hn' t ⟨by omega, htok⟩ σ G H (st2.less ⟨rfl, rfl, rfl, rfl, rfl, rfl, trivial⟩))
    rintro t ⟨htl, htok⟩
    have hol := onceM_len t S
    refine tr_set (R := rCd ⟨S, [], onceM t S⟩) 9 sc_l_dead_code.nd (NE.de (ne_disp (dp_cons de_str (NE.de (ne_callTy cr_list bi.list (by decide +kernel) (da_cons (de_var 1) da_nil) (cln_list (rs := S.map rNm) sv_l))) (dp_cons de_str (NE.de (ne_lst (Rs := []) da_nil (Nat.zero_le _))) (dp_cons de_str (de_call (R := rCs (onceM t S)) Fo hr (rV (.ref b), [cL b (t.map rC)], tagC t, S) (da_cons (de_var 8) (da_cons (de_var 1) da_nil)) ⟨by rw [tagC_fst]; exact sv_m List.mem_cons_self, tagC_sv, by show (tagC t).length ≤ 10000; unfold tagC; rw [List.length_map]; omega, by show S.length ≤ 1000; omega⟩ (fun _ _ _ _ r => by have r : (rCs (onceM ((tagC t).map Prod.snd) S)).p _ _ := r; rw [tagC_snd] at r; exact r) (hM := fun G H m => m.sub (List.sublist_append_left [cL b (t.map rC)] (stC s3)))) dp_nil))) (show (["signs", "helpers", "clauses"] : List Str).Nodup by decide) (show 3 ≤ 15 by decide))) ?_
    refine Tr.drop (M' := stC s3) ?_ (List.sublist_cons_self _ _)
    refine tr_range (α := StS × Nat) (P := fun z => StNx s3 z.1 1 ∧ z.2 < 2) (T := StS × Cd) (n := fun z => z.2) (M1 := fun z => stC z.1 ++ []) 10 sc_l_dead_code.nd bi.range (xe_draw (s := s3) (m := 2) (Rst := []) Fd hr (by rw [← nx3.p]; exact (de_var 0)) (DE.is (de_op op_add (de_var 2) de_int opv_II0) (show _ = rI ((2 : Nat) : Int) from rfl)) (by decide) (by decide) nx3.ok (by omega) (hw.nx nx3) (List.Perm.refl _)) (fun z hz => by have := hz.2; omega) (fun _ t => [some (rV (.ref st.p)), some (rL (S.map rNm)), some (rI 1), some (rCs al), none, none, none, none, none, some (rCd t.2), none, none]) (fun _ t => stC t.1) (fun z i t => StNx z.1 t.1 (20 * i) ∧ CdOk t.2 ∧ t.2.signs = S ∧ t.2.helpers.length ≤ i ∧ t.2.clauses.length ≤ 690 + i) (fun z => (z.1, ⟨S, [], onceM t S⟩)) (fun z hz => ⟨StNx.refl hz.1.ok, ⟨by show (S ++ []).Nodup; rw [List.append_nil]; exact hnd, fun d hd => by show ClOk (S ++ []) d; rw [List.append_nil]; exact once_ok (fun d hd => (htok d hd).con) hnd d hd⟩, rfl, Nat.le_refl _, by show (onceM t S).length ≤ 690 + 0; omega⟩) (fun _ _ => ⟨rfl, rfl, rfl, rfl, rfl, trivial⟩) (fun z _ => (List.append_nil (stC z.1)).symm) ?_ ?_
    · rintro ⟨s4, k4⟩ i ⟨s5, c⟩ ⟨nx4, hk4⟩ hi ⟨nx5, hcd, hcS, hch, hcz⟩ D' hn' hrt
      have hk4 : k4 < 2 := hk4
      have hi : i < k4 := hi
      have nn4 : s4.n ≤ s3.n + 1 := nx4.n
      have nn5 : s5.n ≤ s4.n + 20 * i := nx5.n
      have hcS : c.signs = S := hcS
      have hch : c.helpers.length ≤ i := hch
      have hcz : c.clauses.length ≤ 690 + i := hcz
      have hS2 : c.signs.length ≤ 3 := by rw [hcS]; exact hS
      refine tr_setX 9 sc_l_dead_code.nd (xe_parted (s := s5) (c := c) (Rst := []) Fp hr (by rw [← nx3.p, ← nx4.p, ← nx5.p]; exact (de_var 0)) (de_var 9) ⟨hcd, hS2, by omega, by omega⟩ nx5.ok (by omega) (((hw.nx nx3).nx nx4).nx nx5) (by rw [List.append_nil])) ?_
      rintro ⟨s6, c2⟩ ⟨nx6, hcd2, hs2, hh2, hz2⟩
      have hs2 : c2.signs = c.signs := hs2
      have hh2 : c2.helpers.length ≤ c.helpers.length + 1 := hh2
      have hz2 : c2.clauses.length ≤ c.clauses.length + 1 := hz2
      exact tr_nil fun σ G H st2 => hn' (s6, c2) ⟨(nx5.trans nx6).mono (by show 20 * i + 20 ≤ 20 * (i + 1); omega), hcd2, hs2.trans hcS, by show c2.helpers.length ≤ i + 1; omega, by show c2.clauses.length ≤ 690 + (i + 1); omega⟩ σ G H (st2.less ⟨rfl, rfl, rfl, rfl, rfl, trivial⟩)
    · rintro ⟨s4, k4⟩ ⟨s5, c⟩ ⟨nx4, hk4⟩ ⟨nx5, hcd, hcS, hch, hcz⟩
      have hk4 : k4 < 2 := hk4
      have hch : c.helpers.length ≤ k4 := hch
      have hcz : c.clauses.length ≤ 690 + k4 := hcz
      exact tr_ret (R := rT [rCd c, rCs al]) (NE.de (ne_tup (Rs := [rCd c, rCs al]) (da_cons (de_var 9) (da_cons (de_var 3) da_nil)) (by simp))) fun v σ G H st2 r => hD.rt (s5, (c, al)) v _ _ σ G H ⟨((nx3.trans nx4).trans nx5).mono (by show 354 + 1 + 20 * k4 ≤ 400; omega), hcd, hcS, by show c.helpers.length ≤ 1; omega, by show c.clauses.length ≤ 900; omega⟩ st2 (by have := st2.mem; exact this) r
  have R2 : ∀ (b : Addr) (hb : B.H b = none) (cls : List (Cl Nm)) (s3 : StS) (k3 : Nat), (∀ d ∈ cls, ClOk S d) → cls.length ≤ 343 → StNx st s3 11 → Tr (KX P w K mg base n_l_dead_code "_law_dead_code" (defScope s_l_dead_code) f cdv A outer s H E) B [some (rV (.ref st.p)), some (rL (S.map rNm)), some (rI 1), some (rCs al), none, none, some (rCs sh), some (rI (k3 : Nat)), some (rV (.ref b)), none, none, none] (cL b (cls.map rC) :: stC s3) ((defBody s_l_dead_code).drop 6) D := by
    intro b hb cls s3 k3 hcok hcl nx3
    have nn3 := nx3.n
    refine tr_if (dt_cmp op_eq (de_var 7) de_int eqI) (fun hk => ?_) (fun hk => ?_)
    · refine Tr.drop (M' := stC s3) ?_ (List.sublist_cons_self _ _)
      refine tr_lcX (α := Unit) (P := fun _ => True) (n := fun _ => (sh.map rC).length) (rf := fun _ i => (sh.map rC).getD i rN) (M' := fun _ => stC s3) (S := StS × List (Cl Nm)) (T := (StS × Nat) × Unit × List (Cl Nm) × Nat) 8 5 sc_l_dead_code.nd (ix_seq' (de_var 6) fun _ => sv_l) (fun t => t.2.map rC) (fun t => stC t.1) (fun _ i t => StNx s3 t.1 i ∧ t.2.length ≤ i ∧ ∀ c ∈ t.2, ClOk S c) (fun _ => (s3, [])) (fun _ _ => ⟨StNx.refl nx3.ok, Nat.le_refl _, fun c hc => by cases hc⟩) (fun _ => rfl) (fun _ => rfl) (fun _ i t u => StNx t.1 u.1.1 1 ∧ u.2.2.1 = t.2) (fun u => decide ((0 : Int) < u.1.2)) (fun u => stC u.1.1) ?_ ?_ ?_ ?_ ?_ ?_
      · rintro _ i ⟨s4, t⟩ _ hi ⟨nx4, htl, htok⟩ D0 _ _ _ _ _
        have hi : i < sh.length := by have h : i < (sh.map rC).length := hi; rwa [List.length_map] at h
        have nn4 : s4.n ≤ s3.n + i := nx4.n
        exact XT.to (xt_cmp op_gt (xe_draw (s := s4) (m := 3) (Rst := [D0]) Fd hr (by rw [← nx3.p, ← nx4.p]; exact (de_var 0)) de_int (by decide) (by decide) nx4.ok (by omega) ((hw.nx nx3).nx nx4) perm_front) (fun _ _ => de_int.xe) fun _ _ _ _ => opv_II0) (fun u => (u.1, (), t, 0)) (fun u hu => ⟨hu.1.1, rfl⟩) (fun _ _ => rfl) fun _ _ => perm_back
      · rintro _ i ⟨s4, t⟩ ⟨⟨s5, k5⟩, _, t', _⟩ _ hi ⟨nx4, htl, htok⟩ ⟨nx5, et⟩ _
        have hi : i < sh.length := by have h : i < (sh.map rC).length := hi; rwa [List.length_map] at h
        refine ⟨(s5, t ++ [sh[i]]), rC sh[i], ⟨nx4.trans nx5, by show (t ++ [sh[i]]).length ≤ i + 1; rw [List.length_append]; exact Nat.succ_le_succ htl, fun c hc => ?_⟩, (rCs_snoc _ _).symm, rfl, fun D0 _ _ _ _ _ => by rw [getD_map' hi]; exact de_var 5⟩
        rcases List.mem_append.mp hc with hc | hc
        · exact htok c hc
        · have e : c = sh[i] := by simpa using hc
          rw [e]; exact hsok _ (List.getElem_mem hi)
      · rintro _ i ⟨s4, t⟩ ⟨⟨s5, k5⟩, _, t', _⟩ _ hi ⟨nx4, htl, htok⟩ ⟨nx5, et⟩ _
        exact ⟨(s5, t), ⟨nx4.trans nx5, Nat.le_succ_of_le htl, htok⟩, rfl, rfl⟩
      · intro _ i t h
        show (t.2.map rC).length ≤ i
        rw [List.length_map]; exact h.2.1
      · intro _ _
        show (sh.map rC).length ≤ 100000
        rw [List.length_map]; omega
      · rintro _ b2 ⟨s4, t⟩ _ hb2 ⟨nx4, htl, htok⟩
        have nn4 : s4.n ≤ s3.n + (sh.map rC).length := nx4.n
        have htl : t.length ≤ (sh.map rC).length := htl
        rw [List.length_map] at nn4 htl
        refine tr_go (Tr.less (R3 b2 hb2 t s4 htok (by omega) ((nx3.trans nx4).mono (by show 11 + (sh.map rC).length ≤ 354; rw [List.length_map]; omega))) ⟨rfl, rfl, rfl, rfl, rfl, rfl, trivial⟩)
    · exact tr_go (Tr.less (R3 b hb cls s3 hcok hcl (nx3.mono (by decide))) ⟨rfl, rfl, rfl, rfl, rfl, rfl, trivial⟩)
  refine tr_setX 7 sc_l_dead_code.nd (xe_draw (s := s2) (m := 3) (Rst := []) Fd hr (by rw [← nx12.p]; exact (de_var 0)) de_int (by decide) (by decide) nx12.ok (by omega) (hw.nx nx12) (List.Perm.refl _)) ?_
  rintro ⟨s3, k3⟩ ⟨nx3, hk3⟩
  have nx13 : StNx st s3 11 := (nx12.trans nx3).mono (by decide)
  refine tr_own 8 sc_l_dead_code.nd (ne_callTy cr_list bi.list (by decide +kernel) (da_cons (de_var 6) da_nil) (cln_list (rs := sh.map rC) sv_l)) fun b hb => ?_
  refine Tr.perm (M' := cL b (sh.map rC) :: stC s3) ?_ perm_back
  refine tr_if (dt_cmp op_eq (de_var 7) de_int eqI) (fun hk => ?_) fun hk => ?_
  case refine_2 => exact tr_go (Tr.less (R2 b hb sh s3 k3 hsok hsl nx13) ⟨rfl, rfl, rfl, rfl, rfl, rfl, rfl, trivial⟩)
  refine Tr.drop (M' := stC s3) ?_ (List.sublist_cons_self _ _)
  refine tr_ownLcIf (α := Cl Nm) 8 5 sc_l_dead_code.nd (fulls S) rC (fun c => rC (c.map Lt.neg)) (fun c => !decide (c ∈ al)) (de_call (R := rCs (fulls S)) Fu hr (rL (S.map rNm), S) (da_cons (de_var 1) da_nil) ⟨fun _ => sv_l, by show S.length ≤ 8; omega⟩ fun _ _ _ _ r => r) sv_l (by omega) (fun c hc _ _ _ _ _ => dt_cmp (op_notInD (hu65 hr)) (de_var 5) (de_var 3) (opv_notInC (RdD.m (rd_L fun c _ => rd_C c)))) (fun c hc hb2 _ _ _ _ _ => ?_) fun b2 hb2 => ?_
  · have hc3 := full_len hc
    refine DE.is (de_callTy cr_tuple bi.tuple (by decide +kernel) (da_cons (NE.de (ne_lc (α := Lit) 11 sc_l_dead_code.nd c rLt (fun l => rLt l.neg) (de_var 5) sv_t (by omega) fun l hl _ _ _ _ _ => de_call (R := rLt l.neg) Fn hr l (da_cons (de_var 11) da_nil) trivial fun _ _ _ _ r => r)) da_nil) (clv_tuple lv_l)) (show rT _ = rT _ by rw [List.map_map]; rfl)
  · refine Tr.perm (M' := cL b2 (((((fulls S).filter fun c => !decide (c ∈ al)).map fun c => c.map Lt.neg)).map rC) :: stC s3) ?_ ?_
    · have hcls : ∀ d ∈ (((fulls S).filter fun c => !decide (c ∈ al)).map fun c => c.map Lt.neg), ClOk S d := fun d hd => by
        obtain ⟨c, hc, rfl⟩ := List.mem_map.mp hd
        exact neg_ok (full_ok hnd (List.mem_filter.mp hc).1)
      have hcll : (((fulls S).filter fun c => !decide (c ∈ al)).map fun c => c.map Lt.neg).length ≤ 343 := by
        rw [List.length_map]
        have := List.length_filter_le (fun c => !decide (c ∈ al)) (fulls S)
        omega
      have hR := R2 b2 hb2 _ s3 k3 hcls hcll nx13
      exact tr_go (Tr.less hR ⟨rfl, rfl, rfl, rfl, rfl, rfl, rfl, trivial⟩)
    · rw [List.map_map]
      exact perm_back
end
end KL

/-! KZip -/
/-! enumerate of a tuple, zip of a tuple with a list. -/
namespace KL
open PySem PySem.Spec PyProof.Rows L2 KM
theorem meets_enum1 {v : Value} {o : Obj} {H : Heap → Prop} (B : Begins v o H) :
    Meets (Builtin.«enumerate.__new__» ⟨[.type "enumerate", v], []⟩) (fun _ R s => H s.heap ∧
      R (.ok (.ret (.ref (s.heap.push o).objs.size))) { s with heap := (s.heap.push o).push { cls := .type "enumerate", data := .fields #[.none, .bool false, .ref s.heap.objs.size, rawInt 0, .none, .none] } }) :=
  .of_wp fun prog w A R s h => by
    obtain ⟨hp, g, d, tk, os⟩ := s; obtain ⟨h1, h⟩ := h
    have hsub := sub_enumerate
    have q1 : ∀ {A' : Around} {E : Value → Shared → Prop} {Q : Value → Shared → Prop}, Q (.ref hp.objs.size) ⟨hp.push o, g, d, tk, os⟩ → wpAny (model prog w) A' (pyIter v) Q E ⟨hp, g, d, tk, os⟩ :=
      fun q => B.iter prog w _ _ ⟨hp, g, d, tk, os⟩ _ h1 q
    wp_walk using q1
    refine wpAny_stack_any fun st => wpAny_pure ?_
    split
    · rename_i c _ _ _ _ _
      cases (c == Value.type "enumerate")
      · wp_walk using q1
        exact ⟨_, rfl, h⟩
      · wp_walk using q1
        exact ⟨_, rfl, h⟩
    · wp_walk using q1
      exact ⟨_, rfl, h⟩
section
variable {prog : Program} {w : World} {A : Around} {E : Value → Shared → Prop} {s : Shared}
theorem call_enum1 {v : Value} {o : Obj} {H : Heap → Prop} {Q : Value → Shared → Prop} (B : Begins v o H) (h1 : H s.heap)
    (h : ∀ h', IsEnum h' (s.heap.objs.size + 1) s.heap.objs.size 0 .none → h'.get? s.heap.objs.size = some o → h'.objs.size = s.heap.objs.size + 2 →
      (∀ b o, s.heap.get? b = some o → h'.get? b = some o) → Q (.ref (s.heap.objs.size + 1)) { s with heap := h' }) :
    wpAny (model prog w) A (PySem.call (.type "enumerate") [v]) Q E s := by
  refine callType_new F.called_enumerate (by decide) (F.typeCall_enumerate_1 _) (F.newCall_enumerate_1 _) (fun obj => F.args_object_init_2 obj _) F.entry_enumerate_new
    (meets_enum1 B) ⟨h1, ?_⟩
  have hz : (s.heap.push o).objs.size = s.heap.objs.size + 1 := Heap.size_push ..
  show _ ∧ _
  rw [hz]
  have he : IsEnum ((s.heap.push o).push { cls := .type "enumerate", data := .fields #[.none, .bool false, .ref s.heap.objs.size, rawInt 0, .none, .none] }) (s.heap.objs.size + 1) s.heap.objs.size 0 .none := by
    have := Heap.get?_push_size (s.heap.push o) (o := { cls := .type "enumerate", data := .fields #[.none, .bool false, .ref s.heap.objs.size, rawInt 0, .none, .none] }) rfl
    rw [hz] at this; exact this
  refine ⟨⟨_, he, rfl⟩, h _ he (Heap.get?_push_of_some _ (Heap.get?_push_size _ B.free)) (by rw [Heap.size_push, hz]) fun b o x => Heap.get?_push_of_some _ (Heap.get?_push_of_some _ x)⟩
end
/-- the tuple at a, each item in a new pair with its place -/
def ItE (K : PySem.W.Frag) (a : Addr) : It :=
  ⟨fun i H => ∃ (xs : List V) (x : V), SqT K H a xs ∧ xs[i]? = some x, fun i H v H' => ∃ T x, v = .ref T ∧ H T = none ∧ H' = upd H T (.tup [.int (i : Nat), x]) ∧ ∀ xs, SqT K H a xs → xs[i]? = some x, fun i H => ∃ xs : List V, SqT K H a xs ∧ xs.length = i⟩
theorem turn_enumT {P : Program} {w : World} {K : PySem.W.Frag} {elts : List Expr} {kk : Nat} {tpos : Pos} (a e it : Addr) (hai : a ≠ it) (hea : e ≠ a) :
    Turn P w K (.Tuple elts kk tpos) (ItE K a) [e, it] e (fun i h => (∃ old, IsEnum h e it ((i : Nat) : Int) old) ∧ h.IsTupleIter it a i ∧ e ≠ it) where
  mem := by simp
  obj := fun i h st b hb => by
    obtain ⟨⟨old, he⟩, ⟨o, ho, hc, hd⟩, _⟩ := st
    have e' : b = e ∨ b = it := by simpa using hb
    rcases e' with z | z
    · rw [z]; exact ⟨_, he, fun v q => nomatch q⟩
    · rw [z]; exact ⟨o, ho, fun v q => by rw [hd] at q; cases q⟩
  keep := fun i h h' st k => let ⟨⟨old, he⟩, hi, hne⟩ := st; ⟨⟨old, k e (by simp) _ he⟩, hi.at fun o q => k it (by simp) o q, hne⟩
  item := by
    intro X hP hw hK hc i pins s σ H E I hf st hg
    subst hP hw hK
    obtain ⟨⟨old, he⟩, hit, hne⟩ := st
    obtain ⟨xs, x, hq, hx⟩ := hg
    obtain ⟨its, rv, p, hz⟩ := I.tuple hq
    obtain ⟨u, hu, ru⟩ := rv.get hx
    have hel : e < s.heap.objs.size := Heap.lt_size he
    have hil : it < s.heap.objs.size := by obtain ⟨_, q, _⟩ := hit; exact Heap.lt_size q
    have hlt : i < its.toArray.size := by
      have := (List.getElem?_eq_some_iff.mp hu).1
      simpa using this
    refine wpAny_pyNext_enum_itemD (Draws.tuple (show X.A.in1.handled = none from I.ok.hd hc) it a hai its.toArray) he ⟨hit, (show s.heap.IsTuple a its.toArray from p)⟩ hlt hne (by simp; exact ⟨hne, hea⟩) fun x' h' tk hx' ho hit' hT hsz hk => ?_
    have ex : x' = u := by
      have e1 : its[i]? = some x' := by simpa using hx'
      rw [hu] at e1; exact (Option.some.inj e1).symm
    subst ex
    refine ⟨_, rfl, wpAny_letOwnedTupleGo_enum (s := { s with heap := h', toks := tk + 1 }) ho fun h'' he' sb => ?_⟩
    have hT2 : h''.get? s.heap.objs.size = some { cls := .type "tuple", data := .seq #[.int i tk, x'] } := (sb.2 _ (Nat.ne_of_gt hel)).trans hT
    have new : ObjOk X.prog X.w (upd H s.heap.objs.size (.tup [.int (i : Nat), x])) h'' s.heap.objs.size (.tup [.int (i : Nat), x]) :=
      ⟨by show 2 ≤ sizeLine; decide, [.int i tk, x'], .cons ⟨_, rfl⟩ (.cons ru .nil), ⟨_, hT2, rfl, _, rfl⟩⟩
    have I1 : Inv X pins σ (upd H s.heap.objs.size (.tup [.int (i : Nat), x])) { s with heap := h'', toks := tk + 1 } :=
      I.turnedNew (ch := [e, it]) (fun b ob hb q => (sb.2 b (fun z => hb (by simp [z]))).trans (hk b ob (fun z => hb (by simp [z])) (fun z => hb (by simp [z])) q)) hf (Nat.le_refl _) new
    refine ⟨.ref s.heap.objs.size, _, I1, rfl, ⟨_, x, rfl, I.hok.fresh (Nat.le_refl _), rfl, fun ys hy => by rw [I.tuple_inj hy hq]; exact hx⟩, ⟨⟨x', ?_⟩, hit'.1.at fun o q => (sb.2 it (Ne.symm hne)).trans q, hne⟩, fun b hb => ?_⟩
    · have e1 : ((i + 1 : Nat) : Int) = (i : Int) + 1 := by omega
      rw [e1]; exact he'
    · have hb' : b < s.heap.objs.size := by
        have e' : b = e ∨ b = it := by simpa using hb
        rcases e' with z | z
        · rw [z]; exact hel
        · rw [z]; exact hil
      rw [upd_ne (Nat.ne_of_lt hb')]
      exact (hf b hb).1
  done := by
    intro X hP hw hK hc i pins s σ H E I hf st hg
    subst hP hw hK
    obtain ⟨⟨old, he⟩, hit, hne⟩ := st
    obtain ⟨xs, hq, hx⟩ := hg
    obtain ⟨its, rv, p, hz⟩ := I.tuple hq
    obtain ⟨f0, f1, f2, f3, f4, f5⟩ := hf it (by simp)
    have hl := rv.length
    have e1 : i = its.toArray.size := by simp; omega
    refine wpAny_pyNext_enum_endD (Draws.tuple (show X.A.in1.handled = none from I.ok.hd hc) it a hai its.toArray) he ⟨e1 ▸ hit, (show s.heap.IsTuple a its.toArray from p)⟩ fun h' eb => ⟨rfl, I.turned (t' := s.toks) (fun b o hb q => eb b o hb q) f0 f1 f3 f4 f5⟩
  self := fun A i s Q E st h => let ⟨⟨_, he⟩, _⟩ := st; wpAny_pyIter_enum he h
def iEnumT (K : PySem.W.Frag) (ta : TA) : TI := fun σ H R => ta σ H fun vs H1 => ∃ a xs, vs = [.ref a] ∧ SqT K H1 a xs ∧ R (ItE K a) H1
theorem pi_enumT {X : Cx} {e : Expr} {ta : TA} {p pos tpos : Pos} {elts : List Expr} {kk : Nat} (hg : Gl X "enumerate") (hm : X.mg "enumerate" = none) (ha : PA X [e] ta) (hs : starEach [e] X.env = [(false, eval e X.env)] := by rfl) :
    PI X (.Tuple elts kk tpos) (.Call (.Name "enumerate" p) [e] [] pos) (iEnumT X.K ta) := by
  refine ⟨fun pins s σ H R I h => ?_⟩
  refine Call_ (ld_blt I hg hm boot_enumerate (PyProof.Rows.callWith_type1 (thn (ha.run pos pins s σ H _ I h) fun us s1 ⟨vs, H1, I1, r1, q1⟩ => ?_) hs rfl))
  obtain ⟨a, xs, ex, hq, q⟩ := q1
  subst ex
  cases r1 with
  | cons r rr =>
    cases rr
    cases r
    obtain ⟨its, rv, p', hz⟩ := I1.tuple hq
    obtain ⟨oa, hoa, _⟩ := id p'
    have hal : a < s1.heap.objs.size := Heap.lt_size hoa
    refine call_enum1 (begins_tuple a its.toArray) (show s1.heap.IsTuple a its.toArray from p') fun h' he hit hsz hk => wpAny_pyIter_enum he ?_
    have I2 : Inv X pins σ H1 { s1 with heap := h' } := I1.kept (t' := s1.toks) hk
    refine ⟨s1.heap.objs.size + 1, [s1.heap.objs.size + 1, s1.heap.objs.size], _, _, H1, rfl, I2, turn_enumT a (s1.heap.objs.size + 1) s1.heap.objs.size (Nat.ne_of_lt hal) (Nat.ne_of_gt (Nat.lt_succ_of_lt hal)), ⟨⟨.none, he⟩, ⟨_, hit, rfl, rfl⟩, Nat.succ_ne_self _⟩, fun b hb => ?_, q⟩
    have e' : b = s1.heap.objs.size + 1 ∨ b = s1.heap.objs.size := by simpa using hb
    have hle : s1.heap.objs.size ≤ b := by
      rcases e' with z | z
      · rw [z]; exact Nat.le_add_right _ _
      · rw [z]; exact Nat.le_refl _
    exact I1.fpOk hle (I1.hok.fresh hle)
/-- the tuple at a, the list at b, the items in new pairs -/
def ItZ (K : PySem.W.Frag) (a b : Addr) : It :=
  ⟨fun i H => ∃ (xs ys : List V) (x y : V), SqT K H a xs ∧ SqL K H b ys ∧ xs[i]? = some x ∧ ys[i]? = some y,
    fun i H v H' => ∃ T x y, v = .ref T ∧ H T = none ∧ H' = upd H T (.tup [x, y]) ∧ (∀ xs, SqT K H a xs → xs[i]? = some x) ∧ ∀ ys, SqL K H b ys → ys[i]? = some y,
    fun i H => ∃ xs ys : List V, SqT K H a xs ∧ SqL K H b ys ∧ xs.length = i ∧ ys.length = i⟩
theorem turn_zipM {P : Program} {w : World} {K : PySem.W.Frag} {elts : List Expr} {kk : Nat} {tpos : Pos} {a b z TI TO i1 i2 : Addr} (S : ZipSep2 z TI TO i1 i2 [i1, a] [i2, b]) (ha : a ≠ i1) (hb : b ≠ i2) :
    Turn P w K (.Tuple elts kk tpos) (ItZ K a b) [z, TI, TO, i1, i2] z (fun i h => IsZip h z TI TO .none ∧ IsTupOf2 h TI (.ref i1) (.ref i2) ∧ (∃ x y, IsTupOf2 h TO x y) ∧ h.IsTupleIter i1 a i ∧ h.IsListIter i2 b i) where
  mem := by simp
  obj := fun i h st c hc => by
    obtain ⟨hz, hTI, ⟨x, y, hTO⟩, ⟨o1, e1, _, d1⟩, ⟨o2, e2, _, d2⟩⟩ := st
    have e' : c = z ∨ c = TI ∨ c = TO ∨ c = i1 ∨ c = i2 := by simpa using hc
    rcases e' with q | q | q | q | q
    · rw [q]; exact ⟨_, hz, fun v q => nomatch q⟩
    · rw [q]; exact ⟨_, hTI, fun v q => nomatch q⟩
    · rw [q]; exact ⟨_, hTO, fun v q => nomatch q⟩
    · rw [q]; exact ⟨o1, e1, fun v q => by rw [d1] at q; cases q⟩
    · rw [q]; exact ⟨o2, e2, fun v q => by rw [d2] at q; cases q⟩
  keep := fun i h h' st k => by
    obtain ⟨hz, hTI, ⟨x, y, hTO⟩, h1, h2⟩ := st
    exact ⟨k z (by simp) _ hz, k TI (by simp) _ hTI, ⟨x, y, k TO (by simp) _ hTO⟩, h1.at fun o q => k i1 (by simp) o q, h2.at fun o q => k i2 (by simp) o q⟩
  item := by
    intro X hP hw hK hc i pins s σ H E I hf st hg
    subst hP hw hK
    obtain ⟨hz, hTI, ⟨x0, y0, hTO⟩, h1, h2⟩ := st
    obtain ⟨xs, ys, x, y, hqx, hqy, hx, hy⟩ := hg
    obtain ⟨its, rv, p, _⟩ := I.tuple hqx
    obtain ⟨its2, rv2, p2, _⟩ := I.list hqy
    obtain ⟨u, hu, ru⟩ := rv.get hx
    obtain ⟨u2, hu2, ru2⟩ := rv2.get hy
    have hzl : z < s.heap.objs.size := Heap.lt_size hz
    have hlt : i < its.toArray.size := by
      have := (List.getElem?_eq_some_iff.mp hu).1
      simpa using this
    have hlt2 : i < its2.toArray.size := by
      have := (List.getElem?_eq_some_iff.mp hu2).1
      simpa using this
    have hh : X.A.in1.handled = none := I.ok.hd hc
    refine wpAny_pyNext_zipD2_item S (Draws.tuple hh i1 a ha its.toArray) (Draws.list hh i2 b hb its2.toArray) hz hTI hTO ⟨h1, (show s.heap.IsTuple a its.toArray from p)⟩ ⟨h2, p2.isList⟩ hlt hlt2 fun x1 x2 h' tk hx1 hx2 z' TO' h1' h2' hT hsz hk => ?_
    have ex1 : x1 = u := by
      have e1 : its[i]? = some x1 := by simpa using hx1
      rw [hu] at e1; exact (Option.some.inj e1).symm
    have ex2 : x2 = u2 := by
      have e1 : its2[i]? = some x2 := by simpa using hx2
      rw [hu2] at e1; exact (Option.some.inj e1).symm
    subst ex1; subst ex2
    refine ⟨_, rfl, wpAny_letOwnedTupleGo_zip (s := { s with heap := h', toks := tk }) z' fun h'' z'' sb => ?_⟩
    have hT2 : h''.get? s.heap.objs.size = some { cls := .type "tuple", data := .seq #[x1, x2] } := (sb.2 _ (Nat.ne_of_gt hzl)).trans hT
    have new : ObjOk X.prog X.w (upd H s.heap.objs.size (.tup [x, y])) h'' s.heap.objs.size (.tup [x, y]) :=
      ⟨by show 2 ≤ sizeLine; decide, [x1, x2], .cons ru (.cons ru2 .nil), ⟨_, hT2, rfl, _, rfl⟩⟩
    have I1 : Inv X pins σ (upd H s.heap.objs.size (.tup [x, y])) { s with heap := h'', toks := tk } :=
      I.turnedNew (t' := tk) (ch := [z, TI, TO, i1, i2]) (fun c o hb q => (sb.2 c (fun q' => hb (by simp [q']))).trans (hk c o (fun q' => hb (by simp [q'])) (fun q' => hb (by simp [q'])) (fun q' => hb (by simp [q'])) (fun q' => hb (by simp [q'])) q)) hf (Nat.le_refl _) new
    have i1z : i1 ≠ z := fun e => S.zf1 (by rw [← e]; simp)
    have i2z : i2 ≠ z := fun e => S.zf2 (by rw [← e]; simp)
    have TITO := S.TITO
    refine ⟨.ref s.heap.objs.size, _, I1, rfl, ⟨_, x, y, rfl, I.hok.fresh (Nat.le_refl _), rfl, fun l hl => by rw [I.tuple_inj hl hqx]; exact hx, fun l hl => by rw [I.list_inj hl hqy]; exact hy⟩, ⟨z'', ?_, ⟨x1, x2, ?_⟩, ?_, ?_⟩, fun c hcm => ?_⟩
    · exact (sb.2 _ S.TIz).trans (hk _ _ S.TIz TITO S.TIi1 S.TIi2 hTI)
    · exact (sb.2 _ S.TOz).trans TO'
    · exact h1'.1.at fun o q => (sb.2 _ i1z).trans q
    · exact h2'.1.at fun o q => (sb.2 _ i2z).trans q
    · have hlt : c < s.heap.objs.size := by
        have e' : c = z ∨ c = TI ∨ c = TO ∨ c = i1 ∨ c = i2 := by simpa using hcm
        rcases e' with q | q | q | q | q
        · rw [q]; exact hzl
        · rw [q]; exact Heap.lt_size hTI
        · rw [q]; exact Heap.lt_size hTO
        · rw [q]; obtain ⟨_, e1, _⟩ := h1; exact Heap.lt_size e1
        · rw [q]; obtain ⟨_, e2, _⟩ := h2; exact Heap.lt_size e2
      rw [upd_ne (Nat.ne_of_lt hlt)]
      exact (hf c hcm).1
  done := by
    intro X hP hw hK hc i pins s σ H E I hf st hg
    subst hP hw hK
    obtain ⟨hz, hTI, ⟨x0, y0, hTO⟩, h1, h2⟩ := st
    obtain ⟨xs, ys, hqx, hqy, hx, hy⟩ := hg
    obtain ⟨its, rv, p, _⟩ := I.tuple hqx
    obtain ⟨its2, rv2, p2, _⟩ := I.list hqy
    have l1 := rv.length
    have l2 := rv2.length
    have e1 : i = its.toArray.size := by simp; omega
    have e2 : i = its2.toArray.size := by simp; omega
    have hh : X.A.in1.handled = none := I.ok.hd hc
    exact wpAny_pyNext_zipD2_end S (Draws.tuple hh i1 a ha its.toArray) (Draws.list hh i2 b hb its2.toArray) hz hTI hTO ⟨h1, (show s.heap.IsTuple a its.toArray from p)⟩ ⟨h2, p2.isList⟩ (by omega) (by omega) (.inl e1) fun h' tk hk => ⟨rfl, I.turnedL (t' := tk) (ch := [z, TI, TO, i1, i2]) (fun c o hb q =>
      hk c o (fun q' => hb (by simp [q'])) (fun q' => hb (by simp [q'])) (fun q' => hb (by simp [q'])) (fun q' => hb (by simp [q'])) q) hf⟩
  self := fun A i s Q E st h => wpAny_pyIter_zip st.1 h
def iZipM (K : PySem.W.Frag) (ta : TA) : TI := fun σ H R => ta σ H fun vs H1 => ∃ a b xs ys, vs = [.ref a, .ref b] ∧ SqT K H1 a xs ∧ SqL K H1 b ys ∧ R (ItZ K a b) H1
theorem pi_zipM {X : Cx} {e e2 : Expr} {ta : TA} {p pos tpos : Pos} {elts : List Expr} {kk : Nat} (hg : Gl X "zip") (hm : X.mg "zip" = none) (ha : PA X [e, e2] ta)
    (hs : starEach [e, e2] X.env = (false, eval e X.env) :: starEach [e2] X.env := by rfl) (hpl : (backTo pos (starEach [e2] X.env)).any (·.1) = false := by rfl) :
    PI X (.Tuple elts kk tpos) (.Call (.Name "zip" p) [e, e2] [] pos) (iZipM X.K ta) := by
  refine ⟨fun pins s σ H R I h => ?_⟩
  refine Call_ (ld_blt I hg hm PyProof.Rows.boot_zip (PyProof.Rows.callWith_type1 (thn (ha.run pos pins s σ H _ I h) fun us s1 ⟨vs, H1, I1, r1, q1⟩ => ?_) hs hpl))
  obtain ⟨a, b, xs, ys, ex, hqx, hqy, q⟩ := q1
  subst ex
  cases r1 with
  | cons r rr =>
    cases rr with
    | cons r' rr =>
      cases rr
      cases r
      cases r'
      obtain ⟨its, rv, p1, _⟩ := I1.tuple hqx
      obtain ⟨its2, rv2, p2, _⟩ := I1.list hqy
      obtain ⟨o1, ho1, _⟩ := id p1
      have la : a < s1.heap.objs.size := Heap.lt_size ho1
      have lb : b < s1.heap.objs.size := p2.lt
      refine zip_begins2 (begins_tuple a its.toArray) (begins_list b its2.toArray) (show s1.heap.IsTuple a its.toArray from p1) p2.isList fun h' hz hTI hTO h1 h2 hsz hk => wpAny_pyIter_zip hz ?_
      have I2 : Inv X pins σ H1 { s1 with heap := h' } := I1.kept (t' := s1.toks) hk
      refine ⟨s1.heap.objs.size + 4, [s1.heap.objs.size + 4, s1.heap.objs.size + 2, s1.heap.objs.size + 3, s1.heap.objs.size, s1.heap.objs.size + 1], _, _, H1, rfl, I2, turn_zipM (zip_sep2 (N := s1.heap.objs.size) (fp1 := [a]) (fp2 := [b]) (by simpa using la) (by simpa using lb)) (Nat.ne_of_lt la) (Nat.ne_of_lt (Nat.lt_succ_of_lt lb)), ⟨hz, hTI, ⟨_, _, hTO⟩, ⟨_, h1, rfl, rfl⟩, ⟨_, h2, rfl, rfl⟩⟩, fun c hcm => ?_, q⟩
      have e' : c = s1.heap.objs.size + 4 ∨ c = s1.heap.objs.size + 2 ∨ c = s1.heap.objs.size + 3 ∨ c = s1.heap.objs.size ∨ c = s1.heap.objs.size + 1 := by simpa using hcm
      have hle : s1.heap.objs.size ≤ c := by
        rcases e' with z | z | z | z | z
        · rw [z]; exact Nat.le_add_right _ _
        · rw [z]; exact Nat.le_add_right _ _
        · rw [z]; exact Nat.le_add_right _ _
        · rw [z]; exact Nat.le_refl _
        · rw [z]; exact Nat.le_add_right _ _
      exact I1.fpOk hle (I1.hok.fresh hle)
end KL

/-! KPair -/
/-! Loops and comprehensions over pairs. -/
namespace KL
open PySem PySem.Spec PyProof.Rows L2 KM
structure WkP (J : It) (G0 : Hp) (n : Nat) (ra rb : Nat → Rp) : Prop where
  go : ∀ i H G, Same G0 G → Same G H → i < n → J.go i H
  stop : ∀ H G, Same G0 G → Same G H → J.stop n H
  yld : ∀ i H v H' G, Same G0 G → Same G H → i < n → J.yld i H v H' → ∃ T x y, v = .ref T ∧ H T = none ∧ H' = upd H T (.tup [x, y]) ∧ (ra i).p G x ∧ (rb i).p G y
theorem wkp_enumL {K : PySem.W.Frag} {a : Addr} {G0 : Hp} {rs : List Rp} {vs : List V} (hG : G0 a = some (.lst vs)) (t : All2 G0 rs vs) : WkP (Ite K a) G0 rs.length (fun i => rI (i : Nat)) fun i => rs.getD i rN :=
  ⟨fun i H G s1 s2 h => ⟨vs, vs[i]'(by rw [← t.len]; exact h), .of (s2 _ _ (s1 _ _ hG)), List.getElem?_eq_getElem _⟩,
   fun H G s1 s2 => ⟨vs, .of (s2 _ _ (s1 _ _ hG)), by rw [← t.len]; exact Nat.le_refl _⟩,
   fun i H v H' G s1 s2 h ⟨T, x, e, hT, eH, hy⟩ => by
    obtain ⟨r, hr, hp⟩ := t.get' (hy vs (.of (s2 _ _ (s1 _ _ hG))))
    refine ⟨T, .int i, x, e, hT, eH, rfl, ?_⟩
    have : rs.getD i rN = r := by rw [List.getD_eq_getElem?_getD, hr]; rfl
    rw [this]; exact r.mono s1 hp⟩
theorem wkp_enumT {K : PySem.W.Frag} {a : Addr} {G0 : Hp} {rs : List Rp} {vs : List V} (hG : G0 a = some (.tup vs)) (t : All2 G0 rs vs) : WkP (ItE K a) G0 rs.length (fun i => rI (i : Nat)) fun i => rs.getD i rN :=
  ⟨fun i H G s1 s2 h => ⟨vs, vs[i]'(by rw [← t.len]; exact h), .of (s2 _ _ (s1 _ _ hG)), List.getElem?_eq_getElem _⟩,
   fun H G s1 s2 => ⟨vs, .of (s2 _ _ (s1 _ _ hG)), t.len.symm⟩,
   fun i H v H' G s1 s2 h ⟨T, x, e, hT, eH, hy⟩ => by
    obtain ⟨r, hr, hp⟩ := t.get' (hy vs (.of (s2 _ _ (s1 _ _ hG))))
    refine ⟨T, .int i, x, e, hT, eH, rfl, ?_⟩
    have : rs.getD i rN = r := by rw [List.getD_eq_getElem?_getD, hr]; rfl
    rw [this]; exact r.mono s1 hp⟩
theorem wkp_zip {K : PySem.W.Frag} {a b : Addr} {G0 : Hp} {rs ss : List Rp} {vs us : List V} (hl : rs.length = ss.length) (hG : G0 a = some (.tup vs)) (t : All2 G0 rs vs) (hG2 : G0 b = some (.lst us)) (t2 : All2 G0 ss us) : WkP (ItZ K a b) G0 rs.length (fun i => rs.getD i rN) fun i => ss.getD i rN :=
  ⟨fun i H G s1 s2 h => ⟨vs, us, vs[i]'(by rw [← t.len]; exact h), us[i]'(by rw [← t2.len, ← hl]; exact h), .of (s2 _ _ (s1 _ _ hG)), .of (s2 _ _ (s1 _ _ hG2)), List.getElem?_eq_getElem _, List.getElem?_eq_getElem _⟩,
   fun H G s1 s2 => ⟨vs, us, .of (s2 _ _ (s1 _ _ hG)), .of (s2 _ _ (s1 _ _ hG2)), t.len.symm, by rw [hl]; exact t2.len.symm⟩,
   fun i H v H' G s1 s2 h ⟨T, x, y, e, hT, eH, hx, hy⟩ => by
    obtain ⟨r, hr, hp⟩ := t.get' (hx vs (.of (s2 _ _ (s1 _ _ hG))))
    obtain ⟨r2, hr2, hp2⟩ := t2.get' (hy us (.of (s2 _ _ (s1 _ _ hG2))))
    refine ⟨T, x, y, e, hT, eH, ?_, ?_⟩
    · have : rs.getD i rN = r := by rw [List.getD_eq_getElem?_getD, hr]; rfl
      rw [this]; exact r.mono s1 hp
    · have : ss.getD i rN = r2 := by rw [List.getD_eq_getElem?_getD, hr2]; rfl
      rw [this]; exact r2.mono s1 hp2⟩
section
variable {X : Cx} {B : Base} {ρ : Sl} {M : List Cell} {e e2 elt iter : Expr} {R R2 : Rp} {pos : Pos}
def IP (X : Cx) (B : Base) (ρ : Sl) (M : List Cell) (tg iter : Expr) (n : Nat) (ra rb : Nat → Rp) : Prop := ∃ wi, PI X tg iter wi ∧ ∀ σ G H, Stt B ρ M σ G H → ∀ Rr : L2.It → Hp → Prop, (∀ It G' H', Grow G H G' H' → WkP It G' n ra rb → Rr It H') → wi σ H Rr
theorem pi_or {tg : Expr} {w1 w2 : TI} (h1 : PI X tg iter w1) (h2 : PI X tg iter w2) : PI X tg iter (fun σ H Rr => w1 σ H Rr ∨ w2 σ H Rr) := ⟨fun pins s σ H Rr I h => h.elim (h1.run pins s σ H Rr I) (h2.run pins s σ H Rr I)⟩
theorem seq_at {rs : List Rp} (h : ∀ MP, SVp MP R rs) {G : Hp} {v : V} (r : R.p G v) : ∃ a vs, v = .ref a ∧ (G a = some (.lst vs) ∨ G a = some (.tup vs)) ∧ All2 G rs vs := by
  obtain ⟨a, mk, e, hm, k⟩ := h (fun G H => G = H) G G v (Same.refl _) rfl r
  obtain ⟨vs, ho, t⟩ := k G G (Same.refl _) (Same.refl _) rfl
  rcases hm with rfl | rfl
  · exact ⟨a, vs, e, .inl ho, t⟩
  · exact ⟨a, vs, e, .inr ho, t⟩
/-- enumerate(e), a list or a tuple -/
def iEnumB (K : PySem.W.Frag) (ta : TA) : TI := fun σ H Rr => ta σ H fun vs H1 => (∃ a xs, vs = [.ref a] ∧ SqL K H1 a xs ∧ Rr (Ite K a) H1) ∨ (∃ a xs, vs = [.ref a] ∧ SqT K H1 a xs ∧ Rr (ItE K a) H1)
theorem pi_enumB {ta : TA} {p tpos : Pos} {elts : List Expr} {kk : Nat} (hg : Gl X "enumerate") (hm : X.mg "enumerate" = none) (ha : PA X [e] ta) (hs : starEach [e] X.env = [(false, eval e X.env)] := by rfl) :
    PI X (.Tuple elts kk tpos) (.Call (.Name "enumerate" p) [e] [] pos) (iEnumB X.K ta) := by
  refine ⟨fun pins s σ H R I h => ?_⟩
  refine Call_ (ld_blt I hg hm boot_enumerate (PyProof.Rows.callWith_type1 (thn (ha.run pos pins s σ H _ I h) fun us s1 ⟨vs, H1, I1, r1, q1⟩ => ?_) hs rfl))
  rcases q1 with ⟨a, xs, ex, hq, q⟩ | ⟨a, xs, ex, hq, q⟩
  · subst ex
    cases r1 with
    | cons r rr =>
      cases rr
      cases r
      obtain ⟨its, rv, p', hz⟩ := I1.list hq
      refine call_enumerate_list p'.isList fun h' he hit hsz hk => wpAny_pyIter_enum he ?_
      have I2 : Inv X pins σ H1 { s1 with heap := h' } := I1.kept (t' := s1.toks) hk
      refine ⟨s1.heap.objs.size + 1, [s1.heap.objs.size + 1, s1.heap.objs.size], _, _, H1, rfl, I2, turn_enum a (s1.heap.objs.size + 1) s1.heap.objs.size, ⟨⟨.none, he⟩, hit, Nat.succ_ne_self _⟩, fun b hb => ?_, q⟩
      have e' : b = s1.heap.objs.size + 1 ∨ b = s1.heap.objs.size := by simpa using hb
      have hle : s1.heap.objs.size ≤ b := by
        rcases e' with z | z
        · rw [z]; exact Nat.le_add_right _ _
        · rw [z]; exact Nat.le_refl _
      exact I1.fpOk hle (I1.hok.fresh hle)
  · subst ex
    cases r1 with
    | cons r rr =>
      cases rr
      cases r
      obtain ⟨its, rv, p', hz⟩ := I1.tuple hq
      obtain ⟨oa, hoa, _⟩ := id p'
      have hal : a < s1.heap.objs.size := Heap.lt_size hoa
      refine call_enum1 (begins_tuple a its.toArray) (show s1.heap.IsTuple a its.toArray from p') fun h' he hit hsz hk => wpAny_pyIter_enum he ?_
      have I2 : Inv X pins σ H1 { s1 with heap := h' } := I1.kept (t' := s1.toks) hk
      refine ⟨s1.heap.objs.size + 1, [s1.heap.objs.size + 1, s1.heap.objs.size], _, _, H1, rfl, I2, turn_enumT a (s1.heap.objs.size + 1) s1.heap.objs.size (Nat.ne_of_lt hal) (Nat.ne_of_gt (Nat.lt_succ_of_lt hal)), ⟨⟨.none, he⟩, ⟨_, hit, rfl, rfl⟩, Nat.succ_ne_self _⟩, fun b hb => ?_, q⟩
      have e' : b = s1.heap.objs.size + 1 ∨ b = s1.heap.objs.size := by simpa using hb
      have hle : s1.heap.objs.size ≤ b := by
        rcases e' with z | z
        · rw [z]; exact Nat.le_add_right _ _
        · rw [z]; exact Nat.le_refl _
      exact I1.fpOk hle (I1.hok.fresh hle)
theorem ip_enum {rs : List Rp} {p tpos : Pos} {elts : List Expr} {kk : Nat} (hm : X.mg "enumerate" = none) (he : DE X B ρ M e R) (h : ∀ MP, SVp MP R rs) (hg : Gl X "enumerate" := by rfl) (hs : starEach [e] X.env = [(false, eval e X.env)] := by rfl) :
    IP X B ρ M (.Tuple elts kk tpos) (.Call (.Name "enumerate" p) [e] [] pos) rs.length (fun i => rI (i : Nat)) (fun i => rs.getD i rN) := ⟨_, pi_enumB hg hm (pa_cons pe_sem pa_nil (by rw [hs]; rfl)) hs, fun σ G H s Rr q => he σ G H s _ fun v G1 H1 g1 r1 => by
  obtain ⟨a, vs, rfl, ho, t⟩ := seq_at h r1
  rcases ho with ho | ho
  · exact .inl ⟨a, vs, rfl, .of (g1.sub _ _ ho), q _ G1 H1 g1 (wkp_enumL ho t)⟩
  · exact .inr ⟨a, vs, rfl, .of (g1.sub _ _ ho), q _ G1 H1 g1 (wkp_enumT ho t)⟩⟩
theorem ip_zip {rs ss : List Rp} {p tpos : Pos} {elts : List Expr} {kk : Nat} (hm : X.mg "zip" = none) (he : DE X B ρ M e (rT rs)) (he2 : DE X B ρ M e2 (rL ss)) (hl : rs.length = ss.length) (hg : Gl X "zip" := by rfl) (hs : starEach [e, e2] X.env = (false, eval e X.env) :: starEach [e2] X.env := by rfl) (hs2 : starEach [e2] X.env = (false, eval e2 X.env) :: starEach [] X.env := by rfl) (hpl : (backTo pos (starEach [e2] X.env)).any (·.1) = false := by rfl) :
    IP X B ρ M (.Tuple elts kk tpos) (.Call (.Name "zip" p) [e, e2] [] pos) rs.length (fun i => rs.getD i rN) (fun i => ss.getD i rN) := ⟨_, pi_zipM hg hm (pa_cons pe_sem (pa_cons pe_sem pa_nil hs2) hs) hs hpl, fun σ G H s Rr q => he σ G H s _ fun v G1 H1 g1 r1 => he2 σ G1 H1 (s.grow g1) _ fun u G2 H2 g2 r2 => by
  obtain ⟨a, o, rfl, ho, vs, rfl, t⟩ := (rT rs).mono g2.gg r1
  obtain ⟨b, o2, rfl, ho2, us, rfl, t2⟩ := r2
  exact ⟨a, b, vs, us, rfl, .of (g2.sub _ _ ho), .of (g2.sub _ _ ho2), q _ G2 H2 (g1.trans g2) (wkp_zip hl ho t ho2 t2)⟩⟩
theorem tup_grow {G H : Hp} (s : Same G H) {T : Addr} {o : HO} (h : H T = none) : Grow G H G (upd H T o) := (new_grow s h).1
/-- for x, y in .. -/
theorem tr_forP {S : Type} {rest body : List Stmt} {D : Ends} {n : Nat} {ra rb : Nat → Rp} {x y : Str} {px py pt : Pos} {kt : Nat} (j1 j2 : Nat) (hp : PassesOwn (model X.prog X.w) X.A X.env X.xe) (nd : X.N.Nodup) (ip : IP X B ρ M (.Tuple [.Name x px, .Name y py] kt pt) iter n ra rb) (ρs : S → Sl) (Ms : S → List Cell) (J : Nat → S → Prop) (s0 : S) (j0 : J 0 s0) (l0 : Less (ρs s0) ρ) (m0 : Ms s0 = M)
    (turn : ∀ (P : Hp → Prop) (pm : ∀ {G G' : Hp}, Same G G' → P G → P G') i s, i < n → J i s → ∀ D' : Ends, (∀ s', J (i + 1) s' → ∀ σ G H, Stt (B.wp P pm) (ρs s') (Ms s') σ G H → D'.nx σ H) → D'.rt = D.rt → Tr X (B.wp P pm) (((ρs s).set j1 (some (ra i))).set j2 (some (rb i))) (Ms s) body D')
    (done : ∀ s, J n s → Tr X B (ρs s) (Ms s) rest D) (hc : X.calm = true := by rfl) (hj1 : X.N[j1]? = some x := by rfl) (hj2 : X.N[j2]? = some y := by rfl)
    (hx : L2.Loc X.env.scope x := by first | exact .inl rfl | exact .inr rfl) (hy : L2.Loc X.env.scope y := by first | exact .inl rfl | exact .inr rfl)
    (hfx : X.fn x = true ∨ X.env.scope.names.lookup x = some .local := by first | exact .inl rfl | exact .inr rfl) (hfy : X.fn y = true ∨ X.env.scope.names.lookup y = some .local := by first | exact .inl rfl | exact .inr rfl)
    (hs : ∀ x, foldedSetIterable iter X.env x = pure x := by intro _; rfl) (hst : (assignEach [.Name x px, .Name y py] X.env).findIdx? (·.1) = none := by rfl) (hn : (assignEach [.Name x px, .Name y py] X.env).length = 2 := by rfl)
    (hs1 : (assignEach [.Name x px, .Name y py] X.env).map (·.2) = assign (.Name x px) X.env :: (assignEach [.Name y py] X.env).map (·.2) := by rfl) (hs2 : (assignEach [.Name y py] X.env).map (·.2) = assign (.Name y py) X.env :: (assignEach [] X.env).map (·.2) := by rfl) :
    Tr X B ρ M (.For (.Tuple [.Name x px, .Name y py] kt pt) iter body [] pos :: rest) D := by
  obtain ⟨wi, pi, ip⟩ := ip
  refine tr_sem fun σ G H s => sem_s (ps_for hp hc pi (pg_tup hc (pgs_cons (pg_name nd hj1 hx hfx) (pgs_cons (pg_name nd hj2 hy hfy) pgs_nil hs2) hs1) hn hst) pss_sem hs) (ip σ G H s _ fun It G1 H1 g1 w => ?_)
  have s1 := s.grow g1
  refine ⟨fun i m σ' H' => m = n - i ∧ i ≤ n ∧ ∃ z G', J i z ∧ Same G1 G' ∧ Stt B (ρs z) (Ms z) σ' G' H', ⟨n, by simp, Nat.zero_le _, s0, G1, j0, Same.refl _, by rw [m0]; exact s1.less l0⟩, ?_⟩
  rintro i m σ' H' ⟨rfl, hi, z, G', jz, sg, sz⟩
  by_cases hlt : i < n
  · refine .inr ⟨w.go i H' G' sg sz.sub hlt, fun σ' H' => ∃ z G', J (i + 1) z ∧ Same G1 G' ∧ Stt B (ρs z) (Ms z) σ' G' H', fun σ' H' p => ⟨n - (i + 1), by omega, rfl, hlt, p⟩, fun v H2 yv => ?_⟩
    obtain ⟨T, a, b, rfl, hT, rfl, hra, hrb⟩ := w.yld i H' v H2 G' sg sz.sub hlt yv
    have s5 := ((sz.grow (tup_grow sz.sub hT (o := .tup [a, b]))).set (i := j1) hra).set (i := j2) hrb
    refine ⟨T, [a, b], rfl, SqT.of upd_same, rfl, a, [b], rfl, b, [], rfl, rfl, ?_⟩
    exact turn (fun G => B.P G ∧ Same G1 G) (fun sm q => ⟨B.pm sm q.1, q.2.trans sm⟩) i z hlt jz ⟨fun σ' H' => ∃ z G', J (i + 1) z ∧ Same G1 G' ∧ Stt B (ρs z) (Ms z) σ' G' H', D.rt, SemSs X rest D, fun σ' H' => ∃ z G', J (i + 1) z ∧ Same G1 G' ∧ Stt B (ρs z) (Ms z) σ' G' H'⟩ (fun z' jz' σ2 G2 H2 s2 => ⟨z', G2, jz', s2.pf.2, s2.mv, s2.slots, s2.mem, s2.pf.1⟩) rfl _ G' _ ⟨s5.mv, s5.slots, s5.mem, s5.pf, sg⟩
  · have en : i = n := by omega
    subst en
    exact .inl ⟨w.stop H' G' sg sz.sub, done z jz σ' G' H' sz⟩
/-- [elt for x, y in ..] -/
theorem ne_lcP {n : Nat} {ra rb f : Nat → Rp} {x y : Str} {px py pt : Pos} {kt : Nat} {scope : Scope} (j1 j2 : Nat) (nd : X.N.Nodup) (ip : IP X B ρ M (.Tuple [.Name x px, .Name y py] kt pt) iter n ra rb) (hz : n ≤ 100000)
    (he : ∀ i, i < n → AllB X scope fun X' => DE X' B ((ρ.set j1 (some (ra i))).set j2 (some (rb i))) M elt (f i)) (hjj : j1 ≠ j2 := by decide) (ok : BlkOk X.N X.env.scope scope [(x, j1), (y, j2)] := by exact blkOk_by (by kernel_rfl)) (hj1 : X.N[j1]? = some x := by rfl) (hj2 : X.N[j2]? = some y := by rfl)
    (hx : AllB X scope (fun X' => L2.Loc X'.env.scope x) := by first | exact fun _ _ _ _ _ => .inl rfl | exact fun _ _ _ _ _ => .inr rfl) (hf : AllB X scope (fun X' => X'.fn x = true ∨ X'.env.scope.names.lookup x = some .local) := by first | exact fun _ _ _ _ _ => .inl rfl | exact fun _ _ _ _ _ => .inr rfl)
    (hx1 : AllB X scope (fun X' => L2.Loc X'.env.scope y) := by first | exact fun _ _ _ _ _ => .inl rfl | exact fun _ _ _ _ _ => .inr rfl) (hf1 : AllB X scope (fun X' => X'.fn y = true ∨ X'.env.scope.names.lookup y = some .local) := by first | exact fun _ _ _ _ _ => .inl rfl | exact fun _ _ _ _ _ => .inr rfl)
    (hc : X.calm = true := by rfl) (hs : ∀ x, foldedSetIterable iter X.env x = pure x := by intro _; rfl) (hcb : AllB X scope (fun X' => X'.calm = true) := by exact fun _ _ _ _ _ => rfl) (hst : AllB X scope (fun X' => (assignEach [.Name x px, .Name y py] X'.env).findIdx? (·.1) = none) := by exact fun _ _ _ _ _ => rfl) (hn : AllB X scope (fun X' => (assignEach [.Name x px, .Name y py] X'.env).length = 2) := by exact fun _ _ _ _ _ => rfl)
    (hs1 : AllB X scope (fun X' => (assignEach [.Name x px, .Name y py] X'.env).map (·.2) = assign (.Name x px) X'.env :: (assignEach [.Name y py] X'.env).map (·.2)) := by exact fun _ _ _ _ _ => rfl) (hs2 : AllB X scope (fun X' => (assignEach [.Name y py] X'.env).map (·.2) = assign (.Name y py) X'.env :: (assignEach [] X'.env).map (·.2)) := by exact fun _ _ _ _ _ => rfl) :
    NE X B ρ M (.ListComp elt [⟨.Tuple [.Name x px, .Name y py] kt pt, iter, [], 0⟩] scope pos) (wL ((List.range n).map f)) := fun σ G H s Q q => by
  obtain ⟨wi, pi, ip⟩ := ip
  refine sem_e (pe_lc (own := [(x, j1), (y, j2)]) (g := gTup X.K 2 (gCons (gName j1) (gCons (gName j2) gNil))) (tt := tYes) (te := blkE X scope elt) hc nd pi ok (fun s H C cl fp => pg_tup (hcb s H C cl fp) (pgs_cons (pg_name nd hj1 (hx s H C cl fp) (hf s H C cl fp)) (pgs_cons (pg_name nd hj2 (hx1 s H C cl fp) (hf1 s H C cl fp)) pgs_nil (hs2 s H C cl fp)) (hs1 s H C cl fp)) (hn s H C cl fp) (hst s H C cl fp)) (fun _ _ _ _ _ => pts_nil) (fun s H C cl fp => pe_blk s H C cl fp) hs) ?_
  refine ip σ G H s _ fun It G1 H1 g1 w D hD => ?_
  have s1 := s.grow g1
  obtain ⟨gD, hGD⟩ := new_grow (o := .lst []) g1.sub hD
  refine ⟨fun i m H' => m = n - i ∧ i ≤ n ∧ ∃ G', Grow G1 H1 G' H' ∧ G' D = none ∧ ∃ vs, H' D = some (.lst vs) ∧ All2 G' ((List.range i).map f) vs, ⟨n, by simp, Nat.zero_le _, G1, gD, hGD, [], upd_same, .nil⟩, ?_⟩
  rintro i m H' ⟨rfl, hi, G', g', hGD', vs, hDv, hav⟩
  by_cases hlt : i < n
  · refine .inr ⟨w.go i H' G' g'.gg g'.sub hlt, fun H' => ∃ G', Grow G1 H1 G' H' ∧ G' D = none ∧ ∃ vs, H' D = some (.lst vs) ∧ All2 G' ((List.range (i + 1)).map f) vs, fun H' p => ⟨n - (i + 1), by omega, rfl, hlt, p⟩, fun v H2 yv => ?_⟩
    obtain ⟨T, a, b, rfl, hT, rfl, hra, hrb⟩ := w.yld i H' v H2 G' g'.gg g'.sub hlt yv
    have gT := tup_grow g'.sub hT (o := .tup [a, b])
    have sg := (s1.grow g').grow gT
    have sl2 : Slots G' ((ρ.set j1 (some (ra i))).set j2 (some (rb i))) ((((σ.set j2 none).set j1 none).set j1 (some a)).set j2 (some b)) := by
      have h := (((sg.slots.wipe1 j2).wipe1 j1).set (i := j1) hra).set (i := j2) hrb
      have e : ((((ρ.set j2 none).set j1 none).set j1 (some (ra i))).set j2 (some (rb i))) = (ρ.set j1 (some (ra i))).set j2 (some (rb i)) := by
        rw [List.set_set, List.set_comm none (some (ra i)) (Ne.symm hjj), List.set_set]
      rw [e] at h
      exact h
    have s3 : Stt B ((ρ.set j1 (some (ra i))).set j2 (some (rb i))) M ((((σ.set j2 none).set j1 none).set j1 (some a)).set j2 (some b)) G' _ := ⟨sg.mv, sl2, sg.mem, sg.pf⟩
    refine ⟨T, [a, b], rfl, SqT.of upd_same, rfl, a, [b], rfl, b, [], rfl, rfl, ?_⟩
    refine ⟨by show (((((σ.set j2 none).set j1 none).set j1 (some a)).set j2 (some b)).set j2 none).set j1 none = (σ.set j2 none).set j1 none
               rw [List.set_set, List.set_set, List.set_comm none none (Ne.symm hjj), List.set_set, List.set_comm none none hjj, List.set_set], ?_⟩
    have hDT : T ≠ D := fun e => by rw [e, hDv] at hT; cases hT
    have hD2 : (upd H' T (.tup [a, b])) D = some (.lst vs) := by rw [upd_ne (Ne.symm hDT)]; exact hDv
    unfold tYes
    dsimp only
    rw [if_pos rfl]
    intro s0 H0 C cl fp
    refine he i hlt s0 H0 C cl fp _ G' _ s3 _ fun v G3 H3 g3 rv => ?_
    have hD3 : H3 D = some (.lst vs) := g3.hh _ _ hD2
    have n3 := no_D g3 hGD' hD2
    refine ⟨vs, hD3, small5' ?_, G3, grow_D (o := .lst []) (g'.trans (gT.trans g3)) n3 hD, n3, vs ++ [v], upd_same, ?_⟩
    · rw [← hav.len, List.length_map, List.length_range]; omega
    · rw [List.range_succ, List.map_append]
      exact (hav.mono g3.gg).snoc rv
  · have en : i = n := by omega
    subst en
    exact .inl ⟨w.stop H' G' g'.gg g'.sub, q D _ G' H' (g1.trans g') hGD' (g1.hh.free hD) hDv ⟨vs, rfl, hav⟩⟩
end
end KL

/-! KF14 -/
namespace KL
open PySem PySem.Spec PyProof.Rows L2 KM
/-! ### other names for helpers -/
def lkN : List (Nm × Nm) → Nm → Option Nm
  | [], _ => none
  | e :: r, n => if e.1 = n then some e.2 else lkN r n
def ren (es : List (Nm × Nm)) (n : Nm) : Nm := (lkN es n).getD n
abbrev renE (es : List (Nm × Nm)) : Es := es.map fun e => (e.1.val, rNm e.2)
theorem valE_ren (n : Nm) : ∀ es : List (Nm × Nm), valE (renE es) n.val = (lkN es n).map rNm
  | [] => rfl
  | e :: r => by
    have ih := valE_ren n r
    show (if e.1.val = n.val then some (rNm e.2) else valE (renE r) n.val) = Option.map rNm (if e.1 = n then some e.2 else lkN r n)
    by_cases h : e.1 = n
    · rw [if_pos h, if_pos (congrArg Subtype.val h)]; rfl
    · rw [if_neg h, if_neg (fun z => h (Subtype.ext z)), ih]
def renL (es : List (Nm × Nm)) (l : Lit) : Lit := ⟨l.pos, ren es l.nm⟩
def renC (es : List (Nm × Nm)) (d : Cl Nm) : Cl Nm := d.map (renL es)
def l0 : Lit := ⟨true, spareN 0⟩
theorem range_getD {β : Type} (g : Lit → β) (d : Cl Nm) : (List.range d.length).map (fun i => g (d.getD i l0)) = d.map g := by
  refine List.ext_getElem (by rw [List.length_map, List.length_map, List.length_range]) fun i h1 h2 => ?_
  rw [List.length_map, List.length_range] at h1
  rw [List.getElem_map, List.getElem_map, List.getElem_range, List.getD_eq_getElem?_getD, List.getElem?_eq_getElem h1]; rfl
theorem getD_map2 {α : Type} {f : α → Rp} {xs : List α} {k : Nat} {x : α} (h : k < xs.length) : (xs.map f).getD k rN = f (xs.getD k x) := by
  rw [List.getD_eq_getElem?_getD, List.getD_eq_getElem?_getD, List.getElem?_map, List.getElem?_eq_getElem h]; rfl
theorem empty_app (s : Str) : ("" : Str) ++ s = s := str_ext (by rw [app_cps]; rfl)
abbrev renCd (c : Cd) (es : List (Nm × Nm)) : Cd := ⟨c.signs.map (ren es), c.helpers.map (ren es), onceM (c.clauses.map (renC es)) (c.signs.map (ren es) ++ c.helpers.map (ren es))⟩
section
variable {X : Cx} {B : Base} {ρ : Sl} {M : List Cell} {o e f : Expr} {pos apos cpos : Pos}
theorem de_ren {es : List (Nm × Nm)} {n : Nm} (hu : X.A.units + 1 < cLine) (ho : DE X B ρ M o (rD (renE es))) (he : DE X B ρ M e (rNm n)) (hf : DE X B ρ M f (rNm n)) (m : M2 X o "get" apos e f cpos := by exact ⟨rfl, rfl, rfl, rfl⟩) : DE X B ρ M (.Call (.Attribute o "get" apos) [e, f] [] cpos) (rNm (ren es n)) := by
  refine de_dget2 hu ho dv_d he hf (fun r' h => ?_) (fun h => ?_) m
  · rw [valE_ren] at h
    unfold ren
    cases q : lkN es n with
    | none => rw [q] at h; cases h
    | some x => rw [q] at h; exact (Option.some.inj h).symm
  · rw [valE_ren] at h
    unfold ren
    cases q : lkN es n with
    | none => rfl
    | some x => rw [q] at h; cases h
end
section
variable {P : Program} {w : World} {K : PySem.W.Frag} {mg : Str → Option Value} {base : Heap}
abbrev c_renamed : Ct := .fn (γ := Cd × List (Nm × Nm)) (fun g => [rCd g.1, rD (renE g.2)]) (fun g => g.1.signs.length ≤ 100 ∧ g.1.helpers.length ≤ 100 ∧ g.1.clauses.length ≤ 1000 ∧ ∀ d ∈ g.1.clauses, d.length ≤ 1000) fun g => rCd (renCd g.1 g.2)
theorem map_ren (xs : List Nm) (es : List (Nm × Nm)) : (xs.map fun n => rNm (ren es n)) = (xs.map (ren es)).map rNm := by rw [List.map_map]; rfl
theorem dn_l_renamed (bi : BI mg) (F : DefAt K mg "_law_renamed" s_l_renamed) (Fb : Dn P w K mg base "_law_bare" 1 p_l_bare c_bare) (Fo : Dn P w K mg base "_law_once" 2 p_l_once c_once) : Dn P w K mg base "_law_renamed" 3 p_l_renamed c_renamed := by
  refine dn_mk F sc_l_renamed (fun _ => rfl) (fun _ _ _ _ _ _ us hl => match us, hl with | [_, _], _ => rfl) fun f cdv A outer s H E B D (g : Cd × List (Nm × Nm)) hr hz hF hP hD => ?_
  obtain ⟨c, es⟩ := g
  obtain ⟨h1, h2, h3, h4⟩ : c.signs.length ≤ 100 ∧ c.helpers.length ≤ 100 ∧ c.clauses.length ≤ 1000 ∧ ∀ d ∈ c.clauses, d.length ≤ 1000 := hz
  have Fb := Fb.mono (show 1 ≤ 2 by decide)
  show Tr _ B [some (rCd c), some (rD (renE es)), none, none, none, none, none, none, none] [] _ D
  refine tr_ownLc (α := Nm) 2 7 sc_l_renamed.nd c.signs rNm (fun n => rNm (ren es n)) (de_dget (hu_of hr) (de_var 0) dv_d de_str (cd_s c)) sv_l (by omega) (fun n hn _ _ _ _ _ => de_ren (hu_of hr) (de_var 1) (de_var 7) (de_var 7)) fun a1 ha1 => ?_
  refine tr_pub 2 0 ha1 rfl rfl ?_
  rw [map_ren]
  refine tr_ownLc (α := Nm) 3 7 sc_l_renamed.nd c.helpers rNm (fun n => rNm (ren es n)) (de_dget (hu_of hr) (de_var 0) dv_d de_str (cd_h c)) sv_l (by omega) (fun n hn _ _ _ _ _ => de_ren (hu_of hr) (de_var 1) (de_var 7) (de_var 7)) fun a2 ha2 => ?_
  refine tr_pub 3 0 ha2 rfl rfl ?_
  rw [map_ren]
  refine tr_own 4 sc_l_renamed.nd (ne_lst da_nil (Nat.zero_le _)) fun a ha => ?_
  refine tr_for (S := List (Cl Nm)) (α := Cl Nm) 5 PassesOwn.never sc_l_renamed.nd (de_dget (hu_of hr) (de_var 0) dv_d de_str (cd_c c)) (fun _ => [some (rCd c), some (rD (renE es)), some (rL ((c.signs.map (ren es)).map rNm)), some (rL ((c.helpers.map (ren es)).map rNm)), some (rV (.ref a)), none, none, none, none]) (fun t => [cL a (t.map fun d => rL (d.map rLt))]) (fun i t => t = (c.clauses.take i).map (renC es)) [] c.clauses rC sv_l rfl ⟨rfl, rfl, rfl, rfl, rfl, trivial⟩ rfl ?_ ?_
  · intro P2 pm2 i d t hi hJ D' hn hrt
    have hd := h4 d (List.mem_of_getElem? hi)
    have htl : t.length ≤ 1000 := by rw [hJ, List.length_map, List.length_take]; omega
    refine tr_ownLc (α := Lit) 6 7 sc_l_renamed.nd d rLt (fun l => rNm (ren es l.nm)) (de_var 5) sv_t (by omega) (fun l hl _ _ _ _ _ => de_ren (hu_of hr) (de_var 1) (de_call (R := rNm l.nm) Fb hr l (da_cons (de_var 7) da_nil) trivial fun _ _ _ _ r => r) (de_call (R := rNm l.nm) Fb hr l (da_cons (de_var 7) da_nil) trivial fun _ _ _ _ r => r)) fun b hb => ?_
    refine tr_pubL (W := wL (d.map fun l => rNm (ren es l.nm))) (M := [cL a (t.map fun d => rL (d.map rLt))]) 6 hb ?_ ?_
    · rfl
    refine tr_append 0 (de_var 4) (R := rL ((renC es d).map rLt)) (DE.is (NE.de (ne_lcP (n := (d.map rLt).length) (f := fun i => rLt (renL es (d.getD i l0))) 7 8 sc_l_renamed.nd (ip_zip bi.zip (de_var 5) (de_var 6) (by rw [List.length_map, List.length_map])) (by rw [List.length_map]; omega) fun i hi _ _ _ _ _ => ?_)) ?_) rfl (.inr ha) (by rw [List.length_map]; omega) ?_
    · have hi : i < d.length := by rwa [List.length_map] at hi
      rw [getD_map2 (x := l0) hi, show (d.map fun l => rNm (ren es l.nm)).getD i rN = rNm (ren es (d.getD i l0).nm) from getD_map2 (f := fun l => rNm (ren es l.nm)) (x := l0) hi]
      generalize d.getD i l0 = l
      have h9 := ltS_len l
      have h9' := ltS_len ⟨true, ren es l.nm⟩
      refine DE.is (de_op op_addStr (de_ifE (R := rS (if l.pos then "" else "-")) (d := !l.pos) (dt_cmp op_eq (de_slice sl_str (de_var 7) do_none (do_some de_int) (slv_str (by omega))) de_str (by rw [← lit_dash]; exact opv_eqS)) (fun hp => ?_) fun hp => ?_) (de_var 8) (opv_addS ?_)) ?_
      · have hp : l.pos = false := by simpa using hp
        rw [hp]; exact de_str
      · have hp : l.pos = true := by simpa using hp
        rw [hp]; exact de_str
      · have h0 : ((if l.pos then "" else "-" : Str)).length ≤ 1 := by cases l.pos <;> decide
        have : (ltS ⟨true, ren es l.nm⟩).length = (ren es l.nm).val.length := rfl
        omega
      · cases hp : l.pos with
        | true =>
          show rS (("" : Str) ++ (ren es l.nm).val) = rS (ltS (renL es l))
          rw [empty_app]
          unfold renL
          rw [hp]; rfl
        | false =>
          show rS (("-" : Str) ++ (ren es l.nm).val) = rS (ltS (renL es l))
          unfold renL
          rw [hp]; rfl
    · show rL _ = rL _
      rw [List.length_map, range_getD (fun l => rLt (renL es l)) d]
      unfold renC
      rw [List.map_map]; rfl
    · show Tr _ _ _ [cL a ((t.map fun d => rL (d.map rLt)) ++ [rL ((renC es d).map rLt)])] _ _
      rw [show (t.map fun d => rL (d.map rLt)) ++ [rL ((renC es d).map rLt)] = (t ++ [renC es d]).map fun d => rL (d.map rLt) by rw [List.map_append]; rfl]
      refine tr_nil fun σ G H st => hn (t ++ [renC es d]) ?_ σ G H (st.less ⟨rfl, rfl, rfl, rfl, rfl, trivial⟩)
      rw [hJ, List.take_add_one, hi, List.map_append]; rfl
  · intro t hJ
    rw [List.take_length] at hJ
    have htl : t.length ≤ 1000 := by rw [hJ, List.length_map]; exact h3
    refine tr_ret (R := rCd (renCd c es)) (NE.de (ne_disp (dp_cons de_str (de_var 2) (dp_cons de_str (de_var 3) (dp_cons de_str (de_call (R := rCs (onceM (c.clauses.map (renC es)) (c.signs.map (ren es) ++ c.helpers.map (ren es)))) Fo hr (rV (.ref a), [cL a (t.map fun d => rL (d.map rLt))], t.map fun d => (rL (d.map rLt), d), c.signs.map (ren es) ++ c.helpers.map (ren es)) (da_cons (de_var 4) (da_cons (DE.is (ne_op op_cat (de_var 2) (de_var 3) (opn_cat lv_l lv_l (by rw [List.length_map, List.length_map, List.length_map, List.length_map]; omega))).de (by rw [rNm_app])) da_nil)) ⟨by rw [List.map_map]; exact sv_m List.mem_cons_self, fun e he MP => ?_, by show (t.map _).length ≤ 10000; rw [List.length_map]; omega, ?_⟩ (fun _ G v _ r => ?_) (hM := fun G H m => m)) dp_nil))) (show (["signs", "helpers", "clauses"] : List Str).Nodup by decide) (show 3 ≤ 15 by decide))) fun v σ G H st r => hD.rt () v _ _ σ G H trivial st .nil r
    · obtain ⟨d, _, rfl⟩ := List.mem_map.mp he
      exact sv_l
    · show (c.signs.map (ren es) ++ c.helpers.map (ren es)).length ≤ 1000
      rw [List.length_append, List.length_map, List.length_map]; omega
    · have r : (rCs (onceM ((t.map fun d => (rL (d.map rLt), d)).map Prod.snd) (c.signs.map (ren es) ++ c.helpers.map (ren es)))).p G v := r
      rw [List.map_map] at r
      have e : (t.map (Prod.snd ∘ fun d => (rL (d.map rLt), d))) = t := List.map_id' t
      rw [e, hJ] at r
      exact r
end
end KL

/-! KVals -/
/-! list(d.values()). -/
namespace KL
open PySem PySem.Spec PyProof.Rows L2 KM
def tListVals (td : TE) : TE := fun σ H Q => td σ H fun x H1 => ∃ a kvs, x = V.ref a ∧ H1 a = some (.dK kvs) ∧ ∀ q, H1 q = none → Q (.ref q) (upd H1 q (.lst (kvs.map (·.2))))
theorem vals_map {kvs : List (Key × V)} {vs : List (Key × Value)} (r : KV kvs vs) : Vals (kvs.map (·.2)) (vs.map (·.2)) := by
  unfold KV at r
  induction r with
  | nil => exact .nil
  | cons h t ih => exact .cons h.2 ih
section
variable {X : Cx} {o : Expr} {p pos apos mpos : Pos} {td : TE}
theorem pe_listVals (hc : X.calm = true) (hg : Gl X "list") (hm : X.mg "list" = none) (hd : PE X o td) (hbase : attributeBase o "values" X.env (eval o X.env) = eval o X.env := by rfl) (hline : (apos.endLine == mpos.line) = true := by rfl)
    (hse : starEach [Expr.Call (.Attribute o "values" apos) [] [] mpos] X.env = [(false, eval (Expr.Call (.Attribute o "values" apos) [] [] mpos) X.env)] := by rfl)
    (hbt : backTo pos (starEach [Expr.Call (.Attribute o "values" apos) [] [] mpos] X.env) = [(false, eval (Expr.Call (.Attribute o "values" apos) [] [] mpos) X.env)] := by rfl) :
    PE X (.Call (.Name "list" p) [.Call (.Attribute o "values" apos) [] [] mpos] [] pos) (tListVals td) := by
  refine ⟨fun pins s σ H Q I h => ?_⟩
  refine wpAny_Call_Name_kw (ld_blt I hg hm (u := .type "list") (by first | rfl | decide +kernel) ?_ (by first | decide +kernel | decide) (by first | decide +kernel | decide))
  refine PyProof.Rows.callWith_type1 ?_ (by rw [hse]; rfl) (by rfl)
  rw [hbt]
  refine Calls.spliced_cons ?_
  refine wpAny_Call_method0_late hbase hline (thn (hd.run pins s σ H _ I h) fun v s1 ⟨x, H1, I1, r1, a, kvs, ex, ha, q⟩ => ?_)
  subst ex
  obtain rfl : v = Value.ref a := r1
  obtain ⟨hz, hsys, vs, rel, dof⟩ := dk_of I1.hok ha
  obtain ⟨ep, dat⟩ := dof.dictAt
  have dat' := dat
  obtain ⟨ob, es, ho, ex, hdat, hko, hpr, hnd⟩ := dat'
  refine ⟨"dict", "dict.values", F.plainAttrs_dict, F.slot_dict_values, F.type_dict_values, ⟨ob, ho, ex.1⟩, fun b e => ?_, Calls.callWith_builtin rfl (PySem.evalArgs_none ?_)⟩
  · cases e
    exact ⟨ob, ho, ex.2.1⟩
  refine call_meetsIn F.slot_dict_values ⟨ob, ho, ex.1⟩ F.entry_dict_values (F.args_dict_values_1 _) (meets_dict_values (mixKind X.prog X.w) a hsys) ⟨⟨vs, dof⟩, ?_⟩
  have k1 : ∀ b u, s1.heap.get? b = some u → (s1.heap.push { cls := .type "dict_values", data := .fields #[.ref a] }).get? b = some u := fun b u e => Heap.get?_push_of_some _ e
  have dat1 : (s1.heap.push { cls := .type "dict_values", data := .fields #[.ref a] }).DictAt (mixKind X.prog X.w) a vs ep := dat.keep k1
  have I2 : Inv X pins σ H1 { s1 with heap := s1.heap.push { cls := .type "dict_values", data := .fields #[.ref a] } } := I1.kept (t' := s1.toks) k1
  refine Calls.spliced_nil ?_
  have hl : kvs.length = vs.length := Paired.length rel
  refine PySem.W.kdl_call (s := { s1 with heap := s1.heap.push { cls := .type "dict_values", data := .fields #[.ref a] } }) (PySem.W.kdl_values (knd := mixKind X.prog X.w) (kvs := vs) (ep := ep)) (I1.ok.hd hc) ⟨⟨_, Heap.get?_push_size _ rfl, rfl, rfl⟩, dat1⟩ (by rw [← hl]; exact hz) fun h' tk acc' c' hkeep hS hacc => ?_
  have ev : acc'.toList = vs.map (·.2) := PySem.W.kdl_vals_eq acc'.toList (by rw [Array.length_toList]; exact hacc.1) fun j v e => hacc.2 j v (by rw [← Array.getElem?_toList]; exact e)
  refine ⟨.ref (s1.heap.push { cls := .type "dict_values", data := .fields #[.ref a] }).objs.size, upd H1 _ (.lst (kvs.map (·.2))), I2.laid hkeep (Nat.le_refl _) (show ObjOk X.prog X.w _ _ _ (.lst (kvs.map (·.2))) from ⟨?_, acc'.toList, c', ?_, ?_⟩), rfl, q _ (I2.hok.fresh (Nat.le_refl _))⟩
  · rw [List.length_map]; exact hz
  · rw [ev]; exact vals_map rel
  · rw [Array.toArray_toList]; exact hS
end
section
variable {X : Cx} {B : Base} {ρ : Sl} {M : List Cell} {o : Expr} {R : Rp} {p pos apos mpos : Pos}
theorem ne_listVals {es : Es} (hm : X.mg "list" = none) (ho : DE X B ρ M o R) (hd : DVw M R es) (hc : X.calm = true := by rfl) (hg : Gl X "list" := by rfl) (hbase : attributeBase o "values" X.env (eval o X.env) = eval o X.env := by rfl) (hline : (apos.endLine == mpos.line) = true := by rfl)
    (hse : starEach [Expr.Call (.Attribute o "values" apos) [] [] mpos] X.env = [(false, eval (Expr.Call (.Attribute o "values" apos) [] [] mpos) X.env)] := by rfl)
    (hbt : backTo pos (starEach [Expr.Call (.Attribute o "values" apos) [] [] mpos] X.env) = [(false, eval (Expr.Call (.Attribute o "values" apos) [] [] mpos) X.env)] := by rfl) :
    NE X B ρ M (.Call (.Name "list" p) [.Call (.Attribute o "values" apos) [] [] mpos] [] pos) (wL (es.map Prod.snd)) := fun σ G H s Q q =>
  sem_e (pe_listVals hc hg hm pe_sem hbase hline hse hbt) (ho σ G H s _ fun u G1 H1 g1 r1 => by
    have s1 := s.grow g1
    obtain ⟨a, kvs, rfl, ha, t⟩ := hd G1 H1 u s1.sub s1.mem r1
    refine ⟨a, kvs, rfl, ha, fun p hp => ?_⟩
    obtain ⟨g, hg⟩ := new_grow (o := .lst (kvs.map (·.2))) s1.sub hp
    refine q p _ _ _ (g1.trans g) hg (g1.hh.free hp) upd_same ⟨_, rfl, ?_⟩
    have : ∀ {es : Es} {kvs : List (Key × V)}, KVs G1 es kvs → All2 G1 (es.map Prod.snd) (kvs.map (·.2)) := by
      intro es kvs h
      induction h with
      | nil => exact .nil
      | cons h t ih => exact .cons h.2 ih
    exact this t)
end
end KL

/-! KF15 -/
namespace KL
open PySem PySem.Spec PyProof.Rows L2 KM
/-! ### webs joined like a tree -/
def helpersOf (cs : List Cd) : List Nm := cs.flatMap Cd.helpers
structure CdSz (c : Cd) : Prop where
  ok : CdOk c
  s1 : 1 ≤ c.signs.length
  s3 : c.signs.length ≤ 3
  h1 : c.helpers.length ≤ 1
  cz : c.clauses.length ≤ 900
structure TrOk (cs : List Cd) : Prop where
  each : ∀ c ∈ cs, CdSz c
  join : ∀ i c, cs[i]? = some c → ∀ x ∈ c.signs, ∀ y ∈ c.signs, x ∈ webNames (cs.take i) → y ∈ webNames (cs.take i) → x = y
  hnod : (helpersOf cs).Nodup
  hdis : ∀ h ∈ helpersOf cs, h ∉ webNames cs
theorem mem_web_snoc {cs : List Cd} {c : Cd} {n : Nm} : n ∈ webNames (cs ++ [c]) ↔ n ∈ webNames cs ∨ n ∈ c.signs := by
  rw [mem_webNames, mem_webNames]
  constructor
  · rintro ⟨d, hd, h⟩
    rcases List.mem_append.mp hd with hd | hd
    · exact .inl ⟨d, hd, h⟩
    · have e : d = c := by simpa using hd
      exact .inr (e ▸ h)
  · rintro (⟨d, hd, h⟩ | h)
    · exact ⟨d, List.mem_append_left _ hd, h⟩
    · exact ⟨c, by simp, h⟩
theorem helpersOf_snoc (cs : List Cd) (c : Cd) : helpersOf (cs ++ [c]) = helpersOf cs ++ c.helpers := by unfold helpersOf; rw [List.flatMap_append, List.flatMap_singleton]
theorem helpersOf_len {cs : List Cd} (h : ∀ c ∈ cs, CdSz c) : (helpersOf cs).length ≤ cs.length := by
  have := flat_le (m := 1) (f := Cd.helpers) cs fun c hc => (h c hc).h1
  unfold helpersOf
  omega
theorem TrOk.nil : TrOk [] := ⟨fun c h => (List.not_mem_nil h).elim, fun i c h => (by cases h), List.nodup_nil, fun h hh => (by cases hh)⟩
theorem TrOk.snoc {cs : List Cd} {c : Cd} (t : TrOk cs) (hc : CdSz c) (htk : ∀ x ∈ c.signs, x ∉ helpersOf cs) (hone : ∀ x ∈ c.signs, ∀ y ∈ c.signs, x ∈ webNames cs → y ∈ webNames cs → x = y) (hh : ∀ h ∈ c.helpers, h ∉ helpersOf cs ∧ h ∉ webNames cs) : TrOk (cs ++ [c]) := by
  have hsh : ∀ h ∈ c.helpers, h ∉ c.signs := fun h h1 h2 => (List.nodup_append.mp hc.ok.nod).2.2 h h2 h h1 rfl
  refine ⟨fun d hd => ?_, fun i d hi x hx y hy h1 h2 => ?_, ?_, fun h hm hw => ?_⟩
  · rcases List.mem_append.mp hd with hd | hd
    · exact t.each d hd
    · have e : d = c := by simpa using hd
      exact e ▸ hc
  · by_cases hlt : i < cs.length
    · rw [List.getElem?_append_left hlt] at hi
      rw [List.take_append_of_le_length (by omega)] at h1 h2
      exact t.join i d hi x hx y hy h1 h2
    · rw [List.getElem?_append_right (by omega)] at hi
      have e0 : i - cs.length = 0 := by
        cases q : i - cs.length with
        | zero => rfl
        | succ k => rw [q] at hi; simp at hi
      rw [e0] at hi
      have e : c = d := by simpa using hi
      have ei : i = cs.length := by omega
      rw [ei, List.take_append_of_le_length (Nat.le_refl _), List.take_length] at h1 h2
      subst e
      exact hone x hx y hy h1 h2
  · rw [helpersOf_snoc, List.nodup_append]
    exact ⟨t.hnod, (List.nodup_append.mp hc.ok.nod).2.1, fun a ha b hb e => (hh b hb).1 (e ▸ ha)⟩
  · rw [helpersOf_snoc] at hm
    rw [mem_web_snoc] at hw
    rcases List.mem_append.mp hm with hm | hm
    · rcases hw with hw | hw
      · exact t.hdis h hm hw
      · exact htk h hw hm
    · rcases hw with hw | hw
      · exact (hh h hm).2 hw
      · exact hsh h hm hw
theorem ren_nil (n : Nm) : ren [] n = n := rfl
theorem ren_one (a b n : Nm) : ren [(a, b)] n = if a = n then b else n := by
  unfold ren lkN
  by_cases h : a = n
  · rw [if_pos h, if_pos h]; rfl
  · rw [if_neg h, if_neg h]; rfl
theorem renC_con {es : List (Nm × Nm)} {ns : List Nm} {d : Cl Nm} (h : ClOk ns d) (inj : ∀ x ∈ ns, ∀ y ∈ ns, ren es x = ren es y → x = y) : Con (renC es d) := fun l hl hn => by
  obtain ⟨k, hk, rfl⟩ := List.mem_map.mp hl
  obtain ⟨j, hj, e⟩ := List.mem_map.mp hn
  have e1 : ren es j.nm = ren es k.nm := congrArg Lt.nm e
  have e2 : j.pos = !k.pos := congrArg Lt.pos e
  have e3 := inj _ (h.2 j hj) _ (h.2 k hk) e1
  refine h.con k hk ?_
  have : k.neg = j := by
    cases j with | mk p n => cases k with | mk q m => simp at e2 e3; subst e2; subst e3; rfl
  rw [this]; exact hj
theorem ren_cd {c : Cd} {es : List (Nm × Nm)} (h : CdOk c) (h1 : c.helpers.length ≤ 1) (hk : es.map Prod.fst = c.helpers) (hf : ∀ m ∈ es.map Prod.snd, m ∉ c.signs) : (renCd c es).signs = c.signs ∧ (renCd c es).helpers = es.map Prod.snd ∧ CdOk (renCd c es) := by
  have key : c.signs.map (ren es) = c.signs ∧ c.helpers.map (ren es) = es.map Prod.snd ∧ (c.signs ++ es.map Prod.snd).Nodup ∧ (∀ x ∈ c.signs ++ c.helpers, ∀ y ∈ c.signs ++ c.helpers, ren es x = ren es y → x = y) := by
    have hnd := h.nod
    match es, hk, hf with
    | [], hk, hf =>
      have e : c.helpers = [] := hk.symm
      refine ⟨List.map_id' _, by rw [e]; rfl, ?_, fun x _ y _ e => e⟩
      rw [e] at hnd
      exact hnd
    | [(a, b)], hk, hf =>
      have e : c.helpers = [a] := hk.symm
      rw [e] at hnd
      have ha : a ∉ c.signs := fun z => (List.nodup_append.mp hnd).2.2 a z a (by simp) rfl
      have hb : b ∉ c.signs := hf b (by simp)
      have hs : ∀ x ∈ c.signs, ren [(a, b)] x = x := fun x hx => by rw [ren_one, if_neg (fun z => ha (show a ∈ c.signs by rw [z]; exact hx))]
      refine ⟨?_, ?_, nodup_end (List.nodup_append.mp hnd).1 hb, ?_⟩
      · conv => rhs; rw [← List.map_id c.signs]
        exact List.map_congr_left hs
      · rw [e]
        show [ren [(a, b)] a] = [b]
        rw [ren_one, if_pos rfl]
      · intro x hx y hy exy
        rw [e] at hx hy
        have hra : ren [(a, b)] a = b := by rw [ren_one, if_pos rfl]
        rcases List.mem_append.mp hx with hx | hx
        · rcases List.mem_append.mp hy with hy | hy
          · rw [hs x hx, hs y hy] at exy; exact exy
          · have e : y = a := by simpa using hy
            rw [e, hra, hs x hx] at exy
            exact absurd (show b ∈ c.signs by rw [← exy]; exact hx) hb
        · have ex : x = a := by simpa using hx
          rcases List.mem_append.mp hy with hy | hy
          · rw [ex, hra, hs y hy] at exy
            exact absurd (show b ∈ c.signs by rw [exy]; exact hy) hb
          · have e : y = a := by simpa using hy
            rw [ex, e]
    | a :: b :: r, hk, hf =>
      rw [← hk] at h1
      simp at h1
  obtain ⟨k1, k2, k3, k4⟩ := key
  refine ⟨k1, k2, ?_, ?_⟩
  · show (c.signs.map (ren es) ++ c.helpers.map (ren es)).Nodup
    rw [k1, k2]; exact k3
  · intro d hd
    show ClOk (c.signs.map (ren es) ++ c.helpers.map (ren es)) d
    refine once_ok (fun x hx => ?_) (by rw [k1, k2]; exact k3) d hd
    obtain ⟨y, hy, rfl⟩ := List.mem_map.mp hx
    exact renC_con (h.cls y hy) k4
section
variable {X : Cx} {B : Base} {ρ : Sl} {M : List Cell} {a b c d : Expr} {pos p : Pos} {k : Nat}
theorem xe_branch {g : BrG} {Rst : List Cell} (F : Dn X.prog X.w X.K X.mg X.base "_law_branch" k p_l_branch c_branch) (hr : Room k X.A) (ha : DE X B ρ M a (rV (.ref g.st.p))) (hb : DE X B ρ M b g.Rc) (hc : DE X B ρ M c g.Rt) (hd : DE X B ρ M d (rI 3)) (h1 : BrP g) (hok : StOk g.st) (hn : g.st.n + 60 ≤ 1000000) (hw : StW B g.st) (hM : M.Perm (stC g.st ++ (g.M0 ++ Rst)))
    (hg : Gl X "_law_branch" := by rfl) (he : starEach [a, b, c, d] X.env = (false, eval a X.env) :: starEach [b, c, d] X.env := by rfl) (he2 : starEach [b, c, d] X.env = (false, eval b X.env) :: starEach [c, d] X.env := by rfl) (he3 : starEach [c, d] X.env = (false, eval c X.env) :: starEach [d] X.env := by rfl) (he4 : starEach [d] X.env = (false, eval d X.env) :: starEach [] X.env := by rfl) (hpl : (backTo pos (starEach [b, c, d] X.env)).any (·.1) = false := by rfl) :
    XE X B ρ M (.Call (.Name "_law_branch" p) [a, b, c, d] [] pos) (fun z : StS × List Nm => StNx g.st z.1 60 ∧ BrQ g z.2) (fun z => rL (z.2.map rNm)) (fun z => stC z.1 ++ (g.M0 ++ Rst)) :=
  xe_st (g := g) F hr (da_cons ha (da_cons hb (da_cons hc (da_cons hd da_nil he4) he3) he2) he) hok hn h1 hw hM hg (by decide) he hpl
theorem xe_dead {s : StS} {S : List Nm} {Rst : List Cell} (F : Dn X.prog X.w X.K X.mg X.base "_law_dead_code" k p_l_dead_code c_dead) (hr : Room k X.A) (ha : DE X B ρ M a (rV (.ref s.p))) (hb : DE X B ρ M b (rL (S.map rNm))) (hc : DE X B ρ M c (rI 1)) (h1 : S.Nodup) (h2 : S.length ≤ 3) (hok : StOk s) (hn : s.n + 400 ≤ 1000000) (hw : StW B s) (hM : M.Perm (stC s ++ Rst))
    (hg : Gl X "_law_dead_code" := by rfl) (he : starEach [a, b, c] X.env = (false, eval a X.env) :: starEach [b, c] X.env := by rfl) (he2 : starEach [b, c] X.env = (false, eval b X.env) :: starEach [c] X.env := by rfl) (he3 : starEach [c] X.env = (false, eval c X.env) :: starEach [] X.env := by rfl) (hpl : (backTo pos (starEach [b, c] X.env)).any (·.1) = false := by rfl) :
    XE X B ρ M (.Call (.Name "_law_dead_code" p) [a, b, c] [] pos) (fun z : StS × (Cd × List (Cl Nm)) => StNx s z.1 400 ∧ CdOk z.2.1 ∧ z.2.1.signs = S ∧ z.2.1.helpers.length ≤ 1 ∧ z.2.1.clauses.length ≤ 900) (fun z => rT [rCd z.2.1, rCs z.2.2]) (fun z => stC z.1 ++ Rst) :=
  xe_st (g := (s, S)) F hr (da_cons ha (da_cons hb (da_cons hc da_nil he3) he2) he) hok hn ⟨h1, h2⟩ hw hM hg (by decide) he hpl
end
def forBody : Stmt → List Stmt
  | .For _ _ b _ _ => b
  | _ => []
section
variable {P : Program} {w : World} {K : PySem.W.Frag} {mg : Str → Option Value} {base : Heap}
abbrev c_tree : Ct := c_st (γ := StS × Nat) (α := List Cd) (fun g => g.1) (fun g => 500 * g.2) (fun g => [rI (g.2 : Nat), rI 3, rI 5]) (fun _ => []) (fun g => g.2 ≤ 25) (fun g cs => TrOk cs ∧ cs.length = g.2) fun _ cs => rL (cs.map rCd)
theorem dn_l_tree (bi : BI mg) (F : DefAt K mg "_law_tree" s_l_tree) (Fd : Dn P w K mg base "_law_draw" 1 p_l_draw c_draw) (Fu : Dn P w K mg base "_law_fulls" 1 p_l_fulls c_fulls) (Fs : Dn P w K mg base "_law_shortest" 3 p_l_shortest c_shortest) (Ff : Dn P w K mg base "_law_fresh" 3 p_l_fresh c_fresh) (Fw : Dn P w K mg base "_law_web_names" 1 p_l_web_names c_webNames) (Fb : Dn P w K mg base "_law_branch" 4 p_l_branch c_branch) (Fc : Dn P w K mg base "_law_dead_code" 5 p_l_dead_code c_dead) (Fr : Dn P w K mg base "_law_renamed" 3 p_l_renamed c_renamed) : Dn P w K mg base "_law_tree" 6 p_l_tree c_tree := by
  refine dn_mk F sc_l_tree (fun _ => rfl) (fun _ _ _ _ _ _ us hl => match us, hl with | [_, _, _, _], _ => rfl) fun f cdv A outer s H E B D (g : StS × Nat) hr hz hF hP hD => ?_
  obtain ⟨st, many⟩ := g
  obtain ⟨ok, hn, hm⟩ := hz
  have hn : st.n + 500 * many ≤ 1000000 := hn
  have hm : many ≤ 25 := hm
  have Fd := Fd.mono (show 1 ≤ 5 by decide)
  have Fu := Fu.mono (show 1 ≤ 5 by decide)
  have Fs := Fs.mono (show 3 ≤ 5 by decide)
  have Ff := Ff.mono (show 3 ≤ 5 by decide)
  have Fw := Fw.mono (show 1 ≤ 5 by decide)
  have Fb := Fb.mono (show 4 ≤ 5 by decide)
  have Fr := Fr.mono (show 3 ≤ 5 by decide)
  have hw : StW B st := ⟨.inl (by rw [hF]; exact .inl rfl), .inl (by rw [hF]; exact .inr rfl)⟩
  show Tr _ B [some (rV (.ref st.p)), some (rI (many : Nat)), some (rI 3), some (rI 5), none, none, none, none, none, none, none, none, none] (stC st) _ D
  refine tr_par2 4 5 sc_l_tree.nd (NE.xo (W := wL []) (ne_lst da_nil (Nat.zero_le _))) (fun a ha => NE.xo (W := wL []) (ne_lst da_nil (Nat.zero_le _))) ?_
  intro ac at_ hac hat
  show Tr _ B [some (rV (.ref st.p)), some (rI (many : Nat)), some (rI 3), some (rI 5), some (rV (.ref ac)), some (rV (.ref at_)), none, none, none, none, none, none, none] (stC st ++ [cL ac [], cL at_ []]) _ D
  refine tr_range (α := Unit) (P := fun _ => True) (T := StS × List Cd) (n := fun _ => many) (M1 := fun _ => stC st ++ [cL ac [], cL at_ []]) 6 sc_l_tree.nd bi.range (de_var 1).xe (fun _ _ => by omega) (fun _ _ => [some (rV (.ref st.p)), some (rI (many : Nat)), some (rI 3), some (rI 5), some (rV (.ref ac)), some (rV (.ref at_)), none, none, none, none, none, none, none]) (fun _ t => stC t.1 ++ [cL ac (t.2.map rCd), cL at_ ((helpersOf t.2).map rNm)]) (fun _ i t => StNx st t.1 (500 * i) ∧ t.2.length = i ∧ TrOk t.2) (fun _ => (st, [])) (fun _ _ => ⟨StNx.refl ok, rfl, TrOk.nil⟩) (fun _ _ => ⟨rfl, rfl, rfl, rfl, rfl, rfl, trivial⟩) (fun _ _ => rfl) ?_ ?_
  · rintro _ i ⟨s0, cs⟩ _ hi ⟨nx0, hcl, tok⟩ D' hn' hrt
    have hi : i < many := hi
    have hcl : cs.length = i := hcl
    have nn0 : s0.n ≤ st.n + 500 * i := nx0.n
    have hwl : (webNames cs).length ≤ 3 * cs.length := webNames_len fun c hc => (tok.each c hc).s3
    have tok : TrOk cs := tok
    have hhl : (helpersOf cs).length ≤ cs.length := helpersOf_len tok.each
    have e1 : cL ac (cs.map rCd) ∈ stC s0 ++ [cL ac (cs.map rCd), cL at_ ((helpersOf cs).map rNm)] := by simp
    have memM : ∀ (s1 : StS) G H, Mem G H (stC s1 ++ [cL ac (cs.map rCd), cL at_ ((helpersOf cs).map rNm)]) → Mem G H [cL ac (cs.map rCd), cL at_ ((helpersOf cs).map rNm)] := fun s1 G H m => mem_right m
    refine tr_setX 7 sc_l_tree.nd (xe_branch (g := BrG.mk s0 (rV (.ref ac)) (rV (.ref at_)) [cL ac (cs.map rCd), cL at_ ((helpersOf cs).map rNm)] cs (helpersOf cs)) (Rst := []) Fb hr (by show DE _ _ _ _ _ (rV (.ref s0.p)); rw [nx0.p]; exact de_var 0) (de_var 4) (de_var 5) (de_var 2) ⟨sv_m (by simp), lv_c (by simp), by show cs.length ≤ 100; omega, fun c hc => (tok.each c hc).s3, by show (helpersOf cs).length ≤ 100; omega, fun n h1 h2 => tok.hdis n h2 h1⟩ nx0.ok (by show s0.n + 60 ≤ 1000000; omega) (hw.nx nx0) (List.Perm.refl _)) ?_
    rintro ⟨s1, S⟩ ⟨nx1, q⟩
    have nx1 : StNx s0 s1 60 := nx1
    have nn1 := nx1.n
    have q1 : 1 ≤ S.length := q.lo
    have q3 : S.length ≤ 3 := q.hi
    have qn : S.Nodup := q.nod
    have qt : ∀ x ∈ S, x ∉ helpersOf cs := q.tk
    have qo : ∀ x ∈ S, ∀ y ∈ S, x ∈ webNames cs → y ∈ webNames cs → x = y := q.one
    have nx01 := nx0.trans nx1
    refine tr_unp (α := StS × (Cd × List (Cl Nm))) (P := fun z => StNx s1 z.1 400 ∧ CdOk z.2.1 ∧ z.2.1.signs = S ∧ z.2.1.helpers.length ≤ 1 ∧ z.2.1.clauses.length ≤ 900) (M' := fun z => stC z.1 ++ [cL ac (cs.map rCd), cL at_ ((helpersOf cs).map rNm)]) (R1 := fun z => rCd z.2.1) (R2 := fun z => rCs z.2.2) 8 9 sc_l_tree.nd (xe_dead (s := s1) (S := S) (Rst := [cL ac (cs.map rCd), cL at_ ((helpersOf cs).map rNm)]) Fc hr (by rw [← nx01.p]; exact de_var 0) (de_var 7) de_int qn q3 nx1.ok (by omega) (hw.nx nx01) (List.Perm.refl _)) ?_
    rintro ⟨s2, c, al⟩ ⟨nx2, hcd, hcS, hch, hcz⟩
    have nx2 : StNx s1 s2 400 := nx2
    have nn2 := nx2.n
    have nx02 := nx01.trans nx2
    have fin : ∀ (s3 : StS) (c : Cd), StNx s2 s3 10 → CdOk c → c.signs = S → c.helpers.length ≤ 1 → c.clauses.length ≤ 900 → Tr (KX P w K mg base n_l_tree "_law_tree" (defScope s_l_tree) f cdv A outer s H E) B [some (rV (.ref st.p)), some (rI (many : Nat)), some (rI 3), some (rI 5), some (rV (.ref ac)), some (rV (.ref at_)), none, some (rL (S.map rNm)), some (rCd c), none, none, none, none] (stC s3 ++ [cL ac (cs.map rCd), cL at_ ((helpersOf cs).map rNm)]) ((forBody ((defBody s_l_tree).getD 1 (.Pass ⟨0, 0, 0, 0⟩))).drop 3) D' := by
      intro s3 c nx3 hcd hcS hch hcz
      have nn3 := nx3.n
      have nx03 := nx02.trans nx3
      have hhn : c.helpers.Nodup := (List.nodup_append.mp hcd.nod).2.1
      refine tr_own 10 sc_l_tree.nd ne_dnew fun ar har => ?_
      refine tr_for (S := StS × List (Nm × Nm)) (α := Nm) 11 PassesOwn.never sc_l_tree.nd (de_dget (hu_of hr) (de_var 8) dv_d de_str (cd_h c)) (fun _ => [some (rV (.ref st.p)), some (rI (many : Nat)), some (rI 3), some (rI 5), some (rV (.ref ac)), some (rV (.ref at_)), none, some (rL (S.map rNm)), some (rCd c), none, some (rV (.ref ar)), none, none]) (fun t => stC t.1 ++ [cL ac (cs.map rCd), cL at_ ((helpersOf cs).map rNm), cD ar (renE t.2)]) (fun i t => StNx s3 t.1 (12 * i) ∧ t.2.map Prod.fst = c.helpers.take i ∧ ∀ m ∈ t.2.map Prod.snd, m ∉ helpersOf cs ∧ m ∉ webNames cs ∧ m ∉ S) (s3, []) c.helpers rNm sv_l ⟨StNx.refl nx3.ok, rfl, fun m h => by cases h⟩ ⟨rfl, rfl, rfl, rfl, rfl, rfl, rfl, rfl, rfl, trivial⟩ (by simp) ?_ ?_
      · rintro P2 pm2 j n ⟨s4, es⟩ hj ⟨nx4, hk, hfr⟩ D2 hn2 hrt2
        have hj1 : j < c.helpers.length := (List.getElem?_eq_some_iff.mp hj).1
        have hk : es.map Prod.fst = c.helpers.take j := hk
        have nn4 : s4.n ≤ s3.n + 12 * j := nx4.n
        have nx04 := nx03.trans nx4
        have hel : es.length = j := by
          have := congrArg List.length hk
          rw [List.length_map, List.length_take] at this
          omega
        have hnew : valE (renE es) n.val = none := by
          rw [valE_ren]
          cases q : lkN es n with
          | none => rfl
          | some m =>
            exfalso
            have : ∀ {es : List (Nm × Nm)}, lkN es n = some m → n ∈ es.map Prod.fst := by
              intro es
              induction es with
              | nil => intro h; cases h
              | cons e r ih =>
                intro h
                unfold lkN at h
                split at h
                · rename_i he
                  rw [List.map_cons, he]; exact List.mem_cons_self
                · exact List.mem_cons_of_mem _ (ih h)
            have hm2 := this q
            rw [hk] at hm2
            have hj0 : j = 0 := by omega
            rw [hj0] at hm2
            cases hm2
        have hkn : ((renE es).map Prod.fst).Nodup := by
          rw [List.map_map]
          have e : es.map (Prod.fst ∘ fun e => (e.1.val, rNm e.2)) = (es.map Prod.fst).map Subtype.val := by rw [List.map_map]; rfl
          rw [e, hk, List.Nodup, List.pairwise_map]
          exact (hhn.sublist (List.take_sublist _ _)).imp fun {a b} h z => h (Subtype.ext z)
        refine tr_dput (a := ar) (es := renE es) (k := n.val) (P := fun z : StS × Nm => StNx s4 z.1 12 ∧ z.2 ∉ helpersOf cs ++ webNames cs ++ S ++ es.map Prod.snd) (S := fun z => rNm z.2) (M' := fun z => stC z.1 ++ [cL ac (cs.map rCd), cL at_ ((helpersOf cs).map rNm), cD ar (renE es)]) 4 (hu_of hr) ?_ (fun _ _ => de_var 10) (fun _ _ => de_var 11) (fun _ _ => rfl) (.inr har) (by rw [List.length_map]; omega) hkn ?_
        · refine xe_fresh (s := s4) (taken := helpersOf cs ++ webNames cs ++ S ++ es.map Prod.snd) (Rst := [cL ac (cs.map rCd), cL at_ ((helpersOf cs).map rNm), cD ar (renE es)]) Ff hr (by rw [← nx04.p]; exact de_var 0) (DE.is (NE.de (ne_op op_cat (NE.de (ne_op op_cat (NE.de (ne_op op_cat (de_var 5) (de_call (R := rL ((webNames cs).map rNm)) Fw hr (rV (.ref ac), [cL ac (cs.map rCd)], cs) (da_cons (de_var 4) da_nil) ⟨sv_m List.mem_cons_self, by show cs.length ≤ 100; omega, fun c hc => (tok.each c hc).s3⟩ (fun _ _ _ _ r => r) (hM := fun G H m => m.sub (by simp))) (opn_cat (lv_c (rs := (helpersOf cs).map rNm) (by simp)) lv_l (by rw [List.length_map, List.length_map]; omega)))) (de_var 7) (opn_cat lv_l lv_l (by rw [List.length_append, List.length_map, List.length_map, List.length_map]; omega)))) (NE.de (ne_listVals bi.list (de_var 10) (dv_c (es := renE es) (by simp)))) (opn_cat lv_l lv_l (by rw [List.length_append, List.length_append, List.length_map, List.length_map, List.length_map, List.length_map, List.length_map]; omega)))) ?_) (by rw [List.length_append, List.length_append, List.length_append, List.length_map]; omega) nx4.ok (by omega) (hw.nx nx04) (List.Perm.refl _)
          show rL _ = rL _
          rw [List.map_append, List.map_append, List.map_append, List.map_map, List.map_map]; rfl
        · rintro ⟨s5, m⟩ ⟨nx5, hm5⟩
          have hm5 : m ∉ helpersOf cs ++ webNames cs ++ S ++ es.map Prod.snd := hm5
          simp only [List.mem_append, not_or] at hm5
          show Tr _ _ _ (stC s5 ++ [cL ac (cs.map rCd), cL at_ ((helpersOf cs).map rNm), cD ar (putE (renE es) n.val (rNm m))]) _ _
          rw [putE_new hnew, show renE es ++ [(n.val, rNm m)] = renE (es ++ [(n, m)]) by show _ = (es ++ [(n, m)]).map _; rw [List.map_append]; rfl]
          refine tr_nil fun σ G H st2 => hn2 (s5, es ++ [(n, m)]) ⟨(nx4.trans nx5).mono (by omega), ?_, fun x hx => ?_⟩ σ G H (st2.less ⟨rfl, rfl, rfl, rfl, rfl, rfl, rfl, rfl, rfl, trivial⟩)
          · show (es ++ [(n, m)]).map Prod.fst = c.helpers.take (j + 1)
            rw [List.map_append, hk, List.take_add_one, hj]; rfl
          · have hx : x ∈ (es ++ [(n, m)]).map Prod.snd := hx
            rw [List.map_append] at hx
            rcases List.mem_append.mp hx with hx | hx
            · exact hfr x hx
            · have e : x = m := by simpa using hx
              rw [e]
              exact ⟨hm5.1.1.1, hm5.1.1.2, hm5.1.2⟩
      · rintro ⟨s4, es⟩ ⟨nx4, hk, hfr⟩
        rw [List.take_length] at hk
        have hk : es.map Prod.fst = c.helpers := hk
        have nn4 : s4.n ≤ s3.n + 12 * c.helpers.length := nx4.n
        have nx04 : StNx st s4 (500 * (i + 1)) := (nx03.trans nx4).mono (by omega)
        obtain ⟨r1, r2, r3⟩ := ren_cd hcd hch hk fun m hm => by rw [hcS]; exact (hfr m hm).2.2
        have hc2 : CdSz (renCd c es) := ⟨r3, by rw [r1, hcS]; exact q1, by rw [r1, hcS]; exact q3, by rw [r2, List.length_map, ← List.length_map (f := Prod.fst) (as := es), hk]; exact hch, by
          have := onceM_len (c.clauses.map (renC es)) (c.signs.map (ren es) ++ c.helpers.map (ren es))
          rw [List.length_map] at this
          show (onceM _ _).length ≤ 900
          omega⟩
        have tok2 : TrOk (cs ++ [renCd c es]) := tok.snoc hc2 (by rw [r1, hcS]; exact qt) (by rw [r1, hcS]; exact qo) (by rw [r2]; exact fun h hh => ⟨(hfr h hh).1, (hfr h hh).2.1⟩)
        refine tr_pubL (M := stC s4 ++ [cL ac (cs.map rCd), cL at_ ((helpersOf cs).map rNm)]) 10 har ?_ ?_
        · rfl
        refine tr_set (R := rCd (renCd c es)) 8 sc_l_tree.nd (de_call Fr hr (c, es) (da_cons (de_var 8) (da_cons (de_var 10) da_nil)) ⟨by show c.signs.length ≤ 100; rw [hcS]; omega, by show c.helpers.length ≤ 100; omega, by show c.clauses.length ≤ 1000; omega, fun d hd => ?_⟩ fun _ _ _ _ r => r) ?_
        · have := (hcd.cls d hd).len
          rw [List.length_append, hcS] at this
          omega
        refine tr_extend (ss := (renCd c es).helpers.map rNm) 3 (de_var 5) (de_dget (hu_of hr) (de_var 8) dv_d de_str (cd_h (renCd c es))) lv_l rfl (.inr hat) (by have := hc2.h1; rw [List.length_map, List.length_map]; omega) ?_
        show Tr _ _ _ (stC s4 ++ [cL ac (cs.map rCd), cL at_ ((helpersOf cs).map rNm ++ (renCd c es).helpers.map rNm)]) _ _
        rw [rNm_app, ← helpersOf_snoc]
        refine tr_append 2 (de_var 4) (de_var 8) rfl (.inr hac) (by rw [List.length_map]; omega) ?_
        show Tr _ _ _ (stC s4 ++ [cL ac (cs.map rCd ++ [rCd (renCd c es)]), cL at_ ((helpersOf (cs ++ [renCd c es])).map rNm)]) _ _
        rw [show cs.map rCd ++ [rCd (renCd c es)] = (cs ++ [renCd c es]).map rCd by rw [List.map_append]; rfl]
        exact tr_nil fun σ G H st2 => hn' (s4, cs ++ [renCd c es]) ⟨nx04, by show (cs ++ [renCd c es]).length = i + 1; rw [List.length_append, hcl]; rfl, tok2⟩ σ G H (st2.less ⟨rfl, rfl, rfl, rfl, rfl, rfl, trivial⟩)
    have hfl : (fulls S).length ≤ 8 := by
      rw [fulls_len]
      exact Nat.pow_le_pow_right (n := 2) (by decide) q3
    refine tr_ifX (α := StS × Bool) (P := fun z => StNx s2 z.1 1) (b := fun z => z.2) (M' := fun z => stC z.1 ++ [cL ac (cs.map rCd), cL at_ ((helpersOf cs).map rNm)]) (xt_or (α := (StS × Nat) × Unit) (P := fun z => (StNx s2 z.1.1 1 ∧ z.1.2 < 8) ∧ True) (d := fun z => decide ((5 : Int) ≤ z.1.2)) (M1 := fun z => stC z.1.1 ++ [cL ac (cs.map rCd), cL at_ ((helpersOf cs).map rNm)]) (xt_cmp op_ge (xe_draw (s := s2) (m := 8) (Rst := [cL ac (cs.map rCd), cL at_ ((helpersOf cs).map rNm)]) Fd hr (by rw [← nx02.p]; exact de_var 0) de_int (by decide) (by decide) nx2.ok (by omega) (hw.nx nx02) (List.Perm.refl _)) (fun _ _ => (de_var 3).xe) fun _ _ _ _ => opv_II0) (fun z hz _ => ?_) (fun z hz hd => ⟨(z.1.1, true), hz.1.1, rfl, rfl⟩)) ?_ ?_
    · exact XT.to (dt_cmp (op_eqD hr.units) (de_var 9) (ne_lst (Rs := []) da_nil (Nat.zero_le _)).de (opv_eqNil (df := dC) (n := 1) (rd_L fun d _ => rd_C d).m (fun d _ => sh_C d) (by decide))).xt (fun _ => (z.1.1, al.isEmpty)) (fun _ _ => hz.1.1) (fun _ _ => rfl) fun _ _ => List.Perm.refl _
    · rintro ⟨s3, bb⟩ nx3 _
      have nx3 : StNx s2 s3 1 := nx3
      have nn3 := nx3.n
      have nx03 := nx02.trans nx3
      refine tr_lcX (α := Unit) (P := fun _ => True) (n := fun _ => ((fulls S).map rC).length) (rf := fun _ i => ((fulls S).map rC).getD i rN) (M' := fun _ => stC s3 ++ [cL ac (cs.map rCd), cL at_ ((helpersOf cs).map rNm)]) (S := StS × List (Cl Nm)) (T := (StS × Nat) × Unit × List (Cl Nm) × Nat) 9 12 sc_l_tree.nd (ix_seq' (R := rCs (fulls S)) (de_call (R := rCs (fulls S)) Fu hr (rL (S.map rNm), S) (da_cons (de_var 7) da_nil) ⟨fun _ => sv_l, by show S.length ≤ 8; omega⟩ fun _ _ _ _ r => r) fun _ => sv_l) (fun t => t.2.map rC) (fun t => stC t.1 ++ [cL ac (cs.map rCd), cL at_ ((helpersOf cs).map rNm)]) (fun _ i t => StNx s3 t.1 i ∧ t.2.length ≤ i ∧ ∀ c ∈ t.2, c ∈ fulls S) (fun _ => (s3, [])) (fun _ _ => ⟨StNx.refl nx3.ok, Nat.le_refl _, fun c hc => by cases hc⟩) (fun _ => rfl) (fun _ => rfl) (fun _ i t u => StNx t.1 u.1.1 1 ∧ u.2.2.1 = t.2) (fun u => decide ((0 : Int) < u.1.2)) (fun u => stC u.1.1 ++ [cL ac (cs.map rCd), cL at_ ((helpersOf cs).map rNm)]) ?_ ?_ ?_ ?_ ?_ ?_
      · rintro _ j ⟨s4, t⟩ _ hj ⟨nx4, htl, htok⟩ D0 _ _ _ _ _
        have hj : j < (fulls S).length := by have h : j < ((fulls S).map rC).length := hj; rwa [List.length_map] at h
        have nn4 : s4.n ≤ s3.n + j := nx4.n
        exact XT.to (xt_cmp op_gt (xe_draw (s := s4) (m := 5) (Rst := [D0, cL ac (cs.map rCd), cL at_ ((helpersOf cs).map rNm)]) Fd hr (by rw [← nx03.p, ← nx4.p]; exact (de_var 0)) de_int (by decide) (by decide) nx4.ok (by omega) ((hw.nx nx03).nx nx4) perm_front) (fun _ _ => de_int.xe) fun _ _ _ _ => opv_II0) (fun u => (u.1, (), t, 0)) (fun u hu => ⟨hu.1.1, rfl⟩) (fun _ _ => rfl) fun _ _ => perm_back
      · rintro _ j ⟨s4, t⟩ ⟨⟨s5, k5⟩, _, t', _⟩ _ hj ⟨nx4, htl, htok⟩ ⟨nx5, et⟩ _
        have hj : j < (fulls S).length := by have h : j < ((fulls S).map rC).length := hj; rwa [List.length_map] at h
        refine ⟨(s5, t ++ [(fulls S)[j]]), rC (fulls S)[j], ⟨nx4.trans nx5, by show (t ++ [(fulls S)[j]]).length ≤ j + 1; rw [List.length_append]; exact Nat.succ_le_succ htl, fun c hc => ?_⟩, (rCs_snoc _ _).symm, rfl, fun D0 _ _ _ _ _ => by rw [getD_map' hj]; exact de_var 12⟩
        rcases List.mem_append.mp hc with hc | hc
        · exact htok c hc
        · have e : c = (fulls S)[j] := by simpa using hc
          rw [e]; exact List.getElem_mem hj
      · rintro _ j ⟨s4, t⟩ ⟨⟨s5, k5⟩, _, t', _⟩ _ hj ⟨nx4, htl, htok⟩ ⟨nx5, et⟩ _
        exact ⟨(s5, t), ⟨nx4.trans nx5, Nat.le_succ_of_le htl, htok⟩, rfl, rfl⟩
      · intro _ j t h
        show (t.2.map rC).length ≤ j
        rw [List.length_map]; exact h.2.1
      · intro _ _
        show ((fulls S).map rC).length ≤ 100000
        rw [List.length_map]; omega
      · rintro _ b2 ⟨s4, t⟩ _ hb2 ⟨nx4, htl, htok⟩
        have nn4 : s4.n ≤ s3.n + ((fulls S).map rC).length := nx4.n
        have htl : t.length ≤ ((fulls S).map rC).length := htl
        rw [List.length_map] at nn4 htl
        have nx24 : StNx s2 s4 10 := (nx3.trans nx4).mono (by rw [List.length_map]; omega)
        have hsl := shortC_len (T := t) q3
        have hc2 : CdOk ⟨S, [], shortC S t⟩ := ⟨by show (S ++ []).Nodup; rw [List.append_nil]; exact qn, fun d hd => by show ClOk (S ++ []) d; rw [List.append_nil]; exact short_ok qn hd⟩
        refine tr_pub 9 0 hb2 rfl rfl ?_
        refine tr_set (R := rCd ⟨S, [], shortC S t⟩) 8 sc_l_tree.nd (NE.de (ne_disp (dp_cons de_str (de_var 7) (dp_cons de_str (NE.de (ne_lst (Rs := []) da_nil (Nat.zero_le _))) (dp_cons de_str (de_call (R := rCs (shortC S t)) Fs hr (S, t) (da_cons (de_var 7) (da_cons (de_var 9) da_nil)) ⟨q3, by show t.length ≤ 10000; omega, fun u hu => by rw [full_len (htok u hu)]; omega⟩ fun _ _ _ _ r => r) dp_nil))) (show (["signs", "helpers", "clauses"] : List Str).Nodup by decide) (show 3 ≤ 15 by decide))) ?_
        have hfin := fin s4 ⟨S, [], shortC S t⟩ nx24 hc2 rfl (Nat.zero_le _) (by show (shortC S t).length ≤ 900; omega)
        exact tr_go (Tr.less hfin ⟨rfl, rfl, rfl, rfl, rfl, rfl, rfl, rfl, trivial⟩)
    · rintro ⟨s3, bb⟩ nx3 _
      have hfin := fin s3 c (nx3.mono (by decide)) hcd hcS hch hcz
      exact tr_go (Tr.less hfin ⟨rfl, rfl, rfl, rfl, rfl, rfl, rfl, rfl, trivial⟩)
  · rintro _ ⟨s1, cs⟩ _ ⟨nx, hcl, tok⟩
    refine Tr.perm (M' := cL ac (cs.map rCd) :: (stC s1 ++ [cL at_ ((helpersOf cs).map rNm)])) ?_ perm_back
    refine tr_pub 4 0 hac rfl rfl ?_
    refine Tr.drop (M' := stC s1) ?_ (List.sublist_append_left _ _)
    exact tr_ret (R := rL (cs.map rCd)) (de_var 4) fun v σ G H st2 r => hD.rt (s1, cs) v _ _ σ G H ⟨nx, tok, hcl⟩ st2 (by have := st2.mem; exact this) r
end
end KL

/-! KF16 -/
namespace KL
open PySem PySem.Spec PyProof.Rows L2 KM
section
variable {P : Program} {w : World} {K : PySem.W.Frag} {mg : Str → Option Value} {base : Heap}
/-! ### what a table forces -/
abbrev c_forcedL : Ct := .fn (γ := List (Cl Nm) × Cl Nm) (fun g => [rCs g.1, rL (g.2.map rLt)]) (fun g => g.1.length ≤ 1000 ∧ g.2.length ≤ 1000 ∧ ∀ s ∈ g.1, s.length ≤ 1000) fun g => rOL (forcedLits g.1 g.2)
theorem dn_forced_literals (bi : BI mg) (F : DefAt K mg "forced_literals" s_forced_literals) : Dn P w K mg base "forced_literals" 1 p_forced_literals c_forcedL := by
  refine dn_mk F sc_forced_literals (fun _ => rfl) (fun _ _ _ _ _ _ us hl => match us, hl with | [_, _], _ => rfl) fun f cdv A outer s H E B D (g : List (Cl Nm) × Cl Nm) hr hz hF hP hD => ?_
  obtain ⟨T, ks⟩ := g
  obtain ⟨h1, h2, h3⟩ : T.length ≤ 1000 ∧ ks.length ≤ 1000 ∧ ∀ s ∈ T, s.length ≤ 1000 := hz
  show Tr _ B [some (rCs T), some (rL (ks.map rLt)), none, none, none] [] _ D
  have hcl : (compat T ks).length ≤ 1000 := Nat.le_trans (List.length_filter_le _ _) h1
  refine tr_set (R := rCs (compat T ks)) 2 sc_forced_literals.nd (NE.de (ne_lcIf (α := Cl Nm) 4 sc_forced_literals.nd T rC rC (fun s => ks.all fun k => decide (k ∈ s)) (de_var 0) sv_l (by omega) (fun s hs _ _ _ _ _ => ?_) fun s hs hb _ _ _ _ _ => de_var 4)) ?_
  · refine dt_val (DE.is (de_callB (cr_all rfl) bi.all (by decide +kernel) (da_cons (NE.de (ne_lc (α := Lit) 3 sc_forced_literals.nd ks rLt (fun k => rB (decide (k ∈ s))) (de_var 1) sv_l (by omega) fun k hk _ _ _ _ _ => de_cmp op_in_seq (de_var 3) (de_var 4) (opv_inLt sv_t))) da_nil) (clv_all (bs := ks.map fun k => decide (k ∈ s)) (by rw [List.map_map]; exact lv_l))) (by rw [all_id]))
  refine tr_if (dt_cmp (op_eqD hr.units) (de_var 2) (ne_lst (Rs := []) da_nil (Nat.zero_le _)).de (opv_eqNil (df := dC) (n := 1) (rd_L fun d _ => rd_C d).m (fun d _ => sh_C d) (by decide))) (fun hb => ?_) fun hb => tr_go ?_
  · have hnil : compat T ks = [] := by simpa using hb
    refine tr_ret (R := rN) de_non fun v σ G H st r => hD.rt () v _ _ σ G H trivial st .nil ?_
    show (rOL (forcedLits T ks)).p G v
    unfold forcedLits
    rw [hnil]; exact r
  · obtain ⟨s0, r, hs⟩ : ∃ s0 r, compat T ks = s0 :: r := by
      cases q : compat T ks with
      | nil => rw [q] at hb; cases hb
      | cons a b => exact ⟨a, b, rfl⟩
    have hm0 : s0 ∈ T := (mem_compat.mp (by rw [hs]; exact List.mem_cons_self)).1
    have h30 := h3 s0 hm0
    rw [hs] at hcl ⊢
    refine tr_ret (R := rL ((s0.filter fun l => !decide (l ∈ ks) && (s0 :: r).all fun o => decide (l ∈ o)).map rLt)) (NE.de (ne_lcIf (α := Lit) 3 sc_forced_literals.nd s0 rLt rLt (fun l => !decide (l ∈ ks) && (s0 :: r).all fun o => decide (l ∈ o)) (de_ix ix_list (de_var 2) de_int (opv_ixL (r := rC s0) lv_l (atI_map (f := rC) (xs := s0 :: r) (k := 0) rfl))) sv_t (by omega) (fun l hl _ _ _ _ _ => DW.dt (dw_and (dt_cmp op_notIn_seq (de_var 3) (de_var 1) (opv_notInLt sv_l)) fun _ => dw_and1 ?_)) fun l hl hb _ _ _ _ _ => de_var 3)) fun v σ G H st r' => hD.rt () v _ _ σ G H trivial st .nil ?_
    · exact dt_val (DE.is (de_callB (cr_all rfl) bi.all (by decide +kernel) (da_cons (NE.de (ne_lc (α := Cl Nm) 4 sc_forced_literals.nd (s0 :: r) rC (fun o => rB (decide (l ∈ o))) (de_var 2) sv_l (by omega) fun o ho _ _ _ _ _ => de_cmp op_in_seq (de_var 3) (de_var 4) (opv_inLt sv_t))) da_nil) (clv_all (bs := (s0 :: r).map fun o => decide (l ∈ o)) (by rw [List.map_map]; exact lv_l))) (by rw [all_id]))
    · show (rOL (forcedLits T ks)).p G v
      unfold forcedLits
      rw [hs]; exact r'
/-! ### a clause's open literals -/
def openM (c ls : Cl Nm) : Option (Cl Nm) := if meets c ls = true then none else some (c.filter fun l => !decide (l.neg ∈ ls))
abbrev c_openOnes : Ct := .rd (γ := Cl Nm × Rp × List Cell × Cl Nm) (α := Unit) (fun g => [rC g.1, g.2.1]) (fun g => g.2.2.1) (fun g => DVw g.2.2.1 g.2.1 (soE g.2.2.2) ∧ g.1.length ≤ 1000) (fun _ _ => True) fun g _ => rOL (openM g.1 g.2.2.2)
theorem dn_open_ones (F : DefAt K mg "open_ones" s_open_ones) (Fo : Dn P w K mg base "opposite" 1 p_opposite c_neg) : Dn P w K mg base "open_ones" 2 p_open_ones c_openOnes := by
  refine dn_mk F sc_open_ones (fun _ => rfl) (fun _ _ _ _ _ _ us hl => match us, hl with | [_, _], _ => rfl) fun f cdv A outer s H E B D (g : Cl Nm × Rp × List Cell × Cl Nm) hr hz hF hP hD => ?_
  obtain ⟨c, R, M0, ls⟩ := g
  obtain ⟨h1, h2⟩ : DVw M0 R (soE ls) ∧ c.length ≤ 1000 := hz
  show Tr _ B [some (rC c), some R, none, none] M0 _ D
  refine tr_own 2 sc_open_ones.nd (ne_lst da_nil (Nat.zero_le _)) fun a ha => ?_
  refine Tr.perm ?_ List.perm_append_comm
  have hv : ∀ t : Cl Nm, DVw (cL a (t.map rLt) :: M0) R (soE ls) := fun t G H v s m r => h1 G H v s (mem_right (M := [cL a (t.map rLt)]) m) r
  refine tr_for (S := Cl Nm) (α := Lit) 3 PassesOwn.never sc_open_ones.nd (de_var 0) (fun _ => [some (rC c), some R, some (rV (.ref a)), none]) (fun t => cL a (t.map rLt) :: M0) (fun i t => meets (c.take i) ls = false ∧ t = (c.take i).filter fun l => !decide (l.neg ∈ ls)) [] c rLt sv_t ⟨rfl, rfl⟩ ⟨rfl, rfl, rfl, trivial⟩ rfl ?_ ?_
  · rintro P2 pm2 i l t hi ⟨hm, ht⟩ D' hn hrt
    have htl : t.length ≤ 1000 := by
      rw [ht]
      have := List.length_filter_le (fun l => !decide (l.neg ∈ ls)) (c.take i)
      rw [List.length_take] at this
      omega
    have hme : meets (c.take (i + 1)) ls = decide (l ∈ ls) := by
      unfold meets at hm ⊢
      rw [List.take_add_one, hi, List.any_append, hm]
      simp
    refine tr_if (dt_cmp (op_inDK (hu_of hr)) (de_var 3) (de_var 1) (opv_inSo (hv t))) (fun hb => ?_) fun hb => tr_go ?_
    · refine tr_ret (R := rN) de_non fun v σ G H st r => ?_
      show D'.rt v H
      rw [hrt]
      refine hD.ret hP (pm := pm2) () trivial st .nil ?_
      show (rOL (openM c ls)).p G v
      have : meets c ls = true := meets_iff.mpr ⟨l, List.mem_of_getElem? hi, of_decide_eq_true hb⟩
      unfold openM
      rw [if_pos this]; exact r
    · refine tr_if (dt_cmp (op_notInDK (hu_of hr)) (de_call (R := rLt l.neg) Fo hr l (da_cons (de_var 3) da_nil) trivial fun _ _ _ _ r => r) (de_var 1) (opv_notInSo (hv t))) (fun hb2 => ?_) fun hb2 => ?_
      · refine tr_append 0 (de_var 2) (de_var 3) rfl (.inr ha) (by rw [List.length_map]; omega) ?_
        rw [rLt_snoc]
        refine tr_go (tr_nil fun σ G H st => hn (t ++ [l]) ⟨by rw [hme, hb], ?_⟩ σ G H (st.less ⟨rfl, rfl, rfl, trivial⟩))
        rw [take_filter_yes hi hb2, ht]
      · refine tr_go (tr_nil fun σ G H st => hn t ⟨by rw [hme, hb], ?_⟩ σ G H (st.less ⟨rfl, rfl, rfl, trivial⟩))
        rw [take_filter_no hi hb2, ht]
  · rintro t ⟨hm, ht⟩
    rw [List.take_length] at hm ht
    refine tr_pub 2 0 ha rfl rfl ?_
    refine tr_ret (R := rL (t.map rLt)) (de_var 2) fun v σ G H st r => hD.rt () v _ _ σ G H trivial st .nil ?_
    show (rOL (openM c ls)).p G v
    unfold openM
    rw [hm, if_neg Bool.false_ne_true, ← ht]; exact r
end
end KL

/-! KDc -/
/-! Dict comprehensions: text keys; keys that are tuples of texts. -/
namespace KL
open PySem PySem.Spec PyProof.Rows L2 KM
section
variable {X : Cx} {B : Base} {ρ : Sl} {M : List Cell} {kx vx iter : Expr} {R Rit : Rp} {pos : Pos} {y : Str} {py : Pos} {scope : Scope}
theorem putE_take {α : Type} {xs : List α} {fk : α → Str} {fv : α → Rp} (nd : (xs.map fk).Nodup) {i : Nat} {x : α} (hx : xs[i]? = some x) : putE ((xs.take i).map fun z => (fk z, fv z)) (fk x) (fv x) = (xs.take (i + 1)).map fun z => (fk z, fv z) := by
  have hn : valE ((xs.take i).map fun z => (fk z, fv z)) (fk x) = none := by
    have hnot : fk x ∉ (xs.take i).map fk := by
      have h2 : ((xs.take (i + 1)).map fk).Nodup := nd.sublist ((List.take_sublist _ _).map fk)
      rw [List.take_add_one, hx, List.map_append, List.nodup_append] at h2
      exact fun h => h2.2.2 _ h _ (by simp) rfl
    have : ∀ {ys : List α}, fk x ∉ ys.map fk → valE (ys.map fun z => (fk z, fv z)) (fk x) = none := by
      intro ys
      induction ys with
      | nil => intro _; rfl
      | cons z r ih =>
        intro h
        rw [List.map_cons, List.mem_cons, not_or] at h
        show (if fk z = fk x then _ else _) = none
        rw [if_neg (fun e => h.1 e.symm)]
        exact ih h.2
    exact this hnot
  rw [putE_new hn, List.take_add_one, hx, List.map_append]; rfl
/-- {k: v for y in ..}, text keys that differ -/
theorem ne_dc {α : Type} (j : Nat) (nd : X.N.Nodup) (xs : List α) (rf : α → Rp) (fk : α → Str) (fv : α → Rp) (it : DE X B ρ M iter Rit) (hsv : SVp (memP M) Rit (xs.map rf)) (hz : xs.length ≤ 100000) (hkn : (xs.map fk).Nodup)
    (hk : ∀ x ∈ xs, AllB X scope fun X' => DE X' B (ρ.set j (some (rf x))) M kx (rS (fk x))) (hv : ∀ x ∈ xs, AllB X scope fun X' => DE X' B (ρ.set j (some (rf x))) M vx (fv x)) (ok : BlkOk X.N X.env.scope scope [(y, j)] := by exact blkOk_by (by kernel_rfl)) (hj : X.N[j]? = some y := by rfl)
    (hx : AllB X scope (fun X' => L2.Loc X'.env.scope y) := by first | exact fun _ _ _ _ _ => .inl rfl | exact fun _ _ _ _ _ => .inr rfl) (hf : AllB X scope (fun X' => X'.fn y = true ∨ X'.env.scope.names.lookup y = some .local) := by first | exact fun _ _ _ _ _ => .inl rfl | exact fun _ _ _ _ _ => .inr rfl)
    (hc : X.calm = true := by rfl) (hs : ∀ x, foldedSetIterable iter X.env x = pure x := by intro _; rfl) : NE X B ρ M (.DictComp kx vx [⟨.Name y py, iter, [], 0⟩] scope pos) (wD (xs.map fun x => (fk x, fv x))) := fun σ G H s Q q => by
  refine sem_e (pe_dc (own := [(y, j)]) (g := gName j) (tt := tYes) (tk := blkE X scope kx) (tv := blkE X scope vx) hc nd (pi_seq pe_sem) ok (fun s H C cl fp => pg_name nd hj (hx s H C cl fp) (hf s H C cl fp)) (fun _ _ _ _ _ => pts_nil) (fun s H C cl fp => pe_blk s H C cl fp) (fun s H C cl fp => pe_blk s H C cl fp) hs) ?_
  refine it σ G H s _ fun u G1 H1 g1 r1 => ?_
  have s1 := s.grow g1
  obtain ⟨a, mk, ea, hmk, hvv⟩ := hsv G1 H1 u g1.sub s1.mem r1
  obtain ⟨vs1, ho1, hr1⟩ := hvv G1 H1 (Same.refl _) g1.sub s1.mem
  have inj : ∀ {p q : List V}, mk p = mk q → p = q := fun {p q} h => by rcases hmk with rfl | rfl <;> (injection h)
  refine ⟨a, mk, vs1, ea, hmk, ho1, fun It w D hD => ?_⟩
  obtain ⟨gD, hGD⟩ := new_grow (o := .dK []) g1.sub hD
  refine ⟨fun i m H' => m = xs.length - i ∧ i ≤ xs.length ∧ ∃ G', Grow G1 H1 G' H' ∧ G' D = none ∧ ∃ kvs, H' D = some (.dK kvs) ∧ KVs G' ((xs.take i).map fun x => (fk x, fv x)) kvs, ⟨xs.length, by simp, Nat.zero_le _, G1, gD, hGD, [], upd_same, .nil⟩, ?_⟩
  rintro i m H' ⟨rfl, hi, G', g', hGD', kvs, hDv, hav⟩
  obtain ⟨us, ho, hr⟩ := hvv G' H' g'.gg g'.sub (s1.mem.grow g')
  have hul : us.length = xs.length := by rw [← hr.len, List.length_map]
  by_cases hlt : i < xs.length
  · refine .inr ⟨w.1 i H' us us[i] ho (by simp [hul, hlt]), fun H' => ∃ G', Grow G1 H1 G' H' ∧ G' D = none ∧ ∃ kvs, H' D = some (.dK kvs) ∧ KVs G' ((xs.take (i + 1)).map fun x => (fk x, fv x)) kvs, fun H' p => ⟨xs.length - (i + 1), by omega, rfl, hlt, p⟩, fun v H2 yv => ?_⟩
    obtain ⟨e2, yv⟩ := w.2.2 i H' v H2 yv
    subst e2
    obtain ⟨r, hr1, hry⟩ := hr.get' (yv us ho)
    have hxi : xs[i]? = some xs[i] := List.getElem?_eq_getElem hlt
    rw [List.getElem?_map, hxi] at hr1
    have er : rf xs[i] = r := Option.some.inj hr1
    subst er
    have hxm : xs[i] ∈ xs := List.getElem_mem hlt
    have s2 : Stt B (ρ.set j (some (rf xs[i]))) M ((σ.set j none).set j (some v)) G' H2 := (s1.grow g').item j hry
    refine ⟨by show ((σ.set j none).set j (some v)).set j none = σ.set j none; rw [List.set_set, List.set_set], ?_⟩
    unfold tYes
    dsimp only
    rw [if_pos rfl]
    intro s0 H0 C cl fp
    refine hk _ hxm s0 H0 C cl fp _ G' H2 s2 _ fun kv G3 H3 g3 rk => ?_
    intro s0' H0' C' cl' fp'
    refine hv _ hxm s0' H0' C' cl' fp' _ G3 H3 (s2.grow g3) _ fun vv G4 H4 g4 rv => ?_
    have rk : kv = .str (fk xs[i]) := rk
    subst rk
    have hD4 : H4 D = some (.dK kvs) := g4.hh _ _ (g3.hh _ _ hDv)
    have n4 := no_D g4 (no_D g3 hGD' hDv) (g3.hh _ _ hDv)
    refine ⟨kvs, Sum.inr (fk xs[i]), rfl, hD4, ?_, G4, grow_D (o := .dK []) (g'.trans (g3.trans g4)) n4 hD, n4, _, upd_same, ?_⟩
    · have := Paired.length hav
      rw [List.length_map, List.length_take] at this
      exact small5' (by omega)
    · rw [← putE_take hkn hxi]
      refine kvs_put rv ?_ (KVs.mono (g3.gg.trans g4.gg) hav)
      rw [List.map_map]
      have h2 : ((xs.take i).map fk).Nodup := hkn.sublist ((List.take_sublist _ _).map fk)
      exact h2
  · have en : i = xs.length := by omega
    subst en
    refine .inl ⟨w.2.1 _ H' us ho (by omega), ?_⟩
    rw [List.take_length] at hav
    exact q D _ G' H' (g1.trans g') hGD' (g1.hh.free hD) hDv ⟨kvs, rfl, hav⟩
end
end KL

/-! KF17 -/
namespace KL
open PySem PySem.Spec PyProof.Rows L2 KM
section
variable {X : Cx} {B : Base} {ρ : Sl} {M : List Cell} {a b c : Expr} {pos p : Pos} {k : Nat} {α β γ : Type} {P : α → Prop} {P2 : α → β → Prop} {P3 : α → β → γ → Prop} {Sa : α → Rp} {Sb : α → β → Rp} {Sc : α → β → γ → Rp} {M1 : α → List Cell} {M2 : α → β → List Cell} {M3 : α → β → γ → List Cell}
theorem tr_par3 {rest : List Stmt} {D : Ends} {x y z : Str} {px py pz pt pt2 spos : Pos} {kt k2 : Nat} (i j l : Nat) (nd : X.N.Nodup) (ha : XE X B ρ M a P Sa M1) (hb : ∀ u, P u → XE X B ρ (M1 u) b (P2 u) (Sb u) (M2 u)) (hc3 : ∀ u v, P u → P2 u v → XE X B ρ (M2 u v) c (P3 u v) (Sc u v) (M3 u v))
    (k : ∀ u v w, P u → P2 u v → P3 u v w → Tr X B (((ρ.set i (some (Sa u))).set j (some (Sb u v))).set l (some (Sc u v w))) (M3 u v w) rest D) (hij : i ≠ j := by decide) (hil : i ≠ l := by decide) (hjl : j ≠ l := by decide) (hi : X.N[i]? = some x := by rfl) (hj : X.N[j]? = some y := by rfl) (hl : X.N[l]? = some z := by rfl)
    (hx : X.env.scope.names.lookup x = some .local := by rfl) (hy : X.env.scope.names.lookup y = some .local := by rfl) (hz : X.env.scope.names.lookup z = some .local := by rfl) (hc : X.calm = true := by rfl)
    (hw : swappedStores [.Tuple [.Name x px, .Name y py, .Name z pz] kt pt] (.Tuple [a, b, c] k2 pt2) X.env = pure (some [x, y, z]) := by rfl)
    (hs : swapsWithSole [.Tuple [.Name x px, .Name y py, .Name z pz] kt pt] (.Tuple [a, b, c] k2 pt2) spos.line X.env = pure false := by rfl) (hsa : starEach [a, b, c] X.env = (false, eval a X.env) :: starEach [b, c] X.env := by rfl) (hsb : starEach [b, c] X.env = (false, eval b X.env) :: starEach [c] X.env := by rfl) (hs2 : starEach [c] X.env = (false, eval c X.env) :: starEach [] X.env := by rfl) :
    Tr X B ρ M (.Assign [.Tuple [.Name x px, .Name y py, .Name z pz] kt pt] (.Tuple [a, b, c] k2 pt2) spos :: rest) D :=
  tr_sem fun σ G H s => sem_s (ps_par3 hc nd hi hj hl hij hil hjl hx hy hz (pa_cons pe_sem (pa_cons pe_sem (pa_cons pe_sem pa_nil hs2) hsb) hsa) hw hs) (ha σ G H s _ fun u v1 G1 H1 h1 sg1 s1 r1 => hb u h1 σ G1 H1 s1 _ fun v v2 G2 H2 h2 sg2 s2 r2 => hc3 u v h1 h2 σ G2 H2 s2 _ fun w v3 G3 H3 h3 sg3 s3 r3 =>
    ⟨v1, v2, v3, rfl, k u v w h1 h2 h3 _ G3 H3 (((s3.set ((Sa u).mono (sg2.trans sg3) r1)).set ((Sb u v).mono sg3 r2)).set r3)⟩)
theorem rd_N {K : PySem.W.Frag} : RdD K rN .none := fun G v h => by
  have h : v = .non := h
  subst h; exact .non
end
section
variable {P : Program} {w : World} {K : PySem.W.Frag} {mg : Str → Option Value} {base : Heap}
structure ChQ (g : ChG) : Prop where
  sv : ∀ MP, SVp MP g.R (g.cl.map rC)
  svh : ∀ MP, SVp MP g.Rh (g.half.map rLt)
  con : Con g.half
  nod : g.half.Nodup
  hn : ∀ l ∈ g.half, l.nm ∈ g.names
  cn : ∀ c ∈ g.cl, ∀ l ∈ c, l.nm ∈ g.names
  nz : g.names.length ≤ 1000
  cz : ∀ c ∈ g.cl, c.length ≤ 1000
def rOD : Option (Cl Nm) → Rp
  | none => rN
  | some L => rD (soE L)
abbrev c_chaseP : Ct := .any (γ := ChG) (α := Option (Cl Nm)) (fun g => [g.R, g.Rh]) ChQ ChPost fun _ o => rT [rOD o, rAny]
theorem de_any {X : Cx} {B : Base} {ρ : Sl} {M : List Cell} {e : Expr} {R : Rp} (h : DE X B ρ M e R) : DE X B ρ M e rAny := h.weak fun _ _ _ => trivial
theorem dn_chase (bi : BI mg) (F : DefAt K mg "chase" s_chase) (Fo : Dn P w K mg base "open_ones" 2 p_open_ones c_openOnes) : Dn P w K mg base "chase" 3 p_chase c_chaseP := by
  refine dn_mk F sc_chase (fun _ => rfl) (fun _ _ _ _ _ _ us hl => match us, hl with | [_, _], _ => rfl) fun f cdv A outer s H E B D (g : ChG) hr (hz : ChQ g) hF hP hD => ?_
  show Tr _ B [some g.R, some g.Rh, none, none, none, none, none, none, none] [] _ D
  have hhl : g.half.length ≤ g.names.length := con_len hz.nod hz.con hz.hn
  have hnz := hz.nz
  refine tr_par3 2 3 4 sc_chase.nd (NE.xo (W := wD (soE g.half)) (ne_dc (α := Lit) 8 sc_chase.nd g.half rLt ltS (fun _ => rB true) (de_var 1) (hz.svh _) (by omega) (by have := so_nodup hz.nod; rwa [so_keys] at this) (fun l hl _ _ _ _ _ => de_var 8) fun l hl _ _ _ _ _ => de_bl)) (fun a ha => NE.xo (W := wL []) (ne_lst da_nil (Nat.zero_le _))) (fun a b ha hb => de_bl.xe) ?_
  intro a b _ ha hb _
  show Tr _ B [some g.R, some g.Rh, some (rV (.ref a)), some (rV (.ref b)), some (rB true), none, none, none, none] [cD a (soE g.half), cL b []] _ D
  refine tr_while (S := Cl Nm × List Rp × Bool) PassesOwn.never (fun s => [some g.R, some g.Rh, some (rV (.ref a)), some (rV (.ref b)), some (rB s.2.2), none, none, none, none]) (fun s => [cD a (soE s.1), cL b s.2.1]) (fun s => ChJ g s.1 ∧ s.2.1.length ≤ s.1.length ∧ (s.2.2 = false → ∀ c ∈ g.cl, ∃ l ∈ c, l.neg ∉ s.1)) (fun s => 2 * (g.names.length - s.1.length) + if s.2.2 = true then 1 else 0) (fun s => s.2.2) (g.half, [], true) ⟨⟨Chi.start hz.con, hz.nod, hz.hn⟩, Nat.zero_le _, fun h => by cases h⟩ ⟨rfl, rfl, rfl, rfl, rfl, trivial⟩ rfl ?_ ?_ ?_
  · rintro ⟨so, st, mv⟩ _
    exact dt_val (de_var 4)
  · rintro ⟨so, st, mv⟩ ⟨hj, hst, hfix⟩ hb2 D' hn hrt
    have hb2 : mv = true := hb2
    subst hb2
    have hst : st.length ≤ so.length := hst
    refine tr_set (R := rB false) 4 sc_chase.nd de_bl ?_
    refine tr_forP (S := Cl Nm × List Rp × Bool) (n := (g.cl.map rC).length) (ra := fun i => rI (i : Nat)) (rb := fun i => (g.cl.map rC).getD i rN) 5 6 PassesOwn.never sc_chase.nd (ip_enum bi.enumerate (de_var 0) hz.sv) (fun s => [some g.R, some g.Rh, some (rV (.ref a)), some (rV (.ref b)), some (rB s.2.2), none, none, none, none]) (fun s => [cD a (soE s.1), cL b s.2.1]) (fun i s => ChJ g s.1 ∧ s.2.1.length ≤ s.1.length ∧ so.length ≤ s.1.length ∧ (s.2.2 = true → so.length < s.1.length) ∧ (s.2.2 = false → ∀ c ∈ g.cl.take i, ∃ l ∈ c, l.neg ∉ s.1)) (so, st, false) ⟨hj, hst, Nat.le_refl _, fun h => (by cases h), fun _ c hc => (by cases hc)⟩ ⟨rfl, rfl, rfl, rfl, rfl, trivial⟩ rfl ?_ ?_
    · rintro P2 pm2 i ⟨so2, st2, mv2⟩ hi ⟨hj2, hst2, hle2, hmv2, hfix2⟩ D2 hn2 hrt2
      have hi : i < g.cl.length := by rwa [List.length_map] at hi
      have hst2 : st2.length ≤ so2.length := hst2
      have hle2 : so.length ≤ so2.length := hle2
      have hlen2 : so2.length ≤ g.names.length := hj2.len
      have hci : g.cl[i]? = some g.cl[i] := List.getElem?_eq_getElem hi
      have hcm : g.cl[i] ∈ g.cl := List.getElem_mem hi
      rw [getD_map' hi]
      generalize g.cl[i] = c at hci hcm
      have hc1 := hz.cz c hcm
      have hkeep : ∀ d ∈ g.cl.take (i + 1), d ∈ g.cl.take i ∨ d = c := fun d hd => by
        rw [List.take_add_one, hci] at hd
        rcases List.mem_append.mp hd with hd | hd
        · exact .inl hd
        · exact .inr (by simpa using hd)
      have stay : (∃ l ∈ c, l.neg ∉ so2) → ∀ {R7 : Option Rp} (σ : L2.St) (G H : Hp), Stt (B.wp P2 pm2) [some g.R, some g.Rh, some (rV (.ref a)), some (rV (.ref b)), some (rB mv2), some (rI (i : Nat)), some (rC c), R7, none] [cD a (soE so2), cL b st2] σ G H → D2.nx σ H := fun hx R7 σ G H s => hn2 (so2, st2, mv2) ⟨hj2, hst2, hle2, hmv2, fun e d hd => by
        rcases hkeep d hd with hd | e2
        · exact hfix2 e d hd
        · exact e2 ▸ hx⟩ σ G H (s.less ⟨rfl, rfl, rfl, rfl, rfl, trivial⟩)
      refine tr_set (R := rOL (openM c so2)) 7 sc_chase.nd (de_call Fo hr (c, rV (.ref a), [cD a (soE so2)], so2) (da_cons (de_var 6) (da_cons (de_var 2) da_nil)) ⟨dv_c List.mem_cons_self, hc1⟩ (fun _ _ _ _ r => r) (hM := fun G H m => m.sub (List.sublist_append_left [cD a (soE so2)] [cL b st2]))) ?_
      by_cases hmt : meets c so2 = true
      · have ho : openM c so2 = none := if_pos hmt
        rw [ho]
        obtain ⟨l, hl1, hl2⟩ := meets_iff.mp hmt
        refine tr_if (b := false) (dt_cmp (op_eqD hr.units) (Ra := rN) (de_var 7) (ne_lst (Rs := []) da_nil (Nat.zero_le _)).de ((opv_eqD rd_N.m rd_nilL.m (by decide) (by decide)).is (congrArg rB (by decide)))) (fun h => by cases h) fun _ => tr_go ?_
        refine tr_if (b := false && true) (DW.dt (dw_and (dt_cmp op_isNotNo (de_var 7) de_non (opv_isNotN (c := true) fun G v h => by have h : v = .non := h; simp [h])) fun h => by cases h)) (fun h => by cases h) fun _ => tr_go (tr_nil (stay ⟨l, hl1, fun h => hj2.chi.con l hl2 h⟩))
      · have ho : openM c so2 = some (c.filter fun l => !decide (l.neg ∈ so2)) := if_neg hmt
        have hlf : ∀ l, l ∈ (c.filter fun l => !decide (l.neg ∈ so2)) ↔ l ∈ c ∧ l.neg ∉ so2 := fun l => by simp
        rw [ho]
        have hll : (c.filter fun l => !decide (l.neg ∈ so2)).length ≤ c.length := List.length_filter_le _ _
        generalize (c.filter fun l => !decide (l.neg ∈ so2)) = left at hlf hll
        show Tr _ _ [some g.R, some g.Rh, some (rV (.ref a)), some (rV (.ref b)), some (rB mv2), some (rI (i : Nat)), some (rC c), some (rL (left.map rLt)), none] [cD a (soE so2), cL b st2] _ _
        refine tr_if (dt_cmp (op_eqD hr.units) (de_var 7) (ne_lst (Rs := []) da_nil (Nat.zero_le _)).de (opv_eqNil (df := dLt) (n := 0) (rd_L fun l _ => rd_lt l).m (fun l _ => sh_lt l) (by decide))) (fun hb3 => ?_) fun hb3 => tr_go ?_
        · have hnil : left = [] := by simpa using hb3
          refine tr_ret (R := rT [rN, rAny]) (NE.de (ne_tup (Rs := [rN, rAny]) (da_cons de_non (da_cons (de_any (NE.de (ne_op op_cat (de_var 3) (NE.de (ne_lst (Rs := [rAny]) (da_cons (de_any (NE.de (ne_tup (Rs := [rI (i : Nat), rN]) (da_cons (de_var 5) (da_cons de_non da_nil)) (by simp)))) da_nil) (by simp))) (opn_cat (lv_c (rs := st2) (by simp)) lv_l (by show st2.length + 1 ≤ 100000; omega))))) da_nil)) (by simp))) fun v σ G H st r => ?_
          show D2.rt v H
          rw [hrt2, hrt]
          refine hD.ret hP (pm := pm2) none (show NoMod g.cl g.half from hj2.chi.dead hcm fun l hl => ?_) st .nil r
          by_cases h : l.neg ∈ so2
          · exact h
          · have := (hlf l).mpr ⟨hl, h⟩
            rw [hnil] at this; cases this
        · have hne : left ≠ [] := by intro e; rw [e] at hb3; cases hb3
          refine tr_if (b := true && decide (left.length = 1)) (DW.dt (dw_and (dt_cmp op_isNotNo (de_var 7) de_non (opv_isNotN (c := false) fun G v h => rOf_notN (W := wL (left.map rLt)) h)) fun _ => dw_and1 (dt_cmp op_eq (de_callB cr_len bi.len (by decide +kernel) (da_cons (de_var 7) da_nil) (clv_len sv_l)) de_int (by rw [List.length_map]; exact eqI.is (congrArg rB (by rw [Bool.eq_iff_iff, decide_eq_true_iff, decide_eq_true_iff]; omega)))))) (fun hb4 => ?_) fun hb4 => ?_
          · have hl1 : left.length = 1 := by simpa using hb4
            obtain ⟨l, el⟩ : ∃ l, left = [l] := List.length_eq_one_iff.mp hl1
            have hlm : l ∈ left := by rw [el]; exact List.mem_cons_self
            have hlc := (hlf l).mp hlm
            have hnso : l ∉ so2 := fun h => hmt (meets_iff.mpr ⟨l, hlc.1, h⟩)
            have ix : ∀ {X : Cx} {B : Base} {ρ : Sl} {M : List Cell} {e i : Expr} {pos : Pos}, DE X B ρ M e (rL (left.map rLt)) → DE X B ρ M i (rI 0) → PlainIx i → DE X B ρ M (.Subscript e i pos) (rLt l) := fun h1 h2 h3 => de_ix ix_list h1 h2 (opv_ixL lv_l (atI_map (f := rLt) (xs := left) (k := 0) (by rw [el]; rfl))) h3
            refine tr_dput (α := Unit) (P := fun _ => True) (S := fun _ => rB true) (M' := fun _ => [cD a (soE so2), cL b st2]) (k := ltS l) 0 (hu_of hr) de_bl.xe (fun _ _ => de_var 2) (fun _ _ => ix (de_var 7) de_int fun _ _ => rfl) (fun _ _ => rfl) (.inr ha) (by rw [so_len]; omega) (so_nodup hj2.nod) fun _ _ => ?_
            rw [putE_so, show putL so2 l = so2 ++ [l] from if_neg hnso]
            refine tr_append 1 (de_var 3) (NE.de (ne_tup (Rs := [rI (i : Nat), rLt l]) (da_cons (de_var 5) (da_cons (ix (de_var 7) de_int fun _ _ => rfl) da_nil)) (by simp))) rfl (.inr hb) (by omega) ?_
            refine tr_set (R := rB true) 4 sc_chase.nd de_bl ?_
            refine tr_go (tr_nil fun σ G H s => hn2 (so2 ++ [l], st2 ++ [rOf (wT [rI (i : Nat), rLt l])], true) ⟨⟨hj2.chi.unit hcm hlc.2 fun k hk hk2 => ?_, by have := putL_nodup (l := l) hj2.nod; rwa [show putL so2 l = so2 ++ [l] from if_neg hnso] at this, fun k hk => ?_⟩, ?_, ?_, fun _ => ?_, fun h => by cases h⟩ σ G H (s.less ⟨rfl, rfl, rfl, rfl, rfl, trivial⟩))
            · have := (hlf k).mpr ⟨hk, hk2⟩
              rw [el] at this
              simpa using this
            · rcases List.mem_append.mp hk with hk | hk
              · exact hj2.nms k hk
              · have : k = l := by simpa using hk
                rw [this]; exact hz.cn c hcm l hlc.1
            · show (st2 ++ [_]).length ≤ (so2 ++ [l]).length
              rw [List.length_append, List.length_append]; exact Nat.succ_le_succ hst2
            · show so.length ≤ (so2 ++ [l]).length
              rw [List.length_append]; omega
            · show so.length < (so2 ++ [l]).length
              rw [List.length_append]; show _ < so2.length + 1; omega
          · obtain ⟨l, hl⟩ := List.exists_mem_of_ne_nil _ hne
            exact tr_go (tr_nil (stay ⟨l, (hlf l).mp hl⟩))
    · rintro ⟨so2, st2, mv2⟩ ⟨hj2, hst2, hle2, hmv2, hfix2⟩
      rw [List.length_map, List.take_length] at hfix2
      refine tr_nil fun σ G H s => hn (so2, st2, mv2) ⟨hj2, hst2, hfix2⟩ ?_ σ G H (s.less ⟨rfl, rfl, rfl, rfl, rfl, trivial⟩)
      have h1 : so2.length ≤ g.names.length := hj2.len
      have h2 : so.length ≤ g.names.length := hj.len
      have hle2 : so.length ≤ so2.length := hle2
      show 2 * (g.names.length - so2.length) + (if mv2 = true then 1 else 0) < 2 * (g.names.length - so.length) + (if true = true then 1 else 0)
      rw [if_pos rfl]
      cases mv2 with
      | true =>
        have : so.length < so2.length := hmv2 rfl
        rw [if_pos rfl]; omega
      | false => rw [if_neg Bool.false_ne_true]; omega
  · rintro ⟨so, st, mv⟩ ⟨hj, hst, hfix⟩ hb2
    have hfix := hfix hb2
    refine tr_pub 3 1 hb rfl rfl ?_
    refine tr_pub 2 0 ha rfl rfl ?_
    exact tr_ret (R := rT [rD (soE so), rAny]) (NE.de (ne_tup (Rs := [rD (soE so), rAny]) (da_cons (de_var 2) (da_cons (de_any (de_var 3)) da_nil)) (by simp))) fun v σ G H st r => hD.rt (some so) v _ _ σ G H ⟨hj.chi.done hfix, hj.nod, hj.nms⟩ st .nil r
end
end KL

/-! KStar -/
/-! [*d, ..] with a dict d: its keys. -/
namespace KL
open PySem PySem.Spec PyProof.Rows L2 KM
theorem collect_dict {prog : Program} {w : World} {A : Around} {E : Value → Shared → Prop} {s : Shared} {T : String} {d : Addr} {n : Nat} {P : Nat → Value → Prop} {OK : Heap → Prop} {R : List Value → Shared → Prop} (Kd : PySem.W.KdlSrc prog w T d d n P OK) (hh : A.handled = none) (hok : OK s.heap) (hn : n ≤ sizeLine)
    (h : ∀ (h' : Heap) (tk : Nat) (acc : Array Value), (∀ b o, s.heap.get? b = some o → h'.get? b = some o) → ItemsOf P acc n → R acc.toList { s with heap := h', toks := tk }) :
    wpAny (model prog w) A (collect (.ref d)) R E s := by
  have hd := (Kd.there _ hok).1
  unfold collect
  refine wpAny_bind (wpAny_runValue (codeAny_builtin F.entry_proto_collect ?_))
  rw [Around.under_plainId PySem.F.plain_proto_collect _]
  show wpAny _ A.in1 (newList [] >>= fun l => again (.builtin "list.__iadd__" ⟨[l, .ref d], []⟩)) _ _ s
  refine wpAny_bind (wpAny_newObj_type ?_)
  refine wpAny_pure ⟨plainId_quiet PySem.F.plain_list_iadd _, codeAny_builtin F.entry_list_iadd ?_⟩
  rw [Around.under_plainId PySem.F.plain_list_iadd _]
  have hS₁ : (s.heap.push { cls := .type "list", data := .seq ([] : List Value).toArray }).get? s.heap.objs.size = some { cls := .type "list", data := .seq #[] } := Heap.get?_push_size _ rfl
  show wpAny _ A.in1 (Builtin.List.listExtendWith (.ref s.heap.objs.size) (.ref d) (.ref s.heap.objs.size)) _ _ _
  have key := PySem.W.kdl_extend (A := A) (s := { s with heap := s.heap.push { cls := .type "list", data := .seq ([] : List Value).toArray } })
    (R := fun (q : Result) (s' : Shared) => ∃ (h' : Heap) (tk : Nat) (acc' : Array Value) (c' : Nat), q = .ok (.ret (.ref s.heap.objs.size)) ∧ s' = { s with heap := h', toks := tk } ∧
      (∀ b o, s.heap.get? b = some o → h'.get? b = some o) ∧ h'.get? s.heap.objs.size = some { cls := .type "list", dict := none, data := .seq acc' c', slots := #[] } ∧ ItemsOf P acc' n)
    Kd hh (Kd.keep _ _ hok fun b _ o e => Heap.get?_push_of_some _ e) s.heap.objs.size (Nat.ne_of_gt hd) (Nat.ne_of_gt hd) (.ref s.heap.objs.size) 0 hS₁
    (fun h' tk acc' c' hk hS' hacc => ⟨h', tk, acc', c', rfl, rfl, fun b o e => hk b o (Nat.ne_of_lt (Heap.lt_size e)) (Heap.get?_push_of_some _ e), hS', hacc⟩) hn
  refine wpAny_mono key (fun fin s' x => ?_) fun e s' x => ?_
  · cases fin with
    | done f =>
      obtain ⟨h', tk, acc', c', e, rfl, hk, hS', hacc⟩ := x
      cases e
      show wpAny _ A (load s.heap.objs.size >>= _) _ _ _
      refine wpAny_bind (wpAny_load hS' ?_)
      refine wpAny_pure ?_
      show R acc'.toList _
      exact h h' tk acc' hk hacc
    | again c₁ =>
      refine ⟨x.1, codeAny_mono x.2 fun q s₂ y => ?_⟩
      obtain ⟨h', tk, acc', c', rfl, rfl, hk, hS', hacc⟩ := y
      show wpAny _ A (load s.heap.objs.size >>= _) _ _ _
      refine wpAny_bind (wpAny_load hS' ?_)
      refine wpAny_pure ?_
      show R acc'.toList _
      exact h h' tk acc' hk hacc
  · obtain ⟨_, _, _, _, e', _⟩ := x
    cases e'
section
variable {X : Cx} {pins : List (Addr × Obj)} {σ : L2.St} {H : Hp} {s : Shared}
theorem star_dict {a : Addr} {kvs : List (Key × V)} {E : Value → Shared → Prop} {Q : List Value → Shared → Prop} (hc : X.calm = true) (I : Inv X pins σ H s) (ha : H a = some (.dK kvs)) (hQ : ∀ us s', Inv X pins σ H s' → Vals (kvs.map fun kv => kV kv.1) us → Q us s') : PySem.W.StarOf (model X.prog X.w) X.A E (.ref a) Q s := by
  obtain ⟨z, lo, vs, rk, hd⟩ := dk_of I.hok ha
  obtain ⟨ep, hat⟩ := hd.dictAt
  have hl : kvs.length = vs.length := Paired.length rk
  have zz : wpAny (model X.prog X.w) X.A (collect (.ref a)) Q E s := by
    refine collect_dict (PySem.W.kdl_dict (knd := mixKind X.prog X.w) (kvs := vs) (ep := ep) lo) (I.ok.hd hc) hat (by rw [← hl]; exact z) fun h' tk acc hk hacc => ?_
    refine hQ acc.toList _ (I.kept (t' := tk) hk) ?_
    have el : acc.toList.length = acc.size := by simp
    refine vals_of_at (by rw [List.length_map, el, hacc.1, hl]) fun j x w h1 h2 => ?_
    obtain ⟨k, y, hky, hi⟩ := hacc.2 j w (by rw [← Array.getElem?_toList]; exact h2)
    have e1 : (kvs.map (·.1))[j]? = some k := by
      rw [KV.keys rk, List.getElem?_map, hky] <;> rfl
    have e2 : (kvs.map fun kv => kV kv.1)[j]? = some (kV k) := by
      have e3 : (kvs.map fun kv => kV kv.1) = (kvs.map (·.1)).map kV := by rw [List.map_map] <;> rfl
      rw [e3, List.getElem?_map, e1] <;> rfl
    rw [e2] at h1
    cases h1
    exact keyIs_rel hi
  unfold PySem.W.StarOf notIterableAtAll
  exact wpAny_bind (wpAny_specialOf hd.typeIs PySem.F.slot_dict_iter.lookup (wpAny_pure ⟨rfl, zz⟩))
end
def tStarD (te : TE) (t : TA) : TA := fun σ H Q => te σ H fun x H1 => ∃ a kvs, x = V.ref a ∧ H1 a = some (.dK kvs) ∧ t σ H1 fun ys H2 => Q ((kvs.map fun kv => kV kv.1) ++ ys) H2
section
variable {X : Cx} {B : Base} {ρ : Sl} {M : List Cell} {e : Expr} {es : List Expr} {R : Rp} {te : TE} {t : TA} {p : Pos} {Rs : List Rp} {Es : Es}
theorem pa_starD (hc : X.calm = true) (he : PE X e te) (hr : PA X es t) (hs : starEach (.Starred e p :: es) X.env = (true, eval e X.env) :: starEach es X.env := by rfl) : PA X (.Starred e p :: es) (tStarD te t) := by
  refine ⟨fun pos pins s σ H Q I h => ?_⟩
  refine PySem.W.items_star (thn (he.run pins s σ H _ I h) fun v s1 ⟨y, H1, I1, ry, a, kvs, ey, hx, q⟩ => ?_) hs
  subst ey
  obtain rfl : v = Value.ref a := ry
  refine star_dict hc I1 hx fun us s2 I2 rv => ?_
  exact thn (hr.run pos pins s2 σ H1 _ I2 q) fun ws s3 ⟨vs, H3, I3, r3, q3⟩ => ⟨(kvs.map fun kv => kV kv.1) ++ vs, H3, I3, rv.append r3, q3⟩
theorem da_starD (he : DE X B ρ M e R) (hd : DVw M R Es) (hr : DA X B ρ M es Rs) (hc : X.calm = true := by rfl) (hs : starEach (.Starred e p :: es) X.env = (true, eval e X.env) :: starEach es X.env := by rfl) : DA X B ρ M (.Starred e p :: es) ((Es.map Prod.fst).map rS ++ Rs) := fun σ G H s Q q =>
  sem_a (pa_starD hc pe_sem pa_sem hs) (he σ G H s _ fun v G1 H1 g1 r1 => by
    have s1 := s.grow g1
    obtain ⟨a, kvs, rfl, ha, t⟩ := hd G1 H1 v s1.sub s1.mem r1
    exact ⟨a, kvs, rfl, ha, hr σ G1 H1 s1 _ fun vs G2 H2 g2 r2 => q _ G2 H2 (g1.trans g2) (((kvs_strs t).mono g2.gg).append r2)⟩)
end
end KL

/-! KF18 -/
namespace KL
open PySem PySem.Spec PyProof.Rows L2 KM
def rSome : Rp := ⟨fun _ v => v ≠ .non, fun _ h => h⟩
theorem de_some {X : Cx} {B : Base} {ρ : Sl} {M : List Cell} {e : Expr} {W : Wp} (h : DE X B ρ M e (rOf W)) : DE X B ρ M e rSome := h.weak fun _ _ ⟨a, o, e, _⟩ z => by rw [e] at z; cases z
def rOb : Bool → Rp
  | false => rN
  | true => rSome
theorem rSome_notN {G : Hp} {v : V} (h : rSome.p G v) : decide (v = .non) = false := decide_eq_false h
structure FiG where
  cl : List (Cl Nm)
  names : List Nm
  Rh : Rp
  half : Cl Nm
structure FiP (n : Nat) (g : FiG) : Prop where
  svh : ∀ MP, SVp MP g.Rh (g.half.map rLt)
  con : Con g.half
  nod : g.half.Nodup
  hn : ∀ l ∈ g.half, l.nm ∈ g.names
  cn : ∀ c ∈ g.cl, ∀ l ∈ c, l.nm ∈ g.names
  nz : g.names.length ≤ 1000
  cz : ∀ c ∈ g.cl, c.length ≤ 1000
  ms : g.names.length ≤ g.half.length + n
def FiPost (g : FiG) : Bool → Prop
  | false => NoMod g.cl g.half
  | true => ∃ A, Mods g.cl A ∧ ag A g.half
abbrev c_filled (n : Nat) : Ct := .any (γ := FiG) (α := Bool) (fun g => [rT (g.cl.map rC), rT (g.names.map rNm), g.Rh]) (FiP n) FiPost fun _ b => rOb b
section
variable {P : Program} {w : World} {K : PySem.W.Frag} {mg : Str → Option Value} {base : Heap}
theorem dn_filled1 (bi : BI mg) (n : Nat) (F : DefAt K mg "filled" s_filled) (Fc : Dn P w K mg base "chase" 3 p_chase c_chaseP) (Fa : Dn P w K mg base "ascending" 1 p_ascending (c_up K))
    (ih : ∀ m, n = m + 1 → Dn P w K mg base "filled" (m + 4) p_filled (c_filled m)) : Dn P w K mg base "filled" (n + 4) p_filled (c_filled n) := by
  refine dn_mk F sc_filled (fun _ => rfl) (fun _ _ _ _ _ _ us hl => match us, hl with | [_, _, _], _ => rfl) fun f cdv A outer s H E B D (g : FiG) hr (hz : FiP n g) hF hP hD => ?_
  obtain ⟨cl, names, Rh, half⟩ := g
  have Fc := Fc.mono (show 3 ≤ n + 3 by omega)
  have Fa := Fa.mono (show 1 ≤ n + 3 by omega)
  have hnz : names.length ≤ 1000 := hz.nz
  have hms : names.length ≤ half.length + n := hz.ms
  have hcn : ∀ c ∈ cl, ∀ l ∈ c, l.nm ∈ names := hz.cn
  show Tr _ B [some (rT (cl.map rC)), some (rT (names.map rNm)), some Rh, none, none, none, none, none, none] [] _ D
  refine tr_unp (α := Option (Cl Nm)) (P := ChPost (ChG.mk (rT (cl.map rC)) [] cl Rh half names)) (M' := fun _ => []) (R1 := rOD) (R2 := fun _ => rAny) 3 4 sc_filled.nd (xe_callR (c := c_chaseP) (g := ChG.mk (rT (cl.map rC)) [] cl Rh half names) Fc hr (da_cons (de_var 0) (da_cons (de_var 2) da_nil)) ⟨fun _ => sv_t, hz.svh, hz.con, hz.nod, hz.hn, hz.cn, hz.nz, hz.cz⟩) ?_
  intro o ho
  cases o with
  | none =>
    refine tr_if (b := true) (dt_cmp op_isNo (Ra := rN) (de_var 3) de_non (opv_isN fun G v h => by have h : v = .non := h; simp [h])) (fun _ => ?_) (fun h => by cases h)
    exact tr_ret (R := rN) de_non fun v σ G H st r => hD.rt false v _ _ σ G H ho st .nil r
  | some L =>
    obtain ⟨hc, hnd, hnm⟩ : Chz cl half L ∧ L.Nodup ∧ ∀ l ∈ L, l.nm ∈ names := ho
    have hle : half.length ≤ L.length := len_le_of_sub hz.nod hc.sub
    have hLn : L.length ≤ names.length := con_len hnd hc.con hnm
    show Tr _ B [some (rT (cl.map rC)), some (rT (names.map rNm)), some Rh, some (rD (soE L)), some rAny, none, none, none, none] [] _ D
    refine tr_if (b := false) (dt_cmp op_isNo (Ra := rD (soE L)) (de_var 3) de_non (opv_isN fun G v h => rOf_notN (W := wD (soE L)) h)) (fun h => by cases h) (fun _ => tr_go ?_)
    refine tr_ownLcIf (α := Nm) 5 8 sc_filled.nd names rNm rNm (fun n => !decide ((⟨true, n⟩ : Lit) ∈ L) && !decide ((⟨false, n⟩ : Lit) ∈ L)) (de_var 1) sv_t (by omega) (fun x hx _ _ _ _ _ => DW.dt (dw_and (dt_cmp (op_notInDK (hu_of hr)) (Ra := rLt ⟨true, x⟩) (de_var 8) (de_var 3) (opv_notInSo dv_d)) fun _ => dw_and1 (dt_cmp (op_notInDK (hu_of hr)) (de_minus (de_var 8)) (de_var 3) (opv_notInSo dv_d)))) (fun x hx hb _ _ _ _ _ => de_var 8) fun b hb => ?_
    refine tr_pub 5 0 hb rfl rfl ?_
    have hlf : ∀ x, x ∈ (names.filter fun n => !decide ((⟨true, n⟩ : Lit) ∈ L) && !decide ((⟨false, n⟩ : Lit) ∈ L)) ↔ x ∈ names ∧ (⟨true, x⟩ : Lit) ∉ L ∧ (⟨false, x⟩ : Lit) ∉ L := fun x => by simp
    generalize (names.filter fun n => !decide ((⟨true, n⟩ : Lit) ∈ L) && !decide ((⟨false, n⟩ : Lit) ∈ L)) = left at hlf
    show Tr _ B [some (rT (cl.map rC)), some (rT (names.map rNm)), some Rh, some (rD (soE L)), some rAny, some (rL (left.map rNm)), none, none, none] [] _ D
    refine tr_if (dt_cmp (op_eqD hr.units) (de_var 5) (ne_lst (Rs := []) da_nil (Nat.zero_le _)).de (opv_eqNil (df := dNm) (n := 0) (rd_L fun l _ => rd_nm l).m (fun l _ => sh_nm l) (by decide))) (fun hb3 => ?_) fun hb3 => tr_go ?_
    · have hnil : left = [] := by simpa using hb3
      refine tr_ret (R := rSome) (de_some (de_call (R := rC (upM L names)) Fa hr (rD (soE L), L, rT (names.map rNm), names) (da_cons (de_var 3) (da_cons (de_var 1) da_nil)) ⟨holds_d, fun _ => sv_t, by show names.length ≤ 10000; omega⟩ fun _ _ _ _ r => r)) fun v σ G H st r => hD.rt true v _ _ σ G H ?_ st .nil r
      refine fil_done hc hcn fun x hx => ?_
      by_cases h1 : (⟨true, x⟩ : Lit) ∈ L
      · exact .inl h1
      · by_cases h2 : (⟨false, x⟩ : Lit) ∈ L
        · exact .inr h2
        · have := (hlf x).mpr ⟨hx, h1, h2⟩
          rw [hnil] at this; cases this
    · obtain ⟨n0, rr, el⟩ : ∃ n0 rr, left = n0 :: rr := by
        cases left with
        | nil => cases hb3
        | cons a b => exact ⟨a, b, rfl⟩
      obtain ⟨hm0, hp0, hq0⟩ := (hlf n0).mp (by rw [el]; exact List.mem_cons_self)
      have ix : ∀ {X : Cx} {B : Base} {ρ : Sl} {M : List Cell} {e i : Expr} {pos : Pos}, DE X B ρ M e (rL (left.map rNm)) → DE X B ρ M i (rI 0) → PlainIx i → DE X B ρ M (.Subscript e i pos) (rNm n0) := fun h1 h2 h3 => de_ix ix_list h1 h2 (opv_ixL lv_l (atI_map (f := rNm) (xs := left) (k := 0) (by rw [el]; rfl))) h3
      have hnot : ∀ l : Lit, l.nm = n0 → l ∉ L ∧ l.neg ∉ L := fun l h => by
        cases l with | mk p n =>
        have h : n = n0 := h
        subst h
        cases p
        · exact ⟨hq0, hp0⟩
        · exact ⟨hp0, hq0⟩
      have hlt : L.length + 1 ≤ names.length := by
        have h1 := nodup_snoc hnd hp0
        have := con_len h1 (hc.con.snoc (l := ⟨true, n0⟩) hq0) (names := names) fun k hk => by
          rcases List.mem_append.mp hk with hk | hk
          · exact hnm k hk
          · have e : k = ⟨true, n0⟩ := by simpa using hk
            rw [e]; exact hm0
        rw [List.length_append] at this
        exact this
      obtain ⟨m, rfl⟩ : ∃ m, n = m + 1 := ⟨n - 1, by omega⟩
      have Fr := ih m rfl
      refine tr_for (S := Unit) (α := Lit) 6 PassesOwn.never sc_filled.nd (NE.de (ne_tup (Rs := (both n0).map rLt) (da_cons (ix (de_var 5) de_int fun _ _ => rfl) (da_cons (de_minus (ix (de_var 5) de_int fun _ _ => rfl)) da_nil)) (two_small n0))) (fun _ => [some (rT (cl.map rC)), some (rT (names.map rNm)), some Rh, some (rD (soE L)), some rAny, some (rL (left.map rNm)), none, none, none]) (fun _ => []) (fun i _ => ∀ l ∈ (both n0).take i, NoMod cl (L ++ [l])) () (both n0) rLt sv_t (fun l h => by cases h) ⟨rfl, rfl, rfl, rfl, rfl, rfl, trivial⟩ rfl ?_ ?_
      · intro P2 pm2 i l _ hi hJ D' hn hrt
        have hlb := List.mem_of_getElem? hi
        have hln : l.nm = n0 := by
          unfold both at hlb
          simp only [List.mem_cons, List.not_mem_nil, or_false] at hlb
          rcases hlb with e | e <;> rw [e]
        obtain ⟨hl1, hl2⟩ := hnot l hln
        refine tr_setX (α := Bool) (P := FiPost (FiG.mk cl names (rL ((L ++ [l]).map rLt)) (L ++ [l]))) (S := rOb) (M' := fun _ => []) 7 sc_filled.nd (xe_callR (c := c_filled m) (g := FiG.mk cl names (rL ((L ++ [l]).map rLt)) (L ++ [l])) Fr hr (da_cons (de_var 0) (da_cons (de_var 1) (da_cons (DE.is (NE.de (ne_lst (Rs := ((soE L).map Prod.fst).map rS ++ [rLt l]) (da_starD (de_var 3) dv_d (da_cons (de_var 6) da_nil)) (by rw [so_keys, List.length_append, List.length_map, List.length_map]; show _ + 1 ≤ 100000; omega))) ?_) da_nil))) ⟨fun _ => sv_l, hc.con.snoc hl2, nodup_snoc hnd hl1, ?_, hcn, hz.nz, hz.cz, ?_⟩) ?_
        · show rL _ = rL _
          rw [so_keys, ← map_rLt, rLt_snoc]
        · intro k hk
          rcases List.mem_append.mp (show k ∈ L ++ [l] from hk) with hk | hk
          · exact hnm k hk
          · have e : k = l := by simpa using hk
            rw [e, hln]; exact hm0
        · show names.length ≤ (L ++ [l]).length + m
          rw [List.length_append]; show _ ≤ L.length + 1 + m; omega
        · intro o2 ho2
          cases o2 with
          | true =>
            refine tr_if (b := true) (dt_cmp op_isNotNo (Ra := rSome) (de_var 7) de_non (opv_isNotN (c := false) fun G v h => rSome_notN h)) (fun _ => ?_) (fun h => by cases h)
            refine tr_ret (R := rSome) (de_var 7) fun v σ G H st r => ?_
            show D'.rt v H
            rw [hrt]
            exact hD.ret hP (pm := pm2) true (fil_up hc ho2) st .nil r
          | false =>
            refine tr_if (b := false) (dt_cmp op_isNotNo (Ra := rN) (de_var 7) de_non (opv_isNotN (c := true) fun G v h => by have h : v = .non := h; simp [h])) (fun h => by cases h) fun _ => ?_
            refine tr_go (tr_nil fun σ G H st => hn () (fun k hk => ?_) σ G H (st.less ⟨rfl, rfl, rfl, rfl, rfl, rfl, trivial⟩))
            rw [List.take_add_one, hi] at hk
            rcases List.mem_append.mp hk with hk | hk
            · exact hJ k hk
            · have e : k = l := by simpa using hk
              rw [e]; exact ho2
      · intro _ hJ
        rw [List.take_length] at hJ
        refine tr_ret (R := rN) de_non fun v σ G H st r => hD.rt false v _ _ σ G H (show NoMod cl half from NoMod.up hc (hJ ⟨true, n0⟩ ?_) (hJ ⟨false, n0⟩ ?_)) st .nil r
        · unfold both; simp
        · unfold both; simp
theorem dn_filled (bi : BI mg) (F : DefAt K mg "filled" s_filled) (Fc : Dn P w K mg base "chase" 3 p_chase c_chaseP) (Fa : Dn P w K mg base "ascending" 1 p_ascending (c_up K)) : ∀ n, Dn P w K mg base "filled" (n + 4) p_filled (c_filled n)
  | 0 => dn_filled1 bi 0 F Fc Fa fun m h => by omega
  | n + 1 => dn_filled1 bi (n + 1) F Fc Fa fun m h => by
    have e : n = m := by omega
    subst e
    exact dn_filled bi F Fc Fa n
end
end KL

/-! KF19 -/
namespace KL
open PySem PySem.Spec PyProof.Rows L2 KM
section
variable {X : Cx} {B : Base} {ρ : Sl} {M : List Cell} {elt iter e : Expr} {R Ra Rb Rc : Rp} {pos : Pos}
/-- a op b op' c -/
theorem de_chain {a b c : Expr} {op op' : CmpOp} {r r' : L2.R2} {d d' : Bool} (ho : OpR X (compareOp op) r) (ho' : OpR X (compareOp op') r') (ha : DE X B ρ M a Ra) (hb : DE X B ρ M b Rb) (hc : DE X B ρ M c Rc) (h1 : Opv M Ra Rb r (rB d)) (h2 : Opv M Rb Rc r' (rB d'))
    (hm : lastMarks [op, op'] [b, c] = false := by with_unfolding_all rfl) : DE X B ρ M (.Compare a [op, op'] [b, c] pos) (rB (d && d')) := fun σ G H s Q q =>
  sem_e (pe_chain ho ho' pe_sem pe_sem pe_sem hm) (ha σ G H s _ fun x G1 H1 g1 r1 => hb σ G1 H1 (s.grow g1) _ fun y G2 H2 g2 r2 => by
    have s2 := (s.grow g1).grow g2
    refine h1 x y G2 H2 s2.sub s2.mem (Ra.mono g2.gg r1) r2 _ fun z G3 H3 g3 r3 => ⟨d, r3, ?_⟩
    cases d with
    | false => exact iteF (q _ G3 H3 (g1.trans (g2.trans g3)) rfl)
    | true => exact iteT (hc σ G3 H3 (s2.grow g3) _ fun w G4 H4 g4 r4 => h2 y w G4 H4 ((s2.grow g3).grow g4).sub ((s2.grow g3).grow g4).mem (Rb.mono (g3.gg.trans g4.gg) r2) r4 Q fun v G5 H5 g5 r5 => q v G5 H5 (g1.trans (g2.trans (g3.trans (g4.trans g5)))) r5))
/-- iterables that do nothing -/
def IQ (X : Cx) (B : Base) (ρ : Sl) (M : List Cell) (tg iter : Expr) (n : Nat) (rf : Nat → Rp) : Prop := ∃ wi, PI X tg iter wi ∧ ∀ σ G H, Stt B ρ M σ G H → ∀ Rr : L2.It → Hp → Prop, (∀ It G' H', Grow G H G' H' → Wk It G' n rf → Rr It H') → wi σ H Rr
theorem iq_str {tg : Expr} {x : Str} (he : DE X B ρ M e (rS x)) : IQ X B ρ M tg e x.cps.size (fun i => rS ⟨#[x.cps.getD i 0]⟩) := ⟨_, pi_str pe_sem, fun σ G H s Rr q => he σ G H s _ fun v G1 H1 g1 r1 => ⟨x, r1, q _ G1 H1 g1 ⟨fun i H G _ _ h => h, fun i H G _ _ h => h, fun i H v H' G _ _ h ⟨eH, c, hc, ev⟩ => ⟨eH, by
  have hlt : i < x.cps.size := h
  have e1 : x.cps.getD i 0 = c := by rw [Array.getD_eq_getD_getElem?, hc]; rfl
  show v = V.str ⟨#[x.cps.getD i 0]⟩
  rw [e1, ev]⟩⟩⟩⟩
theorem ne_lcQ {n : Nat} {rf f : Nat → Rp} {y : Str} {py : Pos} {scope : Scope} (j : Nat) (nd : X.N.Nodup) (ix : IQ X B ρ M (.Name y py) iter n rf) (hz : n ≤ 100000)
    (he : ∀ i, i < n → AllB X scope fun X' => DE X' B (ρ.set j (some (rf i))) M elt (f i)) (ok : BlkOk X.N X.env.scope scope [(y, j)] := by exact blkOk_by (by kernel_rfl)) (hj : X.N[j]? = some y := by rfl)
    (hx : AllB X scope (fun X' => L2.Loc X'.env.scope y) := by first | exact fun _ _ _ _ _ => .inl rfl | exact fun _ _ _ _ _ => .inr rfl) (hf : AllB X scope (fun X' => X'.fn y = true ∨ X'.env.scope.names.lookup y = some .local) := by first | exact fun _ _ _ _ _ => .inl rfl | exact fun _ _ _ _ _ => .inr rfl)
    (hc : X.calm = true := by rfl) (hs : ∀ x, foldedSetIterable iter X.env x = pure x := by intro _; rfl) : NE X B ρ M (.ListComp elt [⟨.Name y py, iter, [], 0⟩] scope pos) (wL ((List.range n).map f)) := fun σ G H s Q q => by
  obtain ⟨wi, pi, ix⟩ := ix
  refine sem_e (pe_lc (own := [(y, j)]) (g := gName j) (tt := tYes) (te := blkE X scope elt) hc nd pi ok (fun s H C cl fp => pg_name nd hj (hx s H C cl fp) (hf s H C cl fp)) (fun _ _ _ _ _ => pts_nil) (fun s H C cl fp => pe_blk s H C cl fp) hs) ?_
  refine ix σ G H s _ fun It G1 H1 g1 w D hD => ?_
  have s1 := s.grow g1
  obtain ⟨gD, hGD⟩ := new_grow (o := .lst []) g1.sub hD
  refine ⟨fun i m H' => m = n - i ∧ i ≤ n ∧ ∃ G', Grow G1 H1 G' H' ∧ G' D = none ∧ ∃ vs, H' D = some (.lst vs) ∧ All2 G' ((List.range i).map f) vs, ⟨n, by simp, Nat.zero_le _, G1, gD, hGD, [], upd_same, .nil⟩, ?_⟩
  rintro i m H' ⟨rfl, hi, G', g', hGD', vs, hDv, hav⟩
  by_cases hlt : i < n
  · refine .inr ⟨w.go i H' G' g'.gg g'.sub hlt, fun H' => ∃ G', Grow G1 H1 G' H' ∧ G' D = none ∧ ∃ vs, H' D = some (.lst vs) ∧ All2 G' ((List.range (i + 1)).map f) vs, fun H' p => ⟨n - (i + 1), by omega, rfl, hlt, p⟩, fun v H2 yv => ?_⟩
    obtain ⟨e2, hv⟩ := w.yld i H' v H2 G' g'.gg g'.sub hlt yv
    subst e2
    have s2 : Stt B (ρ.set j (some (rf i))) M ((σ.set j none).set j (some v)) G' H2 := (s1.grow g').item j hv
    refine ⟨by show ((σ.set j none).set j (some v)).set j none = σ.set j none; rw [List.set_set, List.set_set], ?_⟩
    unfold tYes
    dsimp only
    rw [if_pos rfl]
    intro s0 H0 C cl fp
    refine he i hlt s0 H0 C cl fp _ G' _ s2 _ fun v G3 H3 g3 rv => ?_
    have hD3 : H3 D = some (.lst vs) := g3.hh _ _ hDv
    have n3 := no_D g3 hGD' hDv
    refine ⟨vs, hD3, small5' ?_, G3, grow_D (o := .lst []) (g'.trans g3) n3 hD, n3, vs ++ [v], upd_same, ?_⟩
    · rw [← hav.len, List.length_map, List.length_range]; omega
    · rw [List.range_succ, List.map_append]
      exact (hav.mono g3.gg).snoc rv
  · have en : i = n := by omega
    subst en
    exact .inl ⟨w.stop _ H' G' g'.gg g'.sub (Nat.le_refl _), q D _ G' H' (g1.trans g') hGD' (g1.hh.free hD) hDv ⟨vs, rfl, hav⟩⟩
end
/-! ### isinstance -/
theorem clv_isSeq {K : PySem.W.Frag} {M : List Cell} {R : Rp} {rs : List Rp} (h : ∀ MP, SVp MP R rs) : Clv M [R, rT [rV (.ty "list"), rV (.ty "tuple")]] (rIsiT K) (rB true) := fun xs G H s m hx Q q => by
  obtain ⟨v, u, rfl, hv, hu⟩ := all2_2 hx
  obtain ⟨tp, o, rfl, ho, cs, rfl, t⟩ := hu
  obtain ⟨c1, c2, rfl, h1, h2⟩ := all2_2 t
  have h1 : c1 = .ty "list" := h1
  have h2 : c2 = .ty "tuple" := h2
  subst h1; subst h2
  obtain ⟨a, vs, rfl, ha, t2⟩ := seq_at h hv
  rcases ha with ha | ha
  · exact ⟨.ref a, tp, _, .type "list", [.type "list", .type "tuple"], true, rfl, s _ _ ho, .cons (.ty _) (.cons (.ty _) .nil), .base (.lst (s _ _ ha)), rfl, q _ G H (Grow.refl s) rfl⟩
  · exact ⟨.ref a, tp, _, .type "tuple", [.type "list", .type "tuple"], true, rfl, s _ _ ho, .cons (.ty _) (.cons (.ty _) .nil), .base (.tup (s _ _ ha)), rfl, q _ G H (Grow.refl s) rfl⟩
theorem clv_isStr {K : PySem.W.Frag} {M : List Cell} {x : Str} : Clv M [rS x, rV (.ty "str")] (rIsi K) (rB true) := fun xs G H s m hx Q q => by
  obtain ⟨v, u, rfl, hv, hu⟩ := all2_2 hx
  have hv : v = .str x := hv
  have hu : u = .ty "str" := hu
  subst hv; subst hu
  exact ⟨_, _, .type "str", .type "str", true, rfl, .ty _, .base (.str x), rfl, q _ G H (Grow.refl s) rfl⟩
section
variable {P : Program} {w : World} {K : PySem.W.Frag} {mg : Str → Option Value} {base : Heap}
abbrev c_isList : Ct := .fn (γ := Rp × List Rp) (fun g => [g.1]) (fun g => ∀ MP, SVp MP g.1 g.2) fun _ => rB true
theorem dn_is_list (bi : BI mg) (F : DefAt K mg "is_list" s_is_list) : Dn P w K mg base "is_list" 1 p_is_list c_isList := by
  refine dn_mk F sc_is_list (fun _ => rfl) (fun _ _ _ _ _ _ us hl => match us, hl with | [_], _ => rfl) fun f cdv A outer s H E B D (g : Rp × List Rp) hr hz hF hP hD => ?_
  obtain ⟨R, rs⟩ := g
  show Tr _ B [some R] [] _ D
  exact tr_ret (R := rB true) (de_callB call_isiT bi.isinstance (by decide +kernel) (da_cons (de_var 0) (da_cons (NE.de (ne_tup (Rs := [rV (.ty "list"), rV (.ty "tuple")]) (da_cons (de_bltn (u := .type "list") bi.list (by decide +kernel) rfl) (da_cons (de_bltn (u := .type "tuple") bi.tuple (by decide +kernel) rfl) da_nil)) (by simp))) da_nil)) (clv_isSeq hz)) fun v σ G H st r => hD.rt () v _ _ σ G H trivial st .nil r
end
end KL

/-! KF20 -/
namespace KL
open PySem PySem.Spec PyProof.Rows L2 KM
abbrev lettersT : Str := "abcdefghijklmnopqrstuvwxyz"
theorem letters_list : lettersT.cps.toList = List.range' 97 26 := by decide +kernel
theorem mem_letters {c : Nat} (h1 : 97 ≤ c) (h2 : c ≤ 122) : c ∈ lettersT.cps.toList := by
  rw [letters_list, List.mem_range'_1]; omega
def rInSg : L2.R2 := fun x y H Q => ∃ (c : Nat) (z : Str), x = .str ⟨#[c]⟩ ∧ y = .str z ∧ Q (.bl (decide (c ∈ z.cps.toList))) H
theorem op_inSg {X : Cx} : OpR X (compareOp .In) rInSg := op_in_sign
theorem opv_inS {M : List Cell} {c : Nat} {z : Str} : Opv M (rS ⟨#[c]⟩) (rS z) rInSg (rB (decide (c ∈ z.cps.toList))) := fun x y G H s m hx hy Q q => ⟨c, z, hx, hy, q _ G H (Grow.refl s) rfl⟩
theorem opv_leT {M : List Cell} {i j : Int} (h : i ≤ j) : Opv M (rI i) (rI j) (rI0 fun i j => .bl (decide (i ≤ j))) (rB true) := fun x y G H s m hx hy Q q => ⟨i, j, hx, hy, q _ G H (Grow.refl s) (congrArg V.bl (decide_eq_true h))⟩
theorem nodup_at {α : Type} {xs : List α} (h : xs.Nodup) {i : Nat} {x : α} (hi : xs[i]? = some x) : x ∉ xs.take i := fun m => by
  obtain ⟨j, hj⟩ := List.getElem?_of_mem m
  rw [List.getElem?_take] at hj
  by_cases hji : j < i
  · rw [if_pos hji] at hj
    obtain ⟨h1, e1⟩ := List.getElem?_eq_some_iff.mp hj
    obtain ⟨h2, e2⟩ := List.getElem?_eq_some_iff.mp hi
    have := List.pairwise_iff_getElem.mp h j i h1 h2 hji
    exact this (by rw [e1, e2])
  · rw [if_neg hji] at hj; cases hj
theorem opv_noNm {K : PySem.W.Frag} {M : List Cell} {Rb : Rp} {n : Nm} {ns : List Nm} (h : SVp (memP M) Rb (ns.map rNm)) (hn : n ∉ ns) : Opv M (rNm n) Rb (rIn K false) (rB false) := by
  have := opv_inNm (K := K) (n := n) h
  rwa [decide_eq_false hn] at this
def rLenStr : List V → Hp → VK → Prop := fun xs H Q => ∃ z, xs = [.str z] ∧ z.length ≤ sizeLine ∧ Q (.int z.length) H
theorem cr_lenStr {X : Cx} : CallR X (.builtin "len") rLenStr := call_len_str
theorem clv_lenS {M : List Cell} {x : Str} (h : x.length ≤ 100000) : Clv M [rS x] rLenStr (rI x.length) := fun xs G H s m hx Q q => by
  obtain ⟨v, rfl, hv⟩ := all2_1 hx
  have hv : v = .str x := hv
  subst hv
  exact ⟨x, rfl, small5 h, q _ G H (Grow.refl s) rfl⟩
section
variable {P : Program} {w : World} {K : PySem.W.Frag} {mg : Str → Option Value} {base : Heap}
abbrev c_isName : Ct := .fn (γ := Nm) (fun n => [rNm n]) (fun _ => True) fun _ => rB true
theorem dn_is_name (bi : BI mg) (hL : ∃ u, mg "LETTERS" = some u ∧ RelV (.str lettersT) u) (F : DefAt K mg "is_name" s_is_name) : Dn P w K mg base "is_name" 1 p_is_name c_isName := by
  refine dn_mk F sc_is_name (fun _ => rfl) (fun _ _ _ _ _ _ us hl => match us, hl with | [_], _ => rfl) fun f cdv A outer s H E B D (n : Nm) hr hz hF hP hD => ?_
  show Tr _ B [some (rNm n), none] [] _ D
  obtain ⟨u, hu, ru⟩ := hL
  obtain ⟨h1, h2, h3⟩ := Nm.ok n
  have e1 : n.val.length = n.val.cps.size := rfl
  refine tr_ret (R := rB true) (de_and (c := true) (de_callB call_isi bi.isinstance (by decide +kernel) (da_cons (de_var 0) (da_cons (de_bltn (v := .ty "str") (u := .type "str") bi.str (by decide +kernel) rfl) da_nil)) clv_isStr) (fun _ => de_and (c := true) (DE.is (de_chain (d := true) (d' := true) op_le op_le de_int (de_callB cr_lenStr bi.len (by decide +kernel) (da_cons (de_var 0) da_nil) (clv_lenS (by omega))) de_int ?_ ?_) rfl) (fun _ => de_one (DE.is (de_callB (cr_all rfl) bi.all (by decide +kernel) (da_cons (NE.de (ne_lcQ (n := n.val.cps.size) (f := fun _ => rB true) 1 sc_is_name.nd (iq_str (de_var 0)) (by omega) fun i hi _ _ _ _ _ => DE.is (de_cmp op_inSg (de_var 1) (de_glob hu ru) opv_inS) ?_)) da_nil) (clv_all (bs := (List.range n.val.cps.size).map fun _ => true) ?_)) ?_)) (fun h => by cases h)) (fun h => by cases h)) fun v σ G H st r => hD.rt () v _ _ σ G H trivial st .nil r
  · exact opv_leT (by rw [e1]; omega)
  · exact opv_leT (by rw [e1]; omega)
  · have hm : n.val.cps.getD i 0 ∈ n.val.cps.toList := by
      rw [Array.getD_eq_getD_getElem?, Array.getElem?_eq_getElem hi]
      exact Array.getElem_mem_toList hi
    have := h3 _ hm
    exact congrArg rB (decide_eq_true (mem_letters this.1 this.2))
  · rw [List.map_map]; exact lv_l
  · exact congrArg rB (by simp)
/-! ### is_literal, first_wrong -/
abbrev c_isLiteral : Ct := .fn (γ := Lit × Rp × List Nm) (fun g => [rLt g.1, g.2.1]) (fun g => (∀ MP, SVp MP g.2.1 (g.2.2.map rNm)) ∧ g.1.nm ∈ g.2.2) fun _ => rB true
theorem dn_is_literal (bi : BI mg) (F : DefAt K mg "is_literal" s_is_literal) (Fn : Dn P w K mg base "name_of" 1 p_name_of c_bare) : Dn P w K mg base "is_literal" 2 p_is_literal c_isLiteral := by
  refine dn_mk F sc_is_literal (fun _ => rfl) (fun _ _ _ _ _ _ us hl => match us, hl with | [_, _], _ => rfl) fun f cdv A outer s H E B D (g : Lit × Rp × List Nm) hr hz hF hP hD => ?_
  obtain ⟨l, R, ns⟩ := g
  obtain ⟨hsv, hin⟩ := hz
  show Tr _ B [some (rLt l), some R] [] _ D
  exact tr_ret (R := rB true) (de_and (c := true) (de_callB call_isi bi.isinstance (by decide +kernel) (da_cons (de_var 0) (da_cons (de_bltn (v := .ty "str") (u := .type "str") bi.str (by decide +kernel) rfl) da_nil)) clv_isStr) (fun _ => de_one (DE.is (de_cmp op_in_seq (de_call (R := rNm l.nm) Fn hr l (da_cons (de_var 0) da_nil) trivial fun _ _ _ _ r => r) (de_var 1) (opv_inNm (hsv _))) (congrArg rB (decide_eq_true hin)))) (fun h => by cases h)) fun v σ G H st r => hD.rt () v _ _ σ G H trivial st .nil r
structure FwG where
  R : Rp
  ls : List Lit
  Rn : Rp
  ns : List Nm
structure FwP (g : FwG) : Prop where
  sv : ∀ MP, SVp MP g.R (g.ls.map rLt)
  svn : ∀ MP, SVp MP g.Rn (g.ns.map rNm)
  sub : ∀ l ∈ g.ls, l.nm ∈ g.ns
  nod : (g.ls.map (·.nm)).Nodup
  z : g.ls.length ≤ 10000
abbrev c_firstWrong : Ct := .fn (γ := FwG) (fun g => [g.R, g.Rn]) FwP fun _ => rN
theorem dn_first_wrong (bi : BI mg) (F : DefAt K mg "first_wrong" s_first_wrong) (Fi : Dn P w K mg base "is_list" 1 p_is_list c_isList) (Fl : Dn P w K mg base "is_literal" 2 p_is_literal c_isLiteral) (Fn : Dn P w K mg base "name_of" 1 p_name_of c_bare) : Dn P w K mg base "first_wrong" 3 p_first_wrong c_firstWrong := by
  refine dn_mk F sc_first_wrong (fun _ => rfl) (fun _ _ _ _ _ _ us hl => match us, hl with | [_, _], _ => rfl) fun f cdv A outer s H E B D (g : FwG) hr hz hF hP hD => ?_
  obtain ⟨R, ls, Rn, ns⟩ := g
  have Fi := Fi.mono (show 1 ≤ 2 by decide)
  have Fn := Fn.mono (show 1 ≤ 2 by decide)
  have hsv : ∀ MP, SVp MP R (ls.map rLt) := hz.sv
  have hsvn : ∀ MP, SVp MP Rn (ns.map rNm) := hz.svn
  have hsub : ∀ l ∈ ls, l.nm ∈ ns := hz.sub
  have hnod : (ls.map (·.nm)).Nodup := hz.nod
  have hlz : ls.length ≤ 10000 := hz.z
  show Tr _ B [some R, some Rn, none, none, none] [] _ D
  refine tr_if (b := false) (dt_not (c := true) (dt_val (de_call (R := rB true) Fi hr (R, ls.map rLt) (da_cons (de_var 0) da_nil) hsv fun _ _ _ _ r => r))) (fun h => by cases h) fun _ => tr_go ?_
  refine tr_own (W := wL []) 2 sc_first_wrong.nd (ne_lst (Rs := []) da_nil (Nat.zero_le _)) fun a ha => ?_
  show Tr _ B [some R, some Rn, some (rV (.ref a)), none, none] [cL a []] _ D
  refine tr_forP (S := List Nm) (n := (ls.map rLt).length) (ra := fun i => rI (i : Nat)) (rb := fun i => (ls.map rLt).getD i rN) 3 4 PassesOwn.never sc_first_wrong.nd (ip_enum bi.enumerate (de_var 0) hsv) (fun _ => [some R, some Rn, some (rV (.ref a)), none, none]) (fun s => [cL a (s.map rNm)]) (fun i s => s = (ls.map (·.nm)).take i) [] rfl ⟨rfl, rfl, rfl, trivial⟩ rfl ?_ ?_
  · rintro P2 pm2 i met hi hj D2 hn2 hrt2
    have hj : met = (ls.map (·.nm)).take i := hj
    subst hj
    have hi : i < ls.length := by rwa [List.length_map] at hi
    have hci : ls[i]? = some ls[i] := List.getElem?_eq_getElem hi
    have hcm : ls[i] ∈ ls := List.getElem_mem hi
    rw [getD_map' hi]
    generalize ls[i] = l at hci hcm
    have hni : (ls.map (·.nm))[i]? = some l.nm := by rw [List.getElem?_map, hci]; rfl
    have hno := nodup_at hnod hni
    have hml : ((ls.map (·.nm)).take i).length ≤ 10000 := by rw [List.length_take, List.length_map]; omega
    have hnx : (ls.map (·.nm)).take i ++ [l.nm] = (ls.map (·.nm)).take (i + 1) := by rw [List.take_add_one, hni]; rfl
    show Tr _ _ [some R, some Rn, some (rV (.ref a)), some (rI (i : Nat)), some (rLt l)] [cL a (((ls.map (·.nm)).take i).map rNm)] _ D2
    refine tr_if (b := false) (DW.dt (dw_or (c := false) (d := false) (dt_not (c := true) (dt_val (de_call (R := rB true) Fl hr (l, Rn, ns) (da_cons (de_var 4) (da_cons (de_var 1) da_nil)) ⟨hsvn, hsub l hcm⟩ fun _ _ _ _ r => r))) fun _ => dw_or1 (dt_cmp op_in_seq (de_call (R := rNm l.nm) Fn hr l (da_cons (de_var 4) da_nil) trivial fun _ _ _ _ r => r) (de_var 2) (opv_noNm (sv_m List.mem_cons_self) hno)))) (fun h => by cases h) fun _ => tr_go ?_
    refine tr_append 0 (de_var 2) (de_call (R := rNm l.nm) Fn hr l (da_cons (de_var 4) da_nil) trivial fun _ _ _ _ r => r) rfl (.inr ha) (by rw [List.length_map]; omega) ?_
    exact tr_nil fun σ G H st => hn2 ((ls.map (·.nm)).take (i + 1)) rfl σ G H ((show cL a (((ls.map (·.nm)).take i).map rNm ++ [rNm l.nm]) = cL a (((ls.map (·.nm)).take (i + 1)).map rNm) from by rw [← hnx, List.map_append]; rfl) ▸ st.less ⟨rfl, rfl, rfl, trivial⟩)
  · intro met _
    exact tr_ret (R := rN) de_non fun v σ G H st r => hD.rt () v _ _ σ G H trivial st .nil r
end
end KL

/-! KF21 -/
namespace KL
open PySem PySem.Spec PyProof.Rows L2 KM
section
variable {P : Program} {w : World} {K : PySem.W.Frag} {mg : Str → Option Value} {base : Heap}
/-! ### checked_names -/
structure CnG where
  R : Rp
  ns : List Nm
  ks : List Nm
structure CnP (g : CnG) : Prop where
  sv : ∀ MP, SVp MP g.R (g.ns.map rNm)
  nod : g.ns.Nodup
  dis : ∀ n ∈ g.ns, n ∉ g.ks
  z : g.ns.length ≤ 10000
abbrev c_checkedNames : Ct := .fn (γ := CnG) (fun g => [g.R, rT (g.ks.map rNm)]) CnP fun g => rT (g.ns.map rNm)
theorem dn_checked_names (bi : BI mg) (F : DefAt K mg "checked_names" s_checked_names) (Fi : Dn P w K mg base "is_name" 1 p_is_name c_isName) : Dn P w K mg base "checked_names" 2 p_checked_names c_checkedNames := by
  refine dn_mk F sc_checked_names (fun _ => rfl) (fun _ _ _ _ _ _ us hl => match us, hl with | [_, _], _ => rfl) fun f cdv A outer s H E B D (g : CnG) hr hz hF hP hD => ?_
  obtain ⟨R, ns, ks⟩ := g
  have hsv : ∀ MP, SVp MP R (ns.map rNm) := hz.sv
  have hnod : ns.Nodup := hz.nod
  have hdis : ∀ n ∈ ns, n ∉ ks := hz.dis
  have hlz : ns.length ≤ 10000 := hz.z
  show Tr _ B [some R, some (rT (ks.map rNm)), none, none, none] [] _ D
  refine tr_own (W := wL []) 2 sc_checked_names.nd (ne_lst (Rs := []) da_nil (Nat.zero_le _)) fun a ha => ?_
  show Tr _ B [some R, some (rT (ks.map rNm)), some (rV (.ref a)), none, none] [cL a []] _ D
  refine tr_forP (S := List Nm) (n := (ns.map rNm).length) (ra := fun i => rI (i : Nat)) (rb := fun i => (ns.map rNm).getD i rN) 3 4 PassesOwn.never sc_checked_names.nd (ip_enum bi.enumerate (de_var 0) hsv) (fun _ => [some R, some (rT (ks.map rNm)), some (rV (.ref a)), none, none]) (fun s => [cL a (s.map rNm)]) (fun i s => s = ns.take i) [] rfl ⟨rfl, rfl, rfl, trivial⟩ rfl ?_ ?_
  · rintro P2 pm2 i met hi hj D2 hn2 hrt2
    have hj : met = ns.take i := hj
    subst hj
    have hi : i < ns.length := by rwa [List.length_map] at hi
    have hci : ns[i]? = some ns[i] := List.getElem?_eq_getElem hi
    have hcm : ns[i] ∈ ns := List.getElem_mem hi
    rw [getD_map' hi]
    generalize ns[i] = n at hci hcm
    have hno := nodup_at hnod hci
    have hml : (ns.take i).length ≤ 10000 := by rw [List.length_take]; omega
    have hnx : ns.take i ++ [n] = ns.take (i + 1) := by rw [List.take_add_one, hci]; rfl
    show Tr _ _ [some R, some (rT (ks.map rNm)), some (rV (.ref a)), some (rI (i : Nat)), some (rNm n)] [cL a ((ns.take i).map rNm)] _ D2
    refine tr_if (b := false) (DW.dt (dw_or (c := false) (d := false) (dt_not (c := true) (dt_val (de_call (R := rB true) Fi hr n (da_cons (de_var 4) da_nil) trivial fun _ _ _ _ r => r))) fun _ => dw_or (c := false) (d := false) (dt_cmp op_in_seq (de_var 4) (de_var 2) (opv_noNm (sv_m List.mem_cons_self) hno)) fun _ => dw_or1 (dt_cmp op_in_seq (de_var 4) (de_var 1) (opv_noNm sv_t (hdis n hcm))))) (fun h => by cases h) fun _ => tr_go ?_
    refine tr_append 0 (de_var 2) (de_var 4) rfl (.inr ha) (by rw [List.length_map]; omega) ?_
    exact tr_nil fun σ G H st => hn2 (ns.take (i + 1)) rfl σ G H ((show cL a ((ns.take i).map rNm ++ [rNm n]) = cL a ((ns.take (i + 1)).map rNm) from by rw [← hnx, List.map_append]; rfl) ▸ st.less ⟨rfl, rfl, rfl, trivial⟩)
  · intro met hj
    have hj : met = ns.take (ns.map rNm).length := hj
    rw [List.length_map, List.take_length] at hj
    subst hj
    exact tr_ret (R := rT (met.map rNm)) (de_callTy cr_tuple bi.tuple (by decide +kernel) (da_cons (de_var 2) da_nil) (clv_tuple (lv_c List.mem_cons_self))) fun v σ G H st r => hD.rt () v _ _ σ G H trivial st .nil r
/-! ### check_setting -/
abbrev c_checkSetting : Ct := .fn (γ := FwG) (fun g => [g.R, g.Rn]) FwP fun _ => rN
theorem dn_check_setting (F : DefAt K mg "check_setting" s_check_setting) (Fw : Dn P w K mg base "first_wrong" 3 p_first_wrong c_firstWrong) : Dn P w K mg base "check_setting" 4 p_check_setting c_checkSetting := by
  refine dn_mk F sc_check_setting (fun _ => rfl) (fun _ _ _ _ _ _ us hl => match us, hl with | [_, _], _ => rfl) fun f cdv A outer s H E B D (g : FwG) hr hz hF hP hD => ?_
  show Tr _ B [some g.R, some g.Rn, none] [] _ D
  refine tr_set (R := rN) 2 sc_check_setting.nd (de_call (R := rN) Fw hr g (da_cons (de_var 0) (da_cons (de_var 1) da_nil)) hz fun _ _ _ _ r => r) ?_
  refine tr_if (b := false) (dt_cmp op_isNotNo (Ra := rN) (de_var 2) de_non (opv_isNotN (c := true) fun G v h => by have h : v = .non := h; simp [h])) (fun h => by cases h) fun _ => tr_go ?_
  exact tr_nil fun σ G H st => hD.nx () _ _ σ G H trivial st .nil rfl
/-! ### checked_clauses, checked_settings -/
structure CcG where
  R : Rp
  cls : List (Cl Nm)
  rf : Cl Nm → Rp
  ns : List Nm
structure CcP (g : CcG) : Prop where
  sv : ∀ MP, SVp MP g.R (g.cls.map g.rf)
  svc : ∀ c ∈ g.cls, ∀ MP, SVp MP (g.rf c) (c.map rLt)
  sub : ∀ c ∈ g.cls, ∀ l ∈ c, l.nm ∈ g.ns
  nod : ∀ c ∈ g.cls, (c.map (·.nm)).Nodup
  z : g.cls.length ≤ 50000
  cz : ∀ c ∈ g.cls, c.length ≤ 10000
  nz : g.ns.length ≤ 10000
abbrev c_checkedClauses : Ct := .fn (γ := CcG) (fun g => [g.R, rT (g.ns.map rNm)]) CcP fun g => rL ((g.cls.map fun c => upM c g.ns).map rC)
theorem dn_checked_clauses (bi : BI mg) (F : DefAt K mg "checked_clauses" s_checked_clauses) (Fw : Dn P w K mg base "first_wrong" 3 p_first_wrong c_firstWrong) (Fa : Dn P w K mg base "ascending" 1 p_ascending (c_up K)) : Dn P w K mg base "checked_clauses" 4 p_checked_clauses c_checkedClauses := by
  refine dn_mk F sc_checked_clauses (fun _ => rfl) (fun _ _ _ _ _ _ us hl => match us, hl with | [_, _], _ => rfl) fun f cdv A outer s H E B D (g : CcG) hr hz hF hP hD => ?_
  obtain ⟨R, cls, rf, ns⟩ := g
  have Fa := Fa.mono (show 1 ≤ 3 by decide)
  have hsv : ∀ MP, SVp MP R (cls.map rf) := hz.sv
  have hsvc : ∀ c ∈ cls, ∀ MP, SVp MP (rf c) (c.map rLt) := hz.svc
  have hlz : cls.length ≤ 50000 := hz.z
  have hnz : ns.length ≤ 10000 := hz.nz
  show Tr _ B [some R, some (rT (ns.map rNm)), none, none, none] [] _ D
  refine tr_own (W := wL []) 2 sc_checked_clauses.nd (ne_lst (Rs := []) da_nil (Nat.zero_le _)) fun a ha => ?_
  show Tr _ B [some R, some (rT (ns.map rNm)), some (rV (.ref a)), none, none] [cL a []] _ D
  refine tr_forP (S := List (Cl Nm)) (n := (cls.map rf).length) (ra := fun i => rI (i : Nat)) (rb := fun i => (cls.map rf).getD i rN) 3 4 PassesOwn.never sc_checked_clauses.nd (ip_enum bi.enumerate (de_var 0) hsv) (fun _ => [some R, some (rT (ns.map rNm)), some (rV (.ref a)), none, none]) (fun s => [cL a ((s.map fun c => upM c ns).map rC)]) (fun i s => s = cls.take i) [] rfl ⟨rfl, rfl, rfl, trivial⟩ rfl ?_ ?_
  · rintro P2 pm2 i met hi hj D2 hn2 hrt2
    have hj : met = cls.take i := hj
    subst hj
    have hi : i < cls.length := by rwa [List.length_map] at hi
    have hci : cls[i]? = some cls[i] := List.getElem?_eq_getElem hi
    have hcm : cls[i] ∈ cls := List.getElem_mem hi
    rw [getD_map' hi]
    generalize cls[i] = c at hci hcm
    have hml : (cls.take i).length ≤ 50000 := by rw [List.length_take]; omega
    have hnx : cls.take i ++ [c] = cls.take (i + 1) := by rw [List.take_add_one, hci]; rfl
    show Tr _ _ [some R, some (rT (ns.map rNm)), some (rV (.ref a)), some (rI (i : Nat)), some (rf c)] [cL a (((cls.take i).map fun c => upM c ns).map rC)] _ D2
    refine tr_if (b := false) (dt_cmp op_isNotNo (Ra := rN) (de_call (R := rN) Fw hr (FwG.mk (rf c) c (rT (ns.map rNm)) ns) (da_cons (de_var 4) (da_cons (de_var 1) da_nil)) ⟨hsvc c hcm, fun _ => sv_t, hz.sub c hcm, hz.nod c hcm, hz.cz c hcm⟩ fun _ _ _ _ r => r) de_non (opv_isNotN (c := true) fun G v h => by have h : v = .non := h; simp [h])) (fun h => by cases h) fun _ => tr_go ?_
    refine tr_append 0 (de_var 2) (de_call (R := rC (upM c ns)) Fa hr (rf c, c, rT (ns.map rNm), ns) (da_cons (de_var 4) (da_cons (de_var 1) da_nil)) ⟨holds_s (hsvc c hcm), fun _ => sv_t, hnz⟩ fun _ _ _ _ r => r) rfl (.inr ha) (by rw [List.length_map, List.length_map]; omega) ?_
    exact tr_nil fun σ G H st => hn2 (cls.take (i + 1)) rfl σ G H ((show cL a (((cls.take i).map fun c => upM c ns).map rC ++ [rC (upM c ns)]) = cL a (((cls.take (i + 1)).map fun c => upM c ns).map rC) from by rw [← hnx, List.map_append, List.map_append]; rfl) ▸ st.less ⟨rfl, rfl, rfl, trivial⟩)
  · intro met hj
    have hj : met = cls.take (cls.map rf).length := hj
    rw [List.length_map, List.take_length] at hj
    subst hj
    refine tr_pub 2 0 ha rfl rfl ?_
    exact tr_ret (de_var 2) fun v σ G H st r => hD.rt () v _ _ σ G H trivial st .nil r
/-- full settings -/
structure CsG where
  R : Rp
  cls : List (Cl Nm)
  ns : List Nm
structure CsP (g : CsG) : Prop where
  sv : ∀ MP, SVp MP g.R (g.cls.map rC)
  sub : ∀ c ∈ g.cls, c.map (·.nm) = g.ns
  nod : g.ns.Nodup
  z : g.cls.length ≤ 50000
  nz : g.ns.length ≤ 10000
abbrev c_checkedSettings : Ct := .fn (γ := CsG) (fun g => [g.R, rT (g.ns.map rNm)]) CsP fun g => rL (g.cls.map rC)
theorem upM_full : ∀ {c : Cl Nm} {ns : List Nm}, ns.Nodup → c.map (·.nm) = ns → upM c ns = c
  | [], _, _, e => by subst e; rfl
  | l :: r, _, h, e => by
    subst e
    rw [List.map_cons, List.nodup_cons] at h
    have hr : ∀ k ∈ r, k.nm ≠ l.nm := fun k hk e => h.1 (List.mem_map.mpr ⟨k, hk, e⟩)
    have ih := upM_full (c := r) h.2 rfl
    have e1 : ((both l.nm).filter fun k => decide (k ∈ l :: r)) = [l] := by
      cases l with | mk p n =>
      have h1 : ∀ q, (⟨q, n⟩ : Lit) ∉ r := fun q hq => hr _ hq rfl
      cases p <;> simp [both, h1]
    have e2 : ((r.map (·.nm)).flatMap fun n => (both n).filter fun k => decide (k ∈ l :: r)) = upM r (r.map (·.nm)) := by
      unfold upM
      rw [List.flatMap_def, List.flatMap_def]
      refine congrArg List.flatten (List.map_congr_left fun n hn => List.filter_congr fun k hk => ?_)
      have hkn : k.nm = n := by
        unfold both at hk
        simp only [List.mem_cons, List.not_mem_nil, or_false] at hk
        rcases hk with e | e <;> rw [e]
      have hne : k ≠ l := fun e => by
        rw [e] at hkn
        exact h.1 (hkn ▸ hn)
      simp [hne]
    show upM (l :: r) (l.nm :: r.map (·.nm)) = _
    rw [show upM (l :: r) (l.nm :: r.map (·.nm)) = ((both l.nm).filter fun k => decide (k ∈ l :: r)) ++ ((r.map (·.nm)).flatMap fun n => (both n).filter fun k => decide (k ∈ l :: r)) from by unfold upM; rw [List.flatMap_cons], e1, e2, ih]
    rfl
theorem dn_checked_settings (bi : BI mg) (F : DefAt K mg "checked_settings" s_checked_settings) (Fw : Dn P w K mg base "first_wrong" 3 p_first_wrong c_firstWrong) (Fa : Dn P w K mg base "ascending" 1 p_ascending (c_up K)) : Dn P w K mg base "checked_settings" 4 p_checked_settings c_checkedSettings := by
  refine dn_mk F sc_checked_settings (fun _ => rfl) (fun _ _ _ _ _ _ us hl => match us, hl with | [_, _], _ => rfl) fun f cdv A outer s H E B D (g : CsG) hr hz hF hP hD => ?_
  obtain ⟨R, cls, ns⟩ := g
  have Fa := Fa.mono (show 1 ≤ 3 by decide)
  have hsv : ∀ MP, SVp MP R (cls.map rC) := hz.sv
  have hsub : ∀ c ∈ cls, c.map (·.nm) = ns := hz.sub
  have hnod : ns.Nodup := hz.nod
  have hlz : cls.length ≤ 50000 := hz.z
  have hnz : ns.length ≤ 10000 := hz.nz
  show Tr _ B [some R, some (rT (ns.map rNm)), none, none, none] [] _ D
  refine tr_own (W := wL []) 2 sc_checked_settings.nd (ne_lst (Rs := []) da_nil (Nat.zero_le _)) fun a ha => ?_
  show Tr _ B [some R, some (rT (ns.map rNm)), some (rV (.ref a)), none, none] [cL a []] _ D
  refine tr_forP (S := List (Cl Nm)) (n := (cls.map rC).length) (ra := fun i => rI (i : Nat)) (rb := fun i => (cls.map rC).getD i rN) 3 4 PassesOwn.never sc_checked_settings.nd (ip_enum bi.enumerate (de_var 0) hsv) (fun _ => [some R, some (rT (ns.map rNm)), some (rV (.ref a)), none, none]) (fun s => [cL a (s.map rC)]) (fun i s => s = cls.take i) [] rfl ⟨rfl, rfl, rfl, trivial⟩ rfl ?_ ?_
  · rintro P2 pm2 i met hi hj D2 hn2 hrt2
    have hj : met = cls.take i := hj
    subst hj
    have hi : i < cls.length := by rwa [List.length_map] at hi
    have hci : cls[i]? = some cls[i] := List.getElem?_eq_getElem hi
    have hcm : cls[i] ∈ cls := List.getElem_mem hi
    rw [getD_map' hi]
    generalize cls[i] = c at hci hcm
    have hml : (cls.take i).length ≤ 50000 := by rw [List.length_take]; omega
    have hnx : cls.take i ++ [c] = cls.take (i + 1) := by rw [List.take_add_one, hci]; rfl
    have hc := hsub c hcm
    have hcl : c.length = ns.length := by rw [← hc, List.length_map]
    show Tr _ _ [some R, some (rT (ns.map rNm)), some (rV (.ref a)), some (rI (i : Nat)), some (rC c)] [cL a ((cls.take i).map rC)] _ D2
    refine tr_if (b := false) (DW.dt (dw_or (c := false) (d := false) (dt_cmp op_isNotNo (Ra := rN) (de_call (R := rN) Fw hr (FwG.mk (rC c) c (rT (ns.map rNm)) ns) (da_cons (de_var 4) (da_cons (de_var 1) da_nil)) ⟨fun _ => sv_t, fun _ => sv_t, fun l hl => by show l.nm ∈ ns; rw [← hc]; exact List.mem_map.mpr ⟨l, hl, rfl⟩, by show (c.map (·.nm)).Nodup; rw [hc]; exact hnod, by show c.length ≤ 10000; omega⟩ fun _ _ _ _ r => r) de_non (opv_isNotN (c := true) fun G v h => by have h : v = .non := h; simp [h])) fun _ => dw_or1 (dt_cmp op_ne (de_callB cr_len bi.len (by decide +kernel) (da_cons (de_var 4) da_nil) (clv_len sv_t)) (de_callB cr_len bi.len (by decide +kernel) (da_cons (de_var 1) da_nil) (clv_len sv_t)) ?_))) (fun h => by cases h) fun _ => tr_go ?_
    · rw [List.length_map, List.length_map, hcl]
      have := neI (M := [cL a ((cls.take i).map rC)]) (i := (ns.length : Nat)) (j := (ns.length : Nat))
      rwa [decide_eq_true (rfl : ((ns.length : Nat) : Int) = (ns.length : Nat))] at this
    refine tr_append 0 (de_var 2) (DE.is (de_call (R := rC (upM c ns)) Fa hr (rC c, c, rT (ns.map rNm), ns) (da_cons (de_var 4) (da_cons (de_var 1) da_nil)) ⟨holds_s fun _ => sv_t, fun _ => sv_t, hnz⟩ fun _ _ _ _ r => r) (congrArg rC (upM_full hnod hc))) rfl (.inr ha) (by rw [List.length_map]; omega) ?_
    exact tr_nil fun σ G H st => hn2 (cls.take (i + 1)) rfl σ G H ((show cL a ((cls.take i).map rC ++ [rC c]) = cL a ((cls.take (i + 1)).map rC) from by rw [← hnx, List.map_append]; rfl) ▸ st.less ⟨rfl, rfl, rfl, trivial⟩)
  · intro met hj
    have hj : met = cls.take (cls.map rC).length := hj
    rw [List.length_map, List.take_length] at hj
    subst hj
    refine tr_pub 2 0 ha rfl rfl ?_
    exact tr_ret (de_var 2) fun v σ G H st r => hD.rt () v _ _ σ G H trivial st .nil r
end
end KL

/-! KDt -/
/-! Dict comprehensions whose keys are tuples of texts (HandS.DictComp has ints and texts). -/
namespace KL
open PySem PySem.Spec PyProof.Rows L2 KM
/-- a comprehension lays v under a tuple -/
theorem put_tup {X : Cx} {pins : List (Addr × Obj)} {σ : L2.St} {H : Hp} {s : Shared} {E : Value → Shared → Prop} {D b : Addr} {kvs : List (List Key × V)} {k : List Key} {v : V} {r : Value} {Q : Unit → Shared → Prop} (hu : X.A.units < cLine) (I : Inv X pins σ H s)
    (e : H D = some (.dT kvs)) (eb : H b = some (.tup (k.map kV))) (l : kvs.length < sizeLine) (rv : RelV v r) (h : ∀ s', Inv X pins σ (upd H D (.dT (putK kvs k v))) s' → Q () s') : wpAny (model X.prog X.w) X.A (dictSet D (.ref b) r) Q E s := by
  obtain ⟨z, hd, xs, rel, dd⟩ := dt_of I.hok e
  have hz : xs.length ≤ sizeLine := by rw [← Paired.length rel]; exact z
  have hl : (putK kvs k v).length ≤ sizeLine := by have := length_putK kvs k v; omega
  refine wpAny_dictSet_heap (hsz := hz) hu (key_of I.hok eb) dd fun h' dd' hs => h _ ?_
  obtain ⟨q, es, ep, hq, h2, h3, h4, _, h5⟩ := dd'
  refine d_write I (by rw [e]; exact True.intro) hs ⟨q, hq⟩ ⟨hl, hd, _, (rel.put k eb rv).keeps fun c ys ec => ?_, q, es, ep, hq, h2, h3, h4, h5⟩
  rw [upd_ne (ne_of ec e (fun z => nomatch z))]
  exact ec
section
variable {X : Cx}
/-- one turn's end: the pair is laid -/
def tPutT (D : Addr) (tk tv : TE) (Nx : Hp → Prop) : L2.St → Hp → Prop := fun σ H => tk σ H fun y H4 => tv σ H4 fun z H5 => ∃ kvs k b, y = .ref b ∧ H5 b = some (.tup (k.map kV)) ∧ H5 D = some (.dT kvs) ∧ kvs.length < sizeLine ∧ Nx (upd H5 D (.dT (putK kvs k z)))
def tDcT (wi : TI) (g : TG) (tk tv : TE) (vs : List Nat) : TE := fun σ H Q => wi σ H fun J H1 => ∀ D, H1 D = none → ∃ W : Nat → Nat → Hp → Prop, (∃ m, W 0 m (upd H1 D (.dT []))) ∧ ∀ i m H, W i m H →
  (J.stop i H ∧ Q (.ref D) H) ∨ (J.go i H ∧ ∃ Nx : Hp → Prop, (∀ H', Nx H' → ∃ m', m' < m ∧ W (i + 1) m' H') ∧ ∀ x H', J.yld i H x H' → g x (wipe σ vs) H' fun σ2 H2 => wipe σ2 vs = wipe σ vs ∧ tPutT D tk tv Nx σ2 H2)
variable {kx vx tg iter : Expr} {scope : Scope} {own : List (Str × Nat)} {pos : Pos} {wi : TI} {g : TG} {tk tv : TE}
theorem pe_dcT (hu : X.A.units < cLine) (hc : X.calm = true) (hN : X.N.Nodup) (hi : PI X tg iter wi) (ok : BlkOk X.N X.env.scope scope own)
    (hg : AllB X scope fun X' => PG X' tg g) (hk : AllB X scope fun X' => PE X' kx tk) (he : AllB X scope fun X' => PE X' vx tv) (hs : ∀ x, foldedSetIterable iter X.env x = pure x := by intro _; rfl) :
    PE X (.DictComp kx vx [⟨tg, iter, [], 0⟩] scope pos) (tDcT wi g tk tv (own.map (·.2))) := by
  refine ⟨fun pins s σ H Q I h => ?_⟩
  rw [arm_eval_DictComp]
  have free : ∀ y ∈ scope.names, y.2 = .free → ∃ c, X.env.cells.lookup y.1 = some c := fun y hy e => (ok.free y hy e).elim (fun k => I.ok.has _ (.inl k)) fun k => I.ok.has _ (.inr k)
  refine wpAny_comprehension_free (use := _) rfl hs (closure_ok free) ok.kind (fun y hy e => by rw [ok.uniq y hy, e]) (thn (hi.run pins s σ H _ I h) fun _ _ hx => thn hx fun _ s2 ⟨it, fp, tn, J, H2, e2, I2, T, st2, f2, q⟩ => ?_)
  subst e2
  refine wpAny_newObj_type (newEnv_comp ?_)
  -- D: the new dict's address
  obtain ⟨D, hD⟩ : ∃ D, s2.heap.objs.size = D := ⟨_, rfl⟩
  obtain ⟨W, ⟨m0, w0⟩, turn⟩ := q D (I2.hok.fresh (Nat.le_of_eq hD))
  have lay : Inv X pins σ (upd H2 D (.dT [])) { s2 with heap := s2.heap.push { cls := .type "dict", data := .dict #[] } } :=
    I2.laid (t' := s2.toks) (fun b o e => Heap.get?_push_of_some _ e) (Nat.le_of_eq hD) (hD ▸ dt_empty s2.heap I2.big)
  have old : ∀ b ∈ fp, b < s2.heap.objs.size := fun b hb => let ⟨_, e, _⟩ := T.obj _ _ st2 b hb; Heap.lt_size e
  rw [hD]
  generalize hs3 : ({ s2 with heap := s2.heap.push { cls := .type "dict", data := .dict #[] } } : Shared) = s3 at lay
  have h3 : s3.heap = s2.heap.push { cls := .type "dict", data := .dict #[] } := by rw [← hs3]
  have f3 : ∀ b ∈ fp, FpOk X pins (upd H2 D (.dT [])) b ∧ b < s3.heap.objs.size := fun b hb => by
    exact ⟨⟨by rw [upd_ne (by rw [← hD]; exact Nat.ne_of_lt (old b hb))]; exact (f2 b hb).1, (f2 b hb).2⟩, by rw [h3, Heap.size_push]; exact Nat.lt_succ_of_lt (old b hb)⟩
  have st3 : tn 0 s3.heap := T.keep _ _ _ st2 fun b _ o e => by rw [h3]; exact Heap.get?_push_of_some _ e
  have I4 := block_start lay ok hN f3
  have none3 : ∀ b ∈ fp, (upd H2 D (.dT [])) b = none := fun b hb => (f3 b hb).1.1
  generalize upd H2 D (.dT []) = H3 at lay f3 w0 I4 none3
  obtain ⟨cl, hcl⟩ : ∃ cl, cellsFrom (s3.heap.objs.size + 1) scope.names (cloFrom X.env.cells scope.names []) = cl := ⟨_, rfl⟩
  obtain ⟨C, hC⟩ : ∃ C, s3.heap.objs.size = C := ⟨_, rfl⟩
  have pg := hg s3 H3 C cl fp
  have pk := hk s3 H3 C cl fp
  have pe := he s3 H3 C cl fp
  rw [hcl, hC] at I4
  rw [hC] at f3
  subst hcl
  subst hC
  generalize hce : compEnvC scope (cellsFrom (s3.heap.objs.size + 1) scope.names (cloFrom X.env.cells scope.names [])) s3.heap.objs.size X.env = ce at I4 pg pk pe
  have cL : ce.locals = s3.heap.objs.size := by subst hce; rfl
  show codeAny _ _ (.compStart (.DictComp kx vx [⟨tg, iter, [], 0⟩] scope pos) 0 (.ref it) (.ref D) (compEnvC scope (cellsFrom (s3.heap.objs.size + 1) scope.names (cloFrom X.env.cells scope.names [])) s3.heap.objs.size X.env)) (compPost (model X.prog X.w) X.A X.xe none (EP X pins σ Q) (.ref D) s3.heap.objs.size) _
  rw [hce]
  generalize hs4 : ({ s3 with heap := pushCells (s3.heap.push { cls := .type "dict", data := .dict #[] }) scope.names } : Shared) = s4 at I4
  have st4 : tn 0 s4.heap := T.keep _ _ _ st3 fun b _ o e => by rw [← hs4]; exact pushCells_keeps _ _ _ _ (Heap.get?_push_of_some _ e)
  have there : ∀ {σ' : L2.St} {H' : Hp} {s' : Shared}, Inv (X.blk s3 H3 scope ce fp) [] σ' H' s' → (∀ b ∈ fp, H' b = none) → ∀ b ∈ fp, FpOk (X.blk s3 H3 scope ce fp) [] H' b := fun I' n b hb =>
    ⟨n b hb, (I'.ok.exf b hb).1, I'.ok.exfs b hb, .inl hb, fun x c e => (I'.ok.exf b hb).2 x c e, fun p hp => nomatch (show p ∈ ([] : List (Addr × Obj)) from by simpa using hp)⟩
  have loop : codeAny (model X.prog X.w) X.A (.compLoop (.DictComp kx vx [⟨tg, iter, [], 0⟩] scope pos) 0 (.ref it) (.ref D) ce) (compPost (model X.prog X.w) X.A X.xe none (EP X pins σ Q) (.ref D) s3.heap.objs.size) s4 := by
    refine compLoop_anyD (fun n s' => ∃ i H', Inv (X.blk s3 H3 scope ce fp) [] (wipe σ (own.map (·.2))) H' s' ∧ tn i s'.heap ∧ (∀ b ∈ fp, H' b = none) ∧ W i n H') ?_ m0 ⟨0, H3, I4, st4, none3, w0⟩
    rintro n s5 ⟨i, H5, I5, st5, n5, w5⟩
    rcases turn i n H5 w5 with ⟨stop, last⟩ | ⟨go, Nx, hNx, step⟩
    · refine thnF (T.done (X.blk s3 H3 scope ce fp) rfl rfl rfl hc i [] s5 _ H5 (fun _ _ => False) I5 (there I5 n5) st5 stop) fun r s6 ⟨er, I6⟩ => ?_
      subst er
      have back : Inv X pins σ H5 s6 := lay.call' (ch := fp) I6.os I6.base I6.hok I6.bare fun b hb => let z := (f3 b hb).1.2; ⟨z.2.2.1, z.1, z.2.2.2.1, z.2.2.2.2⟩
      have gone : H5 s3.heap.objs.size = none := by
        have z : H5 ce.locals = none := I6.free
        rwa [cL] at z
      obtain ⟨m, hn, _⟩ := I6.loc
      have hn : s6.heap.Ns ce.locals m := hn
      rw [cL] at hn
      obtain ⟨f0, f1, f2, f3, f4, f5⟩ := lay.fpOk (Nat.le_refl _) gone
      exact ⟨m, hn, fun h'' sb => ⟨.ref D, H5, back.turned (t' := s6.toks) (fun b o hb e => (sb.2 b hb).trans e) f0 f1 f3 f4 f5, rfl, last⟩⟩
    · refine thnF (T.item (X.blk s3 H3 scope ce fp) rfl rfl rfl hc i [] s5 _ H5 (fun _ _ => False) I5 (there I5 n5) st5 go) fun r s6 ⟨u, er, h6⟩ => ?_
      subst er
      refine thnF h6 fun _ s7 ⟨x, H7, I7, r7, y7, st7, n7⟩ => ?_
      have I7 := I7.pinned (there I7 n7) (T.obj _ _ st7)
      refine thnF (pg.run _ s7 _ H7 x u _ I7 r7 (step x H7 y7)) fun _ s8 ⟨σ8, H8, I8, same, q8⟩ => ?_
      refine thnF ((pts_nil (X := X.blk s3 H3 scope ce fp)).run _ s8 σ8 H8 (fun b H9 => b = true ∧ tPutT D tk tv Nx σ8 H9) I8 ⟨rfl, q8⟩) fun b s9 ⟨H9, I9, eb, q9⟩ => ?_
      subst eb
      simp only [if_true]
      refine thnF (pk.run _ s9 σ8 H9 _ I9 q9) fun kv s10 ⟨y, H10, I10, ry, q10⟩ => ?_
      refine thnF (pe.run _ s10 σ8 H10 _ I10 q10) fun vv s11 ⟨z, H11, I11, rz, kvs, k, b, ey, hb, hD11, hl11, nx⟩ => ?_
      subst ey
      obtain rfl : kv = Value.ref b := ry
      refine put_tup (X := X.blk s3 H3 scope ce fp) hu I11 hD11 hb hl11 rz fun s12 I12 => ?_
      obtain ⟨m', hm, w'⟩ := hNx _ nx
      have pin : ∀ c ∈ fp, ∀ o, s7.heap.get? c = some o → s12.heap.get? c = some o ∧ upd H11 D (.dT (putK kvs k z)) c = none := fun c hc o e =>
        let t := I12.pin (c, o) (List.mem_append_right _ (List.mem_append_right _ (mem_pinsAt hc e)))
        ⟨t.1, t.2.1⟩
      have hlen : (wipe σ (own.map (·.2))).length = σ8.length := by rw [← same, wipe_length]
      refine ⟨m', hm, i + 1, _, (I12.unpinned (pins := [])).weak hlen (fun j v e => ?_), T.keep _ _ _ st7 fun c hc o e => (pin c hc o e).1, fun c hc => ?_, w'⟩
      · rw [← same] at e
        exact (wipe_some e).1
      · obtain ⟨o, e, _⟩ := T.obj _ _ st7 c hc
        exact (pin c hc o e).2
  exact codeAny_compStart_dict loop (T.self X.A 0 _ _ _ st4 loop)
end
end KL

/-! KDt2 -/
namespace KL
open PySem PySem.Spec PyProof.Rows L2 KM
/-- each once, where it stands first -/
def snocC (acc : List (Cl Nm)) (c : Cl Nm) : List (Cl Nm) := if c ∈ acc then acc else acc ++ [c]
def onceC (xs : List (Cl Nm)) : List (Cl Nm) := xs.foldl snocC []
theorem onceC_snoc (xs : List (Cl Nm)) (c : Cl Nm) : onceC (xs ++ [c]) = snocC (onceC xs) c := by unfold onceC; rw [List.foldl_append]; rfl
theorem onceC_ind {p : List (Cl Nm) → List (Cl Nm) → Prop} (h0 : p [] []) (hs : ∀ xs c, p xs (onceC xs) → p (xs ++ [c]) (snocC (onceC xs) c)) : ∀ xs, p xs (onceC xs) := by
  intro xs
  have : ∀ n, n ≤ xs.length → p (xs.take n) (onceC (xs.take n)) := by
    intro n
    induction n with
    | zero => intro _; exact h0
    | succ n ih =>
      intro h
      have e : xs.take (n + 1) = xs.take n ++ [xs[n]] := by rw [List.take_add_one, List.getElem?_eq_getElem (by omega)]; rfl
      rw [e, onceC_snoc]
      exact hs _ _ (ih (by omega))
  have h := this xs.length (Nat.le_refl _)
  rwa [List.take_length] at h
theorem mem_onceC {xs : List (Cl Nm)} : ∀ {c : Cl Nm}, c ∈ onceC xs ↔ c ∈ xs := by
  refine onceC_ind (p := fun xs ys => ∀ {c : Cl Nm}, c ∈ ys ↔ c ∈ xs) (fun {c} => Iff.rfl) (fun xs d ih {c} => ?_) xs
  unfold snocC
  rw [List.mem_append]
  by_cases h : d ∈ onceC xs
  · rw [if_pos h, ih]
    constructor
    · exact .inl
    · rintro (h2 | h2)
      · exact h2
      · have : c = d := by simpa using h2
        exact this ▸ ih.mp h
  · rw [if_neg h, List.mem_append, ih]
theorem onceC_len (xs : List (Cl Nm)) : (onceC xs).length ≤ xs.length := by
  refine onceC_ind (p := fun xs ys => ys.length ≤ xs.length) (Nat.le_refl _) (fun xs d ih => ?_) xs
  unfold snocC
  rw [List.length_append, List.length_cons, List.length_nil]
  split
  · omega
  · rw [List.length_append, List.length_cons, List.length_nil]; omega
theorem onceC_nodup (xs : List (Cl Nm)) : (onceC xs).Nodup := by
  refine onceC_ind (p := fun xs ys => ys.Nodup) .nil (fun xs d ih => ?_) xs
  unfold snocC
  split
  · exact ih
  · rename_i h
    rw [List.nodup_append]
    exact ⟨ih, by simp, fun a ha b hb e => h (by have : b = d := by simpa using hb
                                                 rw [← this, ← e]; exact ha)⟩
theorem onceC_of {xs : List (Cl Nm)} (h : xs.Nodup) : onceC xs = xs := by
  revert h
  refine onceC_ind (p := fun xs ys => xs.Nodup → ys = xs) (fun _ => rfl) (fun xs d ih h => ?_) xs
  rw [List.nodup_append] at h
  have e := ih h.1
  unfold snocC
  rw [e, if_neg fun m => h.2.2 d m d (by simp) rfl]
abbrev keyC (c : Cl Nm) : List Key := (c.map ltS).map Sum.inr
theorem keyC_inj {a b : Cl Nm} (h : keyC a = keyC b) : a = b := by
  have h1 : a.map ltS = b.map ltS := (List.map_inj_right (f := (Sum.inr : Str → Key)) fun _ _ e => Sum.inr.inj e).mp h
  exact (List.map_inj_right fun _ _ e => ltS_inj e).mp h1
theorem putK_keys {kvs : List (List Key × V)} {xs : List (Cl Nm)} {c : Cl Nm} {v : V} (h : kvs.map (·.1) = xs.map keyC) : (putK kvs (keyC c) v).map (·.1) = (snocC xs c).map keyC := by
  have e : (kvs.any fun kv => decide (kv.1 = keyC c)) = decide (c ∈ xs) := by
    rw [Bool.eq_iff_iff, List.any_eq_true, decide_eq_true_iff]
    have hm : keyC c ∈ kvs.map (·.1) ↔ c ∈ xs := by
      rw [h, List.mem_map]
      exact ⟨fun ⟨d, hd, e⟩ => keyC_inj e ▸ hd, fun hc => ⟨c, hc, rfl⟩⟩
    rw [← hm, List.mem_map]
    exact ⟨fun ⟨p, hp, e⟩ => ⟨p, hp, of_decide_eq_true e⟩, fun ⟨p, hp, e⟩ => ⟨p, hp, decide_eq_true e⟩⟩
  unfold putK snocC
  rw [e]
  by_cases hc : c ∈ xs
  · rw [if_pos (decide_eq_true hc), if_pos hc, List.map_map, ← h]
    refine List.map_congr_left fun p _ => ?_
    show (if p.1 = keyC c then (p.1, v) else p).1 = p.1
    split <;> rfl
  · rw [if_neg (by simpa using hc), if_neg hc, List.map_append, List.map_append, h]
    rfl
theorem all2_keys {G : Hp} {c : Cl Nm} {vs : List V} (h : All2 G (c.map rLt) vs) : vs = (keyC c).map kV := by
  rw [map_rLt] at h
  rw [all2_strs h, List.map_map, List.map_map, List.map_map]
  rfl
/-- a dict whose keys are clauses, whatever stands under them -/
abbrev wKC (cs : List (Cl Nm)) : Wp := wK (cs.map fun c => c.map ltS)
abbrev rKC (cs : List (Cl Nm)) : Rp := rOf (wKC cs)
section
variable {X : Cx} {B : Base} {ρ : Sl} {M : List Cell} {kx vx iter : Expr} {R Rit : Rp} {pos : Pos} {y : Str} {py : Pos} {scope : Scope}
/-- {c: v for c in ..} -/
theorem ne_dcC (j : Nat) (nd : X.N.Nodup) (hu : X.A.units < cLine) (xs : List (Cl Nm)) (it : DE X B ρ M iter Rit) (hsv : SVp (memP M) Rit (xs.map rC)) (hz : xs.length < 100000)
    (hk : ∀ x ∈ xs, AllB X scope fun X' => DE X' B (ρ.set j (some (rC x))) M kx (rC x)) (hv : ∀ x ∈ xs, AllB X scope fun X' => DE X' B (ρ.set j (some (rC x))) M vx R) (ok : BlkOk X.N X.env.scope scope [(y, j)] := by exact blkOk_by (by kernel_rfl)) (hj : X.N[j]? = some y := by rfl)
    (hx : AllB X scope (fun X' => L2.Loc X'.env.scope y) := by first | exact fun _ _ _ _ _ => .inl rfl | exact fun _ _ _ _ _ => .inr rfl) (hf : AllB X scope (fun X' => X'.fn y = true ∨ X'.env.scope.names.lookup y = some .local) := by first | exact fun _ _ _ _ _ => .inl rfl | exact fun _ _ _ _ _ => .inr rfl)
    (hc : X.calm = true := by rfl) (hs : ∀ x, foldedSetIterable iter X.env x = pure x := by intro _; rfl) : NE X B ρ M (.DictComp kx vx [⟨.Name y py, iter, [], 0⟩] scope pos) (wKC (onceC xs)) := fun σ G H s Q q => by
  refine sem_e (pe_dcT (own := [(y, j)]) (g := gName j) (tk := blkE X scope kx) (tv := blkE X scope vx) hu hc nd (pi_seq pe_sem) ok (fun s H C cl fp => pg_name nd hj (hx s H C cl fp) (hf s H C cl fp)) (fun s H C cl fp => pe_blk s H C cl fp) (fun s H C cl fp => pe_blk s H C cl fp) hs) ?_
  refine it σ G H s _ fun u G1 H1 g1 r1 => ?_
  have s1 := s.grow g1
  obtain ⟨a, mk, ea, hmk, hvv⟩ := hsv G1 H1 u g1.sub s1.mem r1
  obtain ⟨vs1, ho1, hr1⟩ := hvv G1 H1 (Same.refl _) g1.sub s1.mem
  refine ⟨a, mk, vs1, ea, hmk, ho1, fun It w D hD => ?_⟩
  obtain ⟨gD, hGD⟩ := new_grow (o := .dT []) g1.sub hD
  refine ⟨fun i m H' => m = xs.length - i ∧ i ≤ xs.length ∧ ∃ G', Grow G1 H1 G' H' ∧ G' D = none ∧ ∃ kvs, H' D = some (.dT kvs) ∧ kvs.map (·.1) = (onceC (xs.take i)).map keyC, ⟨xs.length, by simp, Nat.zero_le _, G1, gD, hGD, [], upd_same, rfl⟩, ?_⟩
  rintro i m H' ⟨rfl, hi, G', g', hGD', kvs, hDv, hkeys⟩
  obtain ⟨us, ho, hr⟩ := hvv G' H' g'.gg g'.sub (s1.mem.grow g')
  have hul : us.length = xs.length := by rw [← hr.len, List.length_map]
  by_cases hlt : i < xs.length
  · refine .inr ⟨w.1 i H' us us[i] ho (by simp [hul, hlt]), fun H' => ∃ G', Grow G1 H1 G' H' ∧ G' D = none ∧ ∃ kvs, H' D = some (.dT kvs) ∧ kvs.map (·.1) = (onceC (xs.take (i + 1))).map keyC, fun H' p => ⟨xs.length - (i + 1), by omega, rfl, hlt, p⟩, fun v H2 yv => ?_⟩
    obtain ⟨e2, yv⟩ := w.2.2 i H' v H2 yv
    subst e2
    obtain ⟨r, hr1, hry⟩ := hr.get' (yv us ho)
    have hxi : xs[i]? = some xs[i] := List.getElem?_eq_getElem hlt
    rw [List.getElem?_map, hxi] at hr1
    have er : rC xs[i] = r := Option.some.inj hr1
    subst er
    have hxm : xs[i] ∈ xs := List.getElem_mem hlt
    have s2 : Stt B (ρ.set j (some (rC xs[i]))) M ((σ.set j none).set j (some v)) G' H2 := (s1.grow g').item j hry
    refine ⟨by show ((σ.set j none).set j (some v)).set j none = σ.set j none; rw [List.set_set, List.set_set], ?_⟩
    intro s0 H0 C cl fp
    refine hk _ hxm s0 H0 C cl fp _ G' H2 s2 _ fun kv G3 H3 g3 rk => ?_
    intro s0' H0' C' cl' fp'
    refine hv _ hxm s0' H0' C' cl' fp' _ G3 H3 (s2.grow g3) _ fun vv G4 H4 g4 rv => ?_
    obtain ⟨b, o, rfl, hb, ws, rfl, t⟩ := rk
    have ew := all2_keys t
    subst ew
    have hD4 : H4 D = some (.dT kvs) := g4.hh _ _ (g3.hh _ _ hDv)
    have n4 := no_D g4 (no_D g3 hGD' hDv) (g3.hh _ _ hDv)
    refine ⟨kvs, keyC xs[i], b, rfl, g4.sub _ _ (g4.gg _ _ hb), hD4, ?_, G4, grow_D (o := .dT []) (g'.trans (g3.trans g4)) n4 hD, n4, _, upd_same, ?_⟩
    · have h1 : kvs.length = (onceC (xs.take i)).length := by have := congrArg List.length hkeys; rwa [List.length_map, List.length_map] at this
      have := onceC_len (xs.take i)
      rw [List.length_take] at this
      exact small5' (by omega)
    · rw [putK_keys hkeys, ← onceC_snoc, show xs.take (i + 1) = xs.take i ++ [xs[i]] from by rw [List.take_add_one, hxi]; rfl]
  · have en : i = xs.length := by omega
    subst en
    refine .inl ⟨w.2.1 _ H' us ho (by omega), ?_⟩
    rw [List.take_length] at hkeys
    exact q D _ G' H' (g1.trans g') hGD' (g1.hh.free hD) hDv ⟨kvs, rfl, by rw [hkeys, List.map_map]; rfl⟩
end
end KL

/-! KTd -/
/-! tuple(d) with a dict d whose keys are tuples. -/
namespace KL
open PySem PySem.Spec PyProof.Rows L2 KM
theorem new_tuple_dict {prog : Program} {w : World} {d : Addr} {n : Nat} {P : Nat → Value → Prop} {OK : Heap → Prop} (Kd : PySem.W.KdlSrc prog w "dict" d d n P OK) (hn : n ≤ sizeLine) :
    MeetsIn prog w (Builtin.«tuple.__new__» ⟨[.type "tuple", .ref d], []⟩)
      (fun A R s => A.handled = none ∧ OK s.heap ∧ ∀ (h' : Heap) (tk : Nat) (acc : Array Value), (∀ b o, s.heap.get? b = some o → h'.get? b = some o) → ItemsOf P acc n → R (.ok (.ret (.ref h'.objs.size))) { s with heap := h'.push { cls := .type "tuple", data := .seq acc }, toks := tk }) :=
  .of_wp fun A R s h => by
    obtain ⟨hh, hok, h⟩ := h
    obtain ⟨o, ho, hc⟩ := Kd.type _ hok
    obtain ⟨hp, g, dr, tk, os⟩ := s
    have hsub := sub_tuple_self
    have hinit := init_tuple_lookup
    have hmh := madeHere_tuple
    have hT : Shared.TypeIs ⟨hp, g, dr, tk, os⟩ (.ref d) "dict" := ⟨o, ho, hc⟩
    wp_walk using AutoSeq1.wpAny_loadPart' ho, wpAny_typeOf hT, collect_dict (A := A.in1) Kd hh hok hn
    intro h' tk' acc hk hit
    show wpAny _ _ (Builtin.Tuple.tupleExact acc.toList.toArray >>= fun v => ret v) _ _ _
    unfold Builtin.Tuple.tupleExact
    have e : acc.toList.toArray = acc := by simp
    rw [e]
    refine wpAny_bind (wpAny_newObj_type ?_ (by show acc.size ≤ sizeLine; rw [hit.1]; exact hn))
    exact wpAny_pure ⟨_, rfl, h h' tk' acc hk hit⟩

theorem run_tuple_dict {prog : Program} {w : World} {A : Around} {E : Value → Shared → Prop} {s : Shared} {Q : Value → Shared → Prop} {d : Addr} {n : Nat} {P : Nat → Value → Prop} {OK : Heap → Prop} (Kd : PySem.W.KdlSrc prog w "dict" d d n P OK) (hh : A.handled = none) (hok : OK s.heap) (hn : n ≤ sizeLine)
    (h : ∀ (h' : Heap) (tk : Nat) (acc : Array Value), (∀ b o, s.heap.get? b = some o → h'.get? b = some o) → ItemsOf P acc n → Q (.ref h'.objs.size) { s with heap := h'.push { cls := .type "tuple", data := .seq acc }, toks := tk }) : wpAny (model prog w) A (call (.type "tuple") [.ref d]) Q E s :=
  callType_newIn F.called_tuple (by decide) (F.typeCall_tuple_1 _) (F.newCall_tuple_1 _) (fun obj => F.args_object_init_2 obj _) F.entry_tuple_new (new_tuple_dict Kd hn)
    ⟨hh, hok, fun h' tk acc hk hit => ⟨⟨_, Heap.get?_push_size _ rfl, rfl⟩, h h' tk acc hk hit⟩⟩
/-- tuple(d): d's keys in order -/
def rTupD : List V → Hp → VK → Prop := fun xs H Q => ∃ d kvs, xs = [V.ref d] ∧ H d = some (.dT kvs) ∧ ∀ p bs, H p = none → IsKeys H kvs bs → Q (.ref p) (upd H p (.tup (bs.map V.ref)))
theorem list_by {α β : Type} {f : α → β} {xs : List α} {ys : List β} (hl : ys.length = xs.length) (h : ∀ (j : Nat) (y : β), ys[j]? = some y → ∃ x : α, xs[j]? = some x ∧ y = f x) : ys = xs.map f := by
  refine List.ext_getElem? fun j => ?_
  rw [List.getElem?_map]
  cases e : ys[j]? with
  | some y =>
    obtain ⟨x, h1, h2⟩ := h j y e
    rw [h1, h2]; rfl
  | none =>
    have : xs.length ≤ j := hl ▸ List.getElem?_eq_none_iff.mp e
    rw [List.getElem?_eq_none this]; rfl
theorem cr_tupleD {X : Cx} (hc : X.calm = true := by rfl) : CallR X (.type "tuple") rTupD := by
  intro pins s σ H xs us Q I r h
  obtain ⟨d, kvs, rfl, hd, q⟩ := h
  obtain ⟨u, rfl, rx⟩ := vals1 r
  cases rx
  obtain ⟨z, hs, ks, pr, o, es, ep, ho, hx, hdt, he, hn⟩ := (show ObjOk X.prog X.w H s.heap d (.dT kvs) from I.hok d _ hd)
  have lks : es.size = ks.length := size_of_entries he
  have lkv : kvs.length = ks.length := Paired.length pr
  refine run_tuple_dict (kdl_raw hs hx hdt) (I.ok.hd hc) ho (by omega) fun h' tk acc kp it => ?_
  have ea : acc.toList = (ks.map fun x => x.2.1).map Value.ref := by
    rw [List.map_map]
    refine list_by (by rw [Array.length_toList, it.1]; exact lks) fun j v hj => ?_
    obtain ⟨en, hen, hv⟩ := it.2 j v (by rw [← Array.getElem?_toList]; exact hj)
    have qe := entry_at he j
    rw [hen] at qe
    cases hb : ks[j]? with
    | none => rw [hb] at qe; cases qe
    | some b =>
      rw [hb] at qe
      have e2 := Option.some.inj qe
      refine ⟨b, rfl, ?_⟩
      rw [hv, e2]; rfl
  have rv : Vals ((ks.map fun x => x.2.1).map V.ref) acc.toList := by rw [ea]; exact vals_refs _
  have hz : ((ks.map fun x => x.2.1).map V.ref).length ≤ sizeLine := by rw [List.length_map, List.length_map]; omega
  have I1 : Inv X pins σ H { s with heap := h' } := I.kept (t' := s.toks) kp
  have I2 : Inv X pins σ (upd H h'.objs.size (.tup ((ks.map fun x => x.2.1).map V.ref))) { s with heap := h'.push { cls := .type "tuple", data := .seq acc }, toks := tk } :=
    I1.laid (t' := tk) (fun b o e => Heap.get?_push_of_some _ e) (Nat.le_refl _) (show ObjOk X.prog X.w _ _ _ (.tup _) from ⟨hz, acc.toList, rv, by have := IsTup.new h' acc; simpa using this⟩)
  exact ⟨.ref h'.objs.size, _, I2, rfl, q _ _ (I1.hok.fresh (Nat.le_refl _)) (isKeys_of pr)⟩
/-- a dict whose keys are clauses: read -/
theorem pub_tup {G H : Hp} (s : Same G H) {b : Addr} {vs : List V} (h : H b = some (.tup vs)) : Grow G H (upd G b (.tup vs)) H := by
  have ss : Same G (upd G b (.tup vs)) := fun a o e => by
    by_cases c : a = b
    · subst c
      rw [upd_same, ← h, s a o e]
    · rw [upd_ne c]; exact e
  refine ⟨ss, fun a o e => ?_, Same.refl H, fun a o e => ?_⟩
  · by_cases c : a = b
    · subst c; rw [upd_same] at e; rw [← e]; exact h
    · rw [upd_ne c] at e; exact s a o e
  · by_cases c : a = b
    · subst c; rw [upd_same] at e; cases e; exact .inr (.inr rfl)
    · rw [upd_ne c] at e; exact .inl e
theorem keys_all2 {H : Hp} : ∀ {cs : List (Cl Nm)} {kvs : List (List Key × V)} {bs : List Addr} {G : Hp}, Same G H → kvs.map (·.1) = cs.map keyC → IsKeys H kvs bs → ∃ G', Grow G H G' H ∧ All2 G' (cs.map rC) (bs.map V.ref)
  | [], [], [], G, s, _, _ => ⟨G, Grow.refl s, .nil⟩
  | c :: cs, q :: kvs, b :: bs, G, s, e, .cons h t => by
    have e1 : q.1 = keyC c := (List.cons.inj e).1
    rw [e1] at h
    have g0 := pub_tup s h
    obtain ⟨G1, g1, a1⟩ := keys_all2 (cs := cs) (kvs := kvs) (bs := bs) g0.sub (List.cons.inj e).2 t
    refine ⟨G1, g0.trans g1, .cons ⟨b, _, rfl, g1.gg _ _ upd_same, _, rfl, ?_⟩ a1⟩
    rw [map_rLt]
    have e2 : (keyC c).map kV = (c.map ltS).map V.str := by rw [List.map_map, List.map_map, List.map_map]; rfl
    rw [e2]
    exact strs_all2 _
def KVw (M : List Cell) (R : Rp) (cs : List (Cl Nm)) : Prop := ∀ G H v, Same G H → Mem G H M → R.p G v → ∃ a kvs, v = .ref a ∧ H a = some (.dT kvs) ∧ kvs.map (·.1) = cs.map keyC
theorem kv_k {M : List Cell} {cs : List (Cl Nm)} : KVw M (rKC cs) cs := fun G H v s m ⟨a, o, e, h, kvs, eo, t⟩ => ⟨a, kvs, e, by rw [← eo]; exact s _ _ h, by rw [t, List.map_map]; rfl⟩
theorem clv_tupleD {M : List Cell} {R : Rp} {cs : List (Cl Nm)} (h : KVw M R cs) : Clv M [R] rTupD (rT (cs.map rC)) := fun xs G H s m hx Q q => by
  obtain ⟨v, rfl, hv⟩ := all2_1 hx
  obtain ⟨a, kvs, rfl, ha, hk⟩ := h G H v s m hv
  refine ⟨a, kvs, rfl, ha, fun p bs hp hb => ?_⟩
  obtain ⟨G1, g1, a1⟩ := keys_all2 s hk hb
  obtain ⟨g2, hg2⟩ := new_grow (o := .tup (bs.map V.ref)) g1.sub hp
  have g3 := pub_grow g2 hg2 hp upd_same
  exact q _ _ _ (g1.trans g3) ⟨p, _, rfl, upd_same, _, rfl, a1.mono g3.gg⟩
/-! ### in such a dict -/
theorem valV_mem {k : List Key} : ∀ kvs : List (List Key × V), (valV kvs k).isSome = true ↔ k ∈ kvs.map fun q : List Key × V => q.1
  | [] => ⟨fun h => (by cases h), fun h => (by cases h)⟩
  | q :: r => by
    have ih := valV_mem (k := k) r
    rw [List.map_cons, List.mem_cons]
    by_cases c : q.1 = k
    · rw [valV_pos c]
      exact ⟨fun _ => .inl c.symm, fun _ => rfl⟩
    · rw [valV_neg c, ih]
      exact ⟨.inr, fun h => h.resolve_left fun e => c e.symm⟩
theorem opv_inKC {M : List Cell} {R : Rp} {c : Cl Nm} {cs : List (Cl Nm)} (h : KVw M R cs) : Opv M (rC c) R rInDK (rB (decide (c ∈ cs))) := fun x y G H s m ⟨b, o, ex, hb, vs, eo, t⟩ hy Q q => by
  obtain ⟨a, kvs, ey, ha, hk⟩ := h G H y s m hy
  subst ex; subst ey; subst eo
  have ev := all2_keys t
  subst ev
  refine ⟨a, _, rfl, DGet.t ha (s _ _ hb), ?_⟩
  have e : (valV kvs (keyC c)).isSome = decide (c ∈ cs) := by
    rw [Bool.eq_iff_iff, valV_mem, hk, decide_eq_true_iff, List.mem_map]
    exact ⟨fun ⟨d, hd, e⟩ => keyC_inj e ▸ hd, fun hc => ⟨c, hc, rfl⟩⟩
  rw [e]
  exact q _ G H (Grow.refl s) rfl
end KL

/-! KCls -/
/-! Own classes: fields, methods, new instances, operators. -/
namespace KL
open PySem PySem.Spec PyProof.Rows L2 KM
structure ClsF (K : PySem.W.Frag) (C : Addr) : Prop where
  cl : Cls K C
  first : PySem.W.selfFirst K C = true
  ha : PySem.W.findIn K (.ref C) "__class__" = some (some (.builtin "object.__class__"))
  hn : PySem.W.specialIn K (.builtin "object.__class__") "__get__" = some (some (.builtin "getset_descriptor.__get__"))
  htk : PySem.W.takesIn K (.builtin "object.__class__") = some true
  hm : PySem.W.mroIn K C (.type "object") = some true
theorem lk_pos {k : Str} {q : Str × V} {r : List (Str × V)} (h : q.1 = k) : (q :: r).lookup k = some q.2 := by
  obtain ⟨a, b⟩ := q
  have h : a = k := h
  subst h
  show (match a == a with | true => some b | false => r.lookup a) = some b
  rw [beq_self_eq_true]
theorem lk_neg {k : Str} {q : Str × V} {r : List (Str × V)} (h : ¬ q.1 = k) : (q :: r).lookup k = r.lookup k := by
  obtain ⟨a, b⟩ := q
  show (match k == a with | true => some b | false => r.lookup k) = r.lookup k
  have : (k == a) = false := by rw [beq_eq_false_iff_ne]; exact fun e => h e.symm
  rw [this]
theorem fvs_val {G : Hp} {k : Str} : ∀ {es : Es} {fs : List (Str × V)}, FVs G es fs → (valE es k = none → fs.lookup k = none) ∧ ∀ r, valE es k = some r → ∃ v, fs.lookup k = some v ∧ r.p G v
  | [], _, .nil => ⟨fun _ => rfl, fun r h => by cases h⟩
  | e :: es, q :: fs, .cons h t => by
    have ih := fvs_val (k := k) t
    unfold valE
    by_cases c : e.1 = k
    · rw [if_pos c]
      refine ⟨fun h => (nomatch h), fun r hr => ?_⟩
      have hr : e.2 = r := Option.some.inj hr
      exact ⟨_, lk_pos (h.1.trans c), hr ▸ h.2⟩
    · rw [if_neg c, lk_neg (by rw [h.1]; exact c)]
      exact ih
theorem fvs_put {G : Hp} {k : Str} {r : Rp} {v : V} (hv : r.p G v) : ∀ {es : Es} {fs : List (Str × V)}, FVs G es fs → FVs G (putE es k r) (putF k v fs)
  | [], _, .nil => .cons ⟨rfl, hv⟩ .nil
  | e :: es, q :: fs, .cons h t => by
    have ih := fvs_put (k := k) hv t
    obtain ⟨a, b⟩ := q
    have h1 : a = e.1 := h.1
    show FVs G (if e.1 = k then (k, r) :: es else e :: putE es k r) (if a = k then (a, v) :: fs else (a, b) :: putF k v fs)
    by_cases c : e.1 = k
    · rw [if_pos c, if_pos (h1.trans c)]
      exact .cons ⟨h1.trans c, hv⟩ t
    · rw [if_neg c, if_neg (by rw [h1]; exact c)]
      exact .cons h ih
section
variable {X : Cx} {B : Base} {ρ : Sl} {M : List Cell} {e o a b ve : Expr} {R : Rp} {W : Wp} {pos ppos apos p : Pos} {C : Addr} {es es1 es2 : Es} {f m : Str} {r : Rp} {args : List Expr} {k : Nat} {ps : List Str} {c : Ct} {rest : List Stmt} {D : Ends}
/-! ### fields -/
theorem de_fld (cl : ClsF X.K C) (na : NoAttr X.K C f) (he : DE X B ρ M e (rO C es)) (hf : valE es f = some r) (hb : attributeBase e f X.env (eval e X.env) = eval e X.env := by rfl) : DE X B ρ M (.Attribute e f pos) r := fun σ G H s Q q =>
  sem_e (pe_fld pe_sem hb) (he σ G H s _ fun v G1 H1 g1 ⟨a, o, ea, ho, dx, fs, eo, t⟩ => by
    subst eo
    obtain ⟨u, hu, hr⟩ := (fvs_val t).2 r hf
    exact ⟨a, C, dx, fs, u, ea, g1.sub _ _ ho, cl.cl, na, hu, q u G1 H1 g1 hr⟩)
theorem de_fldC {x dx : Addr} (j : Nat) (cl : ClsF X.K C) (na : NoAttr X.K C f) (he : DE X B ρ M e (rV (.ref x))) (hj : M[j]? = some (cO x dx C es)) (hf : valE es f = some r) (hb : attributeBase e f X.env (eval e X.env) = eval e X.env := by rfl) : DE X B ρ M (.Attribute e f pos) r := fun σ G H s Q q =>
  sem_e (pe_fld pe_sem hb) (he σ G H s _ fun v G1 H1 g1 ev => by
    have ev : v = .ref x := ev
    obtain ⟨fs, hx, t, _⟩ := (s.mem.grow g1).ok _ (List.mem_of_getElem? hj)
    obtain ⟨u, hu, hr⟩ := (fvs_val t).2 r hf
    exact ⟨x, C, dx, fs, u, ev, hx, cl.cl, na, hu, q u G1 H1 g1 hr⟩)
/-- o.f = e, o in the making -/
theorem tr_fld {x dx : Addr} {α : Type} {P : α → Prop} {S : α → Rp} {M' : α → List Cell} (j : Nat) (cl : ClsF X.K C) (na : NoAttr X.K C f) (hv : XE X B ρ M ve P S M') (ho : ∀ z, P z → DE X B ρ (M' z) o (rV (.ref x))) (hj : ∀ z, P z → (M' z)[j]? = some (cO x dx C es)) (hw : (B.F x ∨ B.H x = none) ∧ (B.F dx ∨ B.H dx = none)) (hz : es.length < 1000)
    (kk : ∀ z, P z → Tr X B ρ ((M' z).set j (cO x dx C (putE es f (S z)))) rest D) (hs : swapsWith ve (some (.Attribute o f ppos)) pos.line X.env = pure false := by rfl) : Tr X B ρ M (.Assign [.Attribute o f ppos] ve pos :: rest) D :=
  tr_sem fun σ G H s => sem_s (ps_fld pe_sem pe_sem hs) (hv σ G H s _ fun z v G1 H1 hp sg s1 r1 => ho z hp σ G1 H1 s1 _ fun u G2 H2 g2 r2 => by
    have s2 := s1.grow g2
    have r2 : u = .ref x := r2
    subst r2
    obtain ⟨fs, hx, t, hd, hne⟩ := s2.mem.ok _ (List.mem_of_getElem? (hj z hp))
    refine ⟨x, C, dx, fs, rfl, hx, cl.cl, na, by rw [← Paired.length t]; exact hz, ?_⟩
    refine kk z hp _ G2 _ (s2.upd (c' := cO x dx C (putE es f (S z))) (hj z hp) (fun y hy => ?_) rfl (fun y hy => upd_ne fun e => hy (by rw [e]; exact List.mem_cons_self)) (fun y hy => ?_) ⟨_, upd_same, fvs_put ((S z).mono g2.gg r1) t, by rw [upd_ne hne]; exact hd, hne⟩)
    · have e : y = x ∨ y = dx := by simpa [cO] using hy
      rcases e with e | e
      · rw [e]; exact hw.1
      · rw [e]; exact hw.2
    · by_cases e : y = x
      · rw [e, upd_same]; exact fun z => nomatch z
      · have e2 : y = x ∨ y = dx := by simpa [cO] using hy
        rw [upd_ne e, e2.resolve_left e, hd]; exact fun z => nomatch z)
/-! ### methods -/
structure Md (P : Program) (w : World) (K : PySem.W.Frag) (mg : Str → Option Value) (base : Heap) (C : Addr) (m : Str) (k : Nat) (ps : List Str) (c : Ct) : Prop where
  ex : ∃ (f : Addr) (fd : FuncData), FnOk P w K mg base CX0 k f fd ps c.sp ∧ Meth K C m f ∧ Binds K fd ps []
theorem Md.mono {P : Program} {w : World} {K : PySem.W.Frag} {mg : Str → Option Value} {base : Heap} {j : Nat} (F : Md P w K mg base C m j ps c) (h : j ≤ k) : Md P w K mg base C m k ps c := let ⟨f, fd, a, b, d⟩ := F.ex; ⟨f, fd, a.mono h, b, d⟩
theorem de_meth0 {pl : Sem Bool} (cl : ClsF X.K C) (F : Md X.prog X.w X.K X.mg X.base C m k ps c) (hr : Room k X.A) (g : c.γ) (hg : c.args g = [rO C es]) (he : DE X B ρ M o (rO C es)) (hm : valE es m = none) (hp : c.pre g) (hR : ∀ z G v, c.post g z → (c.res g z).p G v → R.p G v) (hW : ∀ a, ¬ c.W g a := by intro _ h; exact h) (hM : ∀ G H, Mem G H M → Mem G H (c.mem g) := by exact fun _ _ _ => Mem.nil)
    (ht : eval (.Call (.Attribute o m apos) [] [] pos) X.env = (do
      let ov ← eval o X.env
      standAt apos.atName
      let (f, first) ← holding [ov] (getMethod ov m pl)
      callWith pos f first (backTo pos (starEach [] X.env)) (backToKw pos (keywordEach [] X.env))) := by rfl) : DE X B ρ M (.Call (.Attribute o m apos) [] [] pos) R := fun σ G H s Q q => by
  obtain ⟨f, fd, F, hmt, hb⟩ := F.ex
  refine sem_e (pe_meth0 (E := E0) pe_sem cl.cl hmt F hr hb .nil pass0 ht) (he σ G H s _ fun v G1 H1 g1 r1 => ?_)
  obtain ⟨a, o, ea, ho, dx, fs, eo, t⟩ := id r1
  subst eo
  refine ⟨a, dx, fs, ea, g1.sub _ _ ho, (fvs_val t).1 hm, ?_⟩
  refine ⟨g, G1, g1.sub, by rw [hg]; exact .cons r1 .nil, hM G1 H1 (s.mem.grow g1), hp, fun z v G' H' hz mv _ r => q v G' H' (g1.trans ⟨mv.gg, mv.sub, fun a o h => mv.keep a o (hW a) h, mv.new⟩) (hR z G' v hz r)⟩
theorem de_meth {pl : Sem Bool} {Rs : List Rp} (cl : ClsF X.K C) (F : Md X.prog X.w X.K X.mg X.base C m k ps c) (hr : Room k X.A) (g : c.γ) (hg : c.args g = rO C es :: Rs) (he : DE X B ρ M o (rO C es)) (ha : DA X B ρ M (e :: args) Rs) (hm : valE es m = none) (hp : c.pre g) (hR : ∀ z G v, c.post g z → (c.res g z).p G v → R.p G v) (hW : ∀ a, ¬ c.W g a := by intro _ h; exact h) (hM : ∀ G H, Mem G H M → Mem G H (c.mem g) := by exact fun _ _ _ => Mem.nil)
    (hst : starEach (e :: args) X.env = (false, eval e X.env) :: starEach args X.env := by rfl) (hpl : (backTo pos (starEach args X.env)).any (·.1) = false := by rfl)
    (ht : eval (.Call (.Attribute o m apos) (e :: args) [] pos) X.env = (do
      let ov ← eval o X.env
      standAt apos.atName
      let (f, first) ← holding [ov] (getMethod ov m pl)
      callWith pos f first (backTo pos (starEach (e :: args) X.env)) (backToKw pos (keywordEach [] X.env))) := by rfl) : DE X B ρ M (.Call (.Attribute o m apos) (e :: args) [] pos) R := fun σ G H s Q q => by
  obtain ⟨f, fd, F, hmt, hb⟩ := F.ex
  refine sem_e (pe_meth (E := E0) pe_sem cl.cl hmt F hr hb .nil pass0 pa_sem hst hpl ht) (he σ G H s _ fun v G1 H1 g1 r1 => ?_)
  obtain ⟨a, o, ea, ho, dx, fs, eo, t⟩ := id r1
  subst eo
  refine ⟨a, dx, fs, ea, g1.sub _ _ ho, (fvs_val t).1 hm, ha σ G1 H1 (s.grow g1) _ fun vs G2 H2 g2 r2 => ?_⟩
  rw [List.append_nil]
  refine ⟨g, G2, g2.sub, by rw [hg]; exact .cons ((rO C es).mono g2.gg r1) r2, hM G2 H2 ((s.mem.grow g1).grow g2), hp, fun z v G' H' hz mv _ r => q v G' H' ((g1.trans g2).trans ⟨mv.gg, mv.sub, fun a o h => mv.keep a o (hW a) h, mv.new⟩) (hR z G' v hz r)⟩
theorem xe_meth {pl : Sem Bool} {Rs : List Rp} {g : c.γ} (cl : ClsF X.K C) (F : Md X.prog X.w X.K X.mg X.base C m k ps c) (hr : Room k X.A) (hg : c.args g = rO C es :: Rs) (he : DE X B ρ M o (rO C es)) (ha : DA X B ρ M (e :: args) Rs) (hm : valE es m = none) (hp : c.pre g) (hW : ∀ a, ¬ c.W g a := by intro _ h; exact h) (hM : ∀ G H, Mem G H M → Mem G H (c.mem g) := by exact fun _ _ _ => Mem.nil)
    (hst : starEach (e :: args) X.env = (false, eval e X.env) :: starEach args X.env := by rfl) (hpl : (backTo pos (starEach args X.env)).any (·.1) = false := by rfl)
    (ht : eval (.Call (.Attribute o m apos) (e :: args) [] pos) X.env = (do
      let ov ← eval o X.env
      standAt apos.atName
      let (f, first) ← holding [ov] (getMethod ov m pl)
      callWith pos f first (backTo pos (starEach (e :: args) X.env)) (backToKw pos (keywordEach [] X.env))) := by rfl) : XE X B ρ M (.Call (.Attribute o m apos) (e :: args) [] pos) (c.post g) (c.res g) (fun _ => M) := fun σ G H s Q q => by
  obtain ⟨f, fd, F, hmt, hb⟩ := F.ex
  refine sem_e (pe_meth (E := E0) pe_sem cl.cl hmt F hr hb .nil pass0 pa_sem hst hpl ht) (he σ G H s _ fun v G1 H1 g1 r1 => ?_)
  obtain ⟨a, o, ea, ho, dx, fs, eo, t⟩ := id r1
  subst eo
  refine ⟨a, dx, fs, ea, g1.sub _ _ ho, (fvs_val t).1 hm, ha σ G1 H1 (s.grow g1) _ fun vs G2 H2 g2 r2 => ?_⟩
  rw [List.append_nil]
  have s2 := (s.grow g1).grow g2
  refine ⟨g, G2, g2.sub, by rw [hg]; exact .cons ((rO C es).mono g2.gg r1) r2, hM G2 H2 s2.mem, hp, fun z v G' H' hz mv _ r => ?_⟩
  have g3 : Grow G2 H2 G' H' := ⟨mv.gg, mv.sub, fun a o h => mv.keep a o (hW a) h, mv.new⟩
  exact q z v G' H' hz ((g1.gg.trans g2.gg).trans g3.gg) (s2.grow g3) r
/-! ### new instances -/
/-- __init__: (the caller's ghost, the instance, its dict) -/
abbrev c_init {γ : Type} (C : Addr) (args : γ → List Rp) (pre : γ → Prop) (flds : γ → Es) : Ct :=
  ⟨γ × Addr × Addr, Unit, fun g => rV (.ref g.2.1) :: args g.1, fun g => [cO g.2.1 g.2.2 C []], fun g a => a = g.2.1 ∨ a = g.2.2, fun g => pre g.1, fun _ _ => True, fun _ _ => rN, fun g _ => [cO g.2.1 g.2.2 C (flds g.1)]⟩
structure Mn (P : Program) (w : World) (K : PySem.W.Frag) (mg : Str → Option Value) (base : Heap) (x : Str) (k : Nat) (ps : List Str) (C : Addr) {γ : Type} (ag : γ → List Rp) (pre : γ → Prop) (flds : γ → Es) : Prop where
  ex : ∃ (f : Addr) (fd : FuncData), FnOk P w K mg base CX0 k f fd ps (c_init C ag pre flds).sp ∧ L2.Mk K C f ∧ Binds K fd ps []
  glo : mg x = some (.ref C)
theorem Mn.mono {P : Program} {w : World} {K : PySem.W.Frag} {mg : Str → Option Value} {base : Heap} {j : Nat} {x : Str} {γ : Type} {ag : γ → List Rp} {pre : γ → Prop} {flds : γ → Es} (F : Mn P w K mg base x j ps C ag pre flds) (h : j ≤ k) : Mn P w K mg base x k ps C ag pre flds := let ⟨f, fd, a, b, d⟩ := F.ex; ⟨⟨f, fd, a.mono h, b, d⟩, F.glo⟩
theorem ne_make {x : Str} {γ : Type} {ag : γ → List Rp} {pre : γ → Prop} {flds : γ → Es} (F : Mn X.prog X.w X.K X.mg X.base x k ps C ag pre flds) (hr : Room (k + 1) X.A) (g : γ) (ha : DA X B ρ M (e :: args) (ag g)) (hp : pre g)
    (hg : Gl X x := by rfl) (hdb : (x == ("__debug__" : Str)) = false := by decide) (he : starEach (e :: args) X.env = (false, eval e X.env) :: starEach args X.env := by rfl) (hpl : (backTo pos (starEach args X.env)).any (·.1) = false := by rfl) :
    DE X B ρ M (.Call (.Name x p) (e :: args) [] pos) (rO C (flds g)) := fun σ G H s Q q => by
  obtain ⟨f, fd, F1, mk, hb⟩ := F.ex
  refine sem_e (pe_make (E := E0) mk F1 hr hg F.glo hb .nil pass0 pa_sem hdb he hpl) (ha σ G H s _ fun vs G1 H1 g1 r1 => ?_)
  intro x dx hx hdx hne
  rw [List.append_nil]
  have gx : G1 x = none := g1.sub.free hx
  have gd : G1 dx = none := g1.sub.free hdx
  have hh : Same H1 (upd (upd H1 dx (.own x)) x (.ins C dx [])) := fun y o e => by
    rw [upd_ne (ne_of_none e hx), upd_ne (ne_of_none e hdx)]; exact e
  have hdx' : upd (upd H1 dx (.own x)) x (.ins C dx []) dx = some (.own x) := by rw [upd_ne hne, upd_same]
  refine ⟨(g, x, dx), G1, g1.sub.trans hh, .cons rfl r1, ⟨fun c hc => ?_, fun c hc y hy => ?_, fun c hc y hy => ?_, List.pairwise_singleton _ _⟩, hp, fun _ v G' H' _ mv mm r => ⟨r, ?_⟩⟩
  · have e : c = cO x dx C [] := by simpa using hc
    subst e
    exact ⟨[], upd_same, .nil, hdx', hne⟩
  · have e : c = cO x dx C [] := by simpa using hc
    subst e
    have e : y = x ∨ y = dx := by simpa [cO] using hy
    rcases e with e | e
    · rw [e]; exact gx
    · rw [e]; exact gd
  · have e : c = cO x dx C [] := by simpa using hc
    subst e
    have e : y = x ∨ y = dx := by simpa [cO] using hy
    rcases e with e | e
    · rw [e, upd_same]; exact fun z => nomatch z
    · rw [e, hdx']; exact fun z => nomatch z
  · obtain ⟨fs, hx', t, _⟩ := mm.ok _ List.mem_cons_self
    have gx' : G' x = none := mm.out _ List.mem_cons_self x (by simp [cO])
    have g2 : Grow G1 H1 G' H' := ⟨mv.gg, mv.sub, fun y o e => mv.keep y o (fun h => by
      rcases h with h | h
      · have h : y = x := h
        rw [h, hx] at e; cases e
      · have h : y = dx := h
        rw [h, hdx] at e; cases e) (hh y o e), fun y o e => by
      rcases mv.new y o e with z | z | z
      · exact .inl z
      · exact .inr (.inl (hh.free z))
      · exact .inr (.inr z)⟩
    have g3 := pub_grow (g1.trans g2) gx' (g1.hh.free hx) hx'
    have ss : Same G' (upd G' x (.ins C dx fs)) := fun y o e => by rw [upd_ne (ne_of_none e gx')]; exact e
    exact q _ _ _ g3 ⟨x, _, rfl, upd_same, dx, fs, rfl, t.mono ss⟩
/-! ### an operator of an own class -/
def rOwn (C : Addr) (sp : Sp) : L2.R2 := fun x y H Q => ∃ a dx fs b dy gs, x = .ref a ∧ y = .ref b ∧ H a = some (.ins C dx fs) ∧ H b = some (.ins C dy gs) ∧ sp [x, y] H (fun v H' => (∃ p, v = .ref p) ∧ Q v H') E0
theorem op_own {op : Operator} {f : Addr} {fd : FuncData} {sp : Sp} (cl : ClsF X.K C) (hs : Meth X.K C (PySem.dunder op.info.2) f) (F : FnOk X.prog X.w X.K X.mg X.base CX0 k f fd ps sp) (hr : Room k X.A) (hb : Binds X.K fd ps []) : OpR X (binaryOp op) (rOwn C sp) := by
  intro pins s σ H x y v u Q I rx ry h
  obtain ⟨a, dx, fs, b, dy, gs, rfl, rfl, ha, hb', h⟩ := h
  cases (show v = Value.ref a from rx)
  cases (show u = Value.ref b from ry)
  obtain ⟨mA, O, _⟩ := ins_get I.hok ha
  obtain ⟨od, J, _⟩ := O.look
  obtain ⟨mB, O2, _⟩ := ins_get I.hok hb'
  obtain ⟨od2, J2, _⟩ := O2.look
  obtain ⟨m, fr⟩ := I.fr
  refine PySem.W.binop_K fr I.mod.kin J J2.type cl.first hs.at_ hs.fn ?_
  refine wpAny_mono (run_fn (us := [.ref a, .ref b]) (vs := [.ref a, .ref b]) (dvs := []) (ds := []) F hr hb .nil pass0 I (.cons rfl (.cons rfl .nil)) h) (fun v s' hv => ?_) fun _ _ e => e
  obtain ⟨w, H', I', r, ⟨p, rfl⟩, q⟩ := hv
  cases r
  exact ⟨.ref p, H', I', rfl, q⟩
theorem de_addOwn (cl : ClsF X.K C) (F : Md X.prog X.w X.K X.mg X.base C "__add__" k ps c) (hr : Room k X.A) (g : c.γ) (hg : c.args g = [rO C es1, rO C es2]) (ha : DE X B ρ M a (rO C es1)) (hb : DE X B ρ M b (rO C es2)) (hp : c.pre g) (hR : ∀ z G v, c.post g z → (c.res g z).p G v → (rOf W).p G v) (hW : ∀ a, ¬ c.W g a := by intro _ h; exact h) (hM : ∀ G H, Mem G H M → Mem G H (c.mem g) := by exact fun _ _ _ => Mem.nil) : DE X B ρ M (.BinOp a .Add b pos) (rOf W) := by
  obtain ⟨f, fd, F, hmt, hbd⟩ := F.ex
  refine de_op (op_own (op := .Add) cl hmt F hr hbd) ha hb fun x y G H s m hx hy Q q => ?_
  obtain ⟨a1, o1, e1, h1, d1, f1, u1, t1⟩ := id hx
  obtain ⟨a2, o2, e2, h2, d2, f2, u2, t2⟩ := id hy
  subst e1; subst e2; subst u1; subst u2
  refine ⟨a1, d1, f1, a2, d2, f2, rfl, rfl, s _ _ h1, s _ _ h2, g, G, s, by rw [hg]; exact .cons hx (.cons hy .nil), hM G H m, hp, fun z v G' H' hz mv _ r => ?_⟩
  have r2 := hR z G' v hz r
  obtain ⟨p, _, ep, _⟩ := id r2
  exact ⟨⟨p, ep⟩, q v G' H' ⟨mv.gg, mv.sub, fun a o h => mv.keep a o (hW a) h, mv.new⟩ r2⟩
/-! ### isinstance of an own class -/
theorem clv_isC (cl : ClsF X.K C) : Clv M [rO C es, rV (.ref C)] (rIsi X.K) (rB true) := fun xs G H s m hx Q q => by
  obtain ⟨v, u, rfl, hv, hu⟩ := all2_2 hx
  have hu : u = .ref C := hu
  subst hu
  obtain ⟨a, o, rfl, ho, dx, fs, rfl, t⟩ := hv
  refine ⟨_, _, .ref C, .ref C, true, rfl, .own C, .base (.ins (s _ _ ho) cl.cl cl.ha cl.hn cl.htk cl.hm), ?_, q _ G H (Grow.refl s) rfl⟩
  unfold PySem.W.kitOne
  exact if_pos (beq_self_eq_true _)
end
end KL

/-! KRule -/
namespace KL
open PySem PySem.Spec PyProof.Rows L2 KM
section
variable {P : Program} {w : World} {K : PySem.W.Frag} {mg : Str → Option Value} {base : Heap}
def MethAt (K : PySem.W.Frag) (C : Addr) (m qual : Str) (st : Stmt) : Prop := ∃ (f : Addr) (fd : FuncData), FunD K m qual (defArgs st) (defBody st) (defScope st) [] [] f fd ∧ Meth K C m f
def InitAt (K : PySem.W.Frag) (C : Addr) (qual : Str) (st : Stmt) (dvs : List V) : Prop := ∃ (f : Addr) (fd : FuncData), FunD K "__init__" qual (defArgs st) (defBody st) (defScope st) dvs [] f fd ∧ L2.Mk K C f
theorem md_mk {c : Ct} {C : Addr} {m qual : Str} {st : Stmt} {N ps : List Str} {k : Nat} (F : MethAt K C m qual st) (S : FnScope N ps (defScope st)) (hlen : ∀ g, (c.args g).length = ps.length)
    (hb : ∀ (kV doc pm : Value) (an : Option Addr) (cdv ct : Value) (us : List Value), us.length = ps.length → bindArgs (PySem.W.fnOf m qual (defArgs st) (defBody st) (defScope st) .none kV doc pm an cdv ct) ⟨us, []⟩ = pure (ps.zip us))
    (body : ∀ (f : Addr) (cdv : Value) (A : Around) (outer : List Env) (s : Shared) (H : Hp) (E : XK) (B : Base) (D : Ends) (g : c.γ), Room k (A.deeper (envOfC qual (defScope st) s.heap.objs.size f cdv)) → c.pre g → B.F = c.W g → (B.P = fun _ => True) → Fin c g B D →
      Tr (KX P w K mg base N qual (defScope st) f cdv (A := A) outer s H E) B (sl0 N (c.args g)) (c.mem g) (defBody st) D) : Md P w K mg base C m (k + 1) ps c := by
  obtain ⟨f, fd, F, hm⟩ := F
  exact ⟨f, fd, fn_tr F S hlen fun cdv A outer s H E hr g pre B D hF hP hD => body f cdv A outer s H E B D g hr pre hF hP hD, hm, F.bindsN hb⟩
theorem mn_mk {γ : Type} {ag : γ → List Rp} {pre : γ → Prop} {flds : γ → Es} {C : Addr} {x qual : Str} {st : Stmt} {N ps : List Str} {k : Nat} {dvs : List V} (F : InitAt K C qual st dvs) (hg : mg x = some (.ref C)) (S : FnScope N ps (defScope st)) (hlen : ∀ g : γ × Addr × Addr, ((c_init C ag pre flds).args g).length = ps.length)
    (hb : ∀ (f : Addr) (fd : FuncData), FunD K "__init__" qual (defArgs st) (defBody st) (defScope st) dvs [] f fd → Binds K fd ps [])
    (body : ∀ (f : Addr) (cdv : Value) (A : Around) (outer : List Env) (s : Shared) (H : Hp) (E : XK) (B : Base) (D : Ends) (g : γ × Addr × Addr), Room k (A.deeper (envOfC qual (defScope st) s.heap.objs.size f cdv)) → pre g.1 → (B.F = fun a => a = g.2.1 ∨ a = g.2.2) → (B.P = fun _ => True) → Fin (c_init C ag pre flds) g B D →
      Tr (KX P w K mg base N qual (defScope st) f cdv (A := A) outer s H E) B (sl0 N (rV (.ref g.2.1) :: ag g.1)) [cO g.2.1 g.2.2 C []] (defBody st) D) : Mn P w K mg base x (k + 1) ps C ag pre flds := by
  obtain ⟨f, fd, F, hm⟩ := F
  exact ⟨⟨f, fd, fn_tr F S hlen fun cdv A outer s H E hr g pre B D hF hP hD => body f cdv A outer s H E B D g hr pre hF hP hD, hm, hb f fd F⟩, hg⟩
/-! ### rules -/
abbrev ruE (S : List Nm) (T : List (Cl Nm)) : Es := [("names", rT (S.map rNm)), ("allowed", rKC T)]
structure RuP (g : List Nm × List (Cl Nm)) : Prop where
  nod : g.1.Nodup
  n6 : g.1.length ≤ 6
  full : ∀ c ∈ g.2, c.map (·.nm) = g.1
  z : g.2.length ≤ 10000
abbrev agRule (g : List Nm × List (Cl Nm)) : List Rp := [rT (g.1.map rNm), rL (g.2.map rC)]
abbrev flRule (g : List Nm × List (Cl Nm)) : Es := ruE g.1 (onceC g.2)
structure RuF (K : PySem.W.Frag) (C : Addr) : Prop where
  cl : ClsF K C
  names : NoAttr K C "names"
  allowed : NoAttr K C "allowed"
theorem leT {M : List Cell} {i j : Nat} (h : i ≤ j) : Opv M (rI (i : Nat)) (rI (j : Nat)) (rI0 fun i j => .bl (decide (j < i))) (rB false) := fun x y G H s m hx hy Q q => ⟨i, j, hx, hy, q _ G H (Grow.refl s) (congrArg V.bl (decide_eq_false (by omega)))⟩
abbrev Most6 (mg : Str → Option Value) : Prop := ∃ u, mg "MOST_SIGNS" = some u ∧ RelV (.int 6) u
theorem mn_rule (bi : BI mg) (h6 : Most6 mg) {C : Addr} (cf : RuF K C) (hg : mg "Rule" = some (.ref C)) (F : InitAt K C "Rule.__init__" s_Rule_init []) (Fn : Dn P w K mg base "checked_names" 2 p_checked_names c_checkedNames) (Fs : Dn P w K mg base "checked_settings" 4 p_checked_settings c_checkedSettings) : Mn P w K mg base "Rule" 5 p_Rule_init C agRule RuP flRule := by
  refine mn_mk F hg sc_Rule_init (fun _ => rfl) (fun f fd F => F.bindsN fun _ _ _ _ _ _ us hl => match us, hl with | [_, _, _], _ => rfl) fun f cdv A outer s H E B D (g : (List Nm × List (Cl Nm)) × Addr × Addr) hr hz hF hP hD => ?_
  obtain ⟨⟨S, xs⟩, x, dx⟩ := g
  have hz : RuP (S, xs) := hz
  have hn : S.Nodup := hz.nod
  have h6' : S.length ≤ 6 := hz.n6
  have hfu : ∀ c ∈ xs, c.map (·.nm) = S := hz.full
  have hxz : xs.length ≤ 10000 := hz.z
  obtain ⟨u, hu, ru⟩ := h6
  have Fn := Fn.mono (show 2 ≤ 4 by decide)
  have hw : (B.F x ∨ B.H x = none) ∧ (B.F dx ∨ B.H dx = none) := ⟨.inl (by rw [hF]; exact .inl rfl), .inl (by rw [hF]; exact .inr rfl)⟩
  show Tr _ B [some (rV (.ref x)), some (rT (S.map rNm)), some (rL (xs.map rC)), none] [cO x dx C []] _ D
  refine tr_fld (C := C) (es := []) (S := fun _ => rT (S.map rNm)) 0 cf.cl cf.names (DE.xe (de_call (R := rT (S.map rNm)) Fn hr (CnG.mk (rT (S.map rNm)) S []) (da_cons (de_var 1) (da_cons (NE.de (ne_tup (Rs := []) da_nil (Nat.zero_le _))) da_nil)) ⟨fun _ => sv_t, hn, fun n _ h => (nomatch h), by show S.length ≤ 10000; omega⟩ fun _ _ _ _ r => r)) (fun _ _ => de_var 0) (fun _ _ => rfl) hw (Nat.lt_of_le_of_lt (show _ ≤ 1 from Nat.le_of_ble_eq_true rfl) (by decide)) fun _ _ => ?_
  show Tr _ B _ [cO x dx C [("names", rT (S.map rNm))]] _ D
  refine tr_if (b := false) (dt_cmp op_gt (de_callB cr_len bi.len (by decide +kernel) (da_cons (de_fldC 0 cf.cl cf.names (de_var 0) rfl rfl) da_nil) (clv_len sv_t)) (de_glob hu ru) (leT (j := 6) (by rw [List.length_map]; exact h6'))) (fun h => by cases h) fun _ => tr_go ?_
  refine tr_fld (C := C) (es := [("names", rT (S.map rNm))]) (S := fun _ => rKC (onceC xs)) 0 cf.cl cf.allowed (DE.xe (NE.de (ne_dcC (R := rB true) 3 sc_Rule_init.nd (Nat.lt_of_le_of_lt (Nat.le_add_right _ 64) hr.units) xs (de_call (R := rL (xs.map rC)) Fs hr (CsG.mk (rL (xs.map rC)) xs S) (da_cons (de_var 2) (da_cons (de_fldC 0 cf.cl cf.names (de_var 0) rfl rfl) da_nil)) ⟨fun _ => sv_l, hfu, hn, by show xs.length ≤ 50000; omega, by show S.length ≤ 10000; omega⟩ fun _ _ _ _ r => r) sv_l (by omega) (fun c hc _ _ _ _ _ => de_var 3) fun c hc _ _ _ _ _ => de_bl))) (fun _ _ => de_var 0) (fun _ _ => rfl) hw (Nat.lt_of_le_of_lt (show _ ≤ 1 from Nat.le_of_ble_eq_true rfl) (by decide)) fun _ _ => ?_
  show Tr _ B _ [cO x dx C (ruE S (onceC xs))] _ D
  exact tr_nil fun σ G H st => hD.nx () _ _ σ G H trivial st st.mem rfl
abbrev c_settings (C : Addr) : Ct := .fn (γ := List Nm × List (Cl Nm)) (fun g => [rO C (ruE g.1 g.2)]) (fun g => g.1.length ≤ 6) fun g => rCs ((fulls g.1).filter fun c => decide (c ∈ g.2))
theorem md_settings (bi : BI mg) {C : Addr} (cf : RuF K C) (F : MethAt K C "settings" "Rule.settings" s_Rule_settings) (Ff : Dn P w K mg base "full_settings" 1 p_full_settings c_fulls) : Md P w K mg base C "settings" 2 p_Rule_settings (c_settings C) := by
  refine md_mk F sc_Rule_settings (fun _ => rfl) (fun _ _ _ _ _ _ us hl => match us, hl with | [_], _ => rfl) fun f cdv A outer s H E B D (g : List Nm × List (Cl Nm)) hr hz hF hP hD => ?_
  obtain ⟨S, T⟩ := g
  have h6 : S.length ≤ 6 := hz
  have hfl : (fulls S).length ≤ 100000 := by
    rw [fulls_len]
    exact Nat.le_trans (Nat.pow_le_pow_right (by decide) h6) (by decide)
  show Tr _ B [some (rO C (ruE S T)), none] [] _ D
  exact tr_ret (R := rCs ((fulls S).filter fun c => decide (c ∈ T))) (NE.de (ne_lcIf (α := Cl Nm) 1 sc_Rule_settings.nd (fulls S) rC rC (fun c => decide (c ∈ T)) (de_call (R := rCs (fulls S)) Ff hr (rT (S.map rNm), S) (da_cons (de_fld cf.cl cf.names (de_var 0) rfl) da_nil) ⟨fun _ => sv_t, by show S.length ≤ 8; omega⟩ fun _ _ _ _ r => r) sv_l hfl (fun c hc _ _ _ _ _ => dt_cmp (op_inDK (hu_of hr)) (de_var 1) (de_fld cf.cl cf.allowed (de_var 0) rfl) (opv_inKC kv_k)) fun c hc hb _ _ _ _ _ => de_var 1)) fun v σ G H st r => hD.rt () v _ _ σ G H trivial st .nil r
end
end KL

/-! KCode -/
namespace KL
open PySem PySem.Spec PyProof.Rows L2 KM
section
variable {P : Program} {w : World} {K : PySem.W.Frag} {mg : Str → Option Value} {base : Heap}
/-! ### codes -/
abbrev coE (c : Cd) : Es := [("sign_row", rT (c.signs.map rNm)), ("helper_row", rT (c.helpers.map rNm)), ("names", rT ((c.signs ++ c.helpers).map rNm)), ("clause_row", rT (c.clauses.map rC))]
def coM (c : Cd) : Cd := ⟨c.signs, c.helpers, onceC (c.clauses.map fun d => upM d (c.signs ++ c.helpers))⟩
structure CoF (K : PySem.W.Frag) (C : Addr) : Prop where
  cl : ClsF K C
  sr : NoAttr K C "sign_row"
  hr : NoAttr K C "helper_row"
  nm : NoAttr K C "names"
  cr : NoAttr K C "clause_row"
structure CiG where
  Rs : Rp
  Rc : Rp
  Rh : Rp
  rf : Cl Nm → Rp
  c : Cd
structure CiP (g : CiG) : Prop where
  svs : ∀ MP, SVp MP g.Rs (g.c.signs.map rNm)
  svh : ∀ MP, SVp MP g.Rh (g.c.helpers.map rNm)
  svc : ∀ MP, SVp MP g.Rc (g.c.clauses.map g.rf)
  svd : ∀ d ∈ g.c.clauses, ∀ MP, SVp MP (g.rf d) (d.map rLt)
  ok : CdOk g.c
  s : g.c.signs.length ≤ 500
  h : g.c.helpers.length ≤ 500
  z : g.c.clauses.length ≤ 50000
abbrev agCode (g : CiG) : List Rp := [g.Rs, g.Rc, g.Rh]
abbrev flCode (g : CiG) : Es := coE (coM g.c)
theorem mn_code (bi : BI mg) {C : Addr} (cf : CoF K C) {dv : V} (hg : mg "Code" = some (.ref C)) (F : InitAt K C "Code.__init__" s_Code_init [dv]) (Fn : Dn P w K mg base "checked_names" 2 p_checked_names c_checkedNames) (Fc : Dn P w K mg base "checked_clauses" 4 p_checked_clauses c_checkedClauses) : Mn P w K mg base "Code" 5 p_Code_init C agCode CiP flCode := by
  refine mn_mk F hg sc_Code_init (fun _ => rfl) (fun f fd F => ?_) fun f cdv A outer s H E B D (g : CiG × Addr × Addr) hr hz hF hP hD => ?_
  · obtain ⟨ds, hv, hb⟩ := F.binds1 (ps := p_Code_init) 4 1 (List.cons_ne_nil _ _) rfl fun T kV doc pm an cdv ct us its hu hi => match us, its, hu, hi with | [_, _, _, _], [_], _, _ => ⟨_, rfl, rfl⟩
    cases hv
    exact hb
  obtain ⟨⟨Rs, Rc, Rh, rf, c⟩, x, dx⟩ := g
  have hz : CiP ⟨Rs, Rc, Rh, rf, c⟩ := hz
  have hnd : (c.signs ++ c.helpers).Nodup := hz.ok.nod
  have hs5 : c.signs.length ≤ 500 := hz.s
  have hh5 : c.helpers.length ≤ 500 := hz.h
  have hz5 : c.clauses.length ≤ 50000 := hz.z
  have hnl : (c.signs ++ c.helpers).length ≤ 1000 := by rw [List.length_append]; omega
  obtain ⟨n1, n2, n3⟩ := List.nodup_append.mp hnd
  have Fn := Fn.mono (show 2 ≤ 4 by decide)
  have hw : (B.F x ∨ B.H x = none) ∧ (B.F dx ∨ B.H dx = none) := ⟨.inl (by rw [hF]; exact .inl rfl), .inl (by rw [hF]; exact .inr rfl)⟩
  show Tr _ B [some (rV (.ref x)), some Rs, some Rc, some Rh, none] [cO x dx C []] _ D
  refine tr_fld (C := C) (es := []) (S := fun _ => rT (c.signs.map rNm)) 0 cf.cl cf.sr (DE.xe (de_call (R := rT (c.signs.map rNm)) Fn hr (CnG.mk Rs c.signs []) (da_cons (de_var 1) (da_cons (NE.de (ne_tup (Rs := []) da_nil (Nat.zero_le _))) da_nil)) ⟨hz.svs, n1, fun n _ h => (nomatch h), by show c.signs.length ≤ 10000; omega⟩ fun _ _ _ _ r => r)) (fun _ _ => de_var 0) (fun _ _ => rfl) hw (Nat.zero_lt_succ _) fun _ _ => ?_
  show Tr _ B _ [cO x dx C [("sign_row", rT (c.signs.map rNm))]] _ D
  refine tr_fld (C := C) (es := [("sign_row", rT (c.signs.map rNm))]) (S := fun _ => rT (c.helpers.map rNm)) 0 cf.cl cf.hr (DE.xe (de_call (R := rT (c.helpers.map rNm)) Fn hr (CnG.mk Rh c.helpers c.signs) (da_cons (de_var 3) (da_cons (de_fldC 0 cf.cl cf.sr (de_var 0) rfl rfl) da_nil)) ⟨hz.svh, n2, fun n hn h => n3 n h n hn rfl, by show c.helpers.length ≤ 10000; omega⟩ fun _ _ _ _ r => r)) (fun _ _ => de_var 0) (fun _ _ => rfl) hw (Nat.lt_of_le_of_lt (show _ ≤ 1 from Nat.le_of_ble_eq_true rfl) (by decide)) fun _ _ => ?_
  show Tr _ B _ [cO x dx C [("sign_row", rT (c.signs.map rNm)), ("helper_row", rT (c.helpers.map rNm))]] _ D
  refine tr_fld (C := C) (es := [("sign_row", rT (c.signs.map rNm)), ("helper_row", rT (c.helpers.map rNm))]) (S := fun _ => rT ((c.signs ++ c.helpers).map rNm)) 0 cf.cl cf.nm (DE.xe (DE.is (de_op op_catA (de_fldC 0 cf.cl cf.sr (de_var 0) rfl rfl) (de_fldC 0 cf.cl cf.hr (de_var 0) rfl rfl) (opv_catT (by rw [List.length_map, List.length_map]; omega))) (congrArg rT (rNm_app _ _)))) (fun _ _ => de_var 0) (fun _ _ => rfl) hw (Nat.lt_of_le_of_lt (show _ ≤ 2 from Nat.le_of_ble_eq_true rfl) (by decide)) fun _ _ => ?_
  show Tr _ B _ [cO x dx C [("sign_row", rT (c.signs.map rNm)), ("helper_row", rT (c.helpers.map rNm)), ("names", rT ((c.signs ++ c.helpers).map rNm))]] _ D
  refine tr_fld (C := C) (es := [("sign_row", rT (c.signs.map rNm)), ("helper_row", rT (c.helpers.map rNm)), ("names", rT ((c.signs ++ c.helpers).map rNm))]) (S := fun _ => rT ((coM c).clauses.map rC)) 0 cf.cl cf.cr (DE.xe (de_callTy cr_tupleD bi.tuple (by decide +kernel) (da_cons (NE.de (ne_dcC (R := rB true) 4 sc_Code_init.nd (Nat.lt_of_le_of_lt (Nat.le_add_right _ 64) hr.units) (c.clauses.map fun d => upM d (c.signs ++ c.helpers)) (de_call (R := rL ((c.clauses.map fun d => upM d (c.signs ++ c.helpers)).map rC)) Fc hr (CcG.mk Rc c.clauses rf (c.signs ++ c.helpers)) (da_cons (de_var 2) (da_cons (de_fldC 0 cf.cl cf.nm (de_var 0) rfl rfl) da_nil)) ⟨hz.svc, hz.svd, fun d hd => (hz.ok.cls d hd).2, fun d hd => (hz.ok.cls d hd).1, hz5, fun d hd => ?_, by show (c.signs ++ c.helpers).length ≤ 10000; omega⟩ fun _ _ _ _ r => r) sv_l (by rw [List.length_map]; omega) (fun c hc _ _ _ _ _ => de_var 4) fun c hc _ _ _ _ _ => de_bl)) da_nil) (clv_tupleD kv_k))) (fun _ _ => de_var 0) (fun _ _ => rfl) hw (Nat.lt_of_le_of_lt (show _ ≤ 3 from Nat.le_of_ble_eq_true rfl) (by decide)) fun _ _ => ?_
  · have := (hz.ok.cls d hd).len
    show d.length ≤ 10000
    have h2 : d.length ≤ (c.signs ++ c.helpers).length := this
    omega
  show Tr _ B _ [cO x dx C (coE (coM c))] _ D
  exact tr_nil fun σ G H st => hD.nx () _ _ σ G H trivial st st.mem rfl
/-! ### code.fill -/
structure CfG where
  c : Cd
  Rh : Rp
  half : Cl Nm
abbrev CfG.fi (g : CfG) : FiG := ⟨g.c.clauses, g.c.signs ++ g.c.helpers, g.Rh, g.half⟩
abbrev c_fill (C : Addr) : Ct := .any (γ := CfG) (α := Bool) (fun g => [rO C (coE g.c), g.Rh]) (fun g => FiP 1 g.fi) (fun g => FiPost g.fi) fun _ b => rOb b
theorem md_fill {C : Addr} (cf : CoF K C) (F : MethAt K C "fill" "Code.fill" s_Code_fill) (Ff : Dn P w K mg base "filled" 5 p_filled (c_filled 1)) : Md P w K mg base C "fill" 6 p_Code_fill (c_fill C) := by
  refine md_mk F sc_Code_fill (fun _ => rfl) (fun _ _ _ _ _ _ us hl => match us, hl with | [_, _], _ => rfl) fun f cdv A outer s H E B D (g : CfG) hr hz hF hP hD => ?_
  show Tr _ B [some (rO C (coE g.c)), some g.Rh] [] _ D
  exact tr_retX (xe_callR (c := c_filled 1) (g := g.fi) Ff hr (da_cons (de_fld cf.cl cf.cr (de_var 0) rfl) (da_cons (de_fld cf.cl cf.nm (de_var 0) rfl) (da_cons (de_var 1) da_nil))) hz) fun z v σ G H hz' st r => hD.rt z v _ _ σ G H hz' st .nil r
/-! ### code.rule -/
open Classical in
noncomputable def okB (cl : List (Cl Nm)) (s : Cl Nm) : Bool := decide (∃ A, Mods cl A ∧ ag A s)
noncomputable def tabM (c : Cd) : List (Cl Nm) := (fulls c.signs).filter (okB c.clauses)
theorem fi_ok {g : FiG} {b : Bool} (h : FiPost g b) : b = okB g.cl g.half := by
  unfold okB
  cases b with
  | true =>
    have h : ∃ A, Mods g.cl A ∧ ag A g.half := h
    simp [h]
  | false =>
    have h : ¬ ∃ A, Mods g.cl A ∧ ag A g.half := fun ⟨A, h1, h2⟩ => (show NoMod g.cl g.half from h) A h1 h2
    simp [h]
structure CrP (c : Cd) : Prop where
  ok : CdOk c
  s : c.signs.length ≤ 6
  h : c.helpers.length ≤ 1
theorem rOb_notN {b : Bool} {G : Hp} {v : V} (h : (rOb b).p G v) : decide (v = .non) = !b := by
  cases b with
  | true => exact rSome_notN h
  | false =>
    have h : v = .non := h
    simp [h]
noncomputable abbrev c_rule (C CR : Addr) : Ct := .fn (γ := Cd) (fun c => [rO C (coE c)]) CrP fun c => rO CR (ruE c.signs (onceC (tabM c)))
theorem md_rule (bi : BI mg) (h6 : Most6 mg) {C CR : Addr} (cf : CoF K C) (F : MethAt K C "rule" "Code.rule" s_Code_rule) (Fu : Dn P w K mg base "full_settings" 1 p_full_settings c_fulls) (Ff : Md P w K mg base C "fill" 6 p_Code_fill (c_fill C)) (Fr : Mn P w K mg base "Rule" 5 p_Rule_init CR agRule RuP flRule) : Md P w K mg base C "rule" 7 p_Code_rule (c_rule C CR) := by
  refine md_mk F sc_Code_rule (fun _ => rfl) (fun _ _ _ _ _ _ us hl => match us, hl with | [_], _ => rfl) fun f cdv A outer s H E B D (c : Cd) hr hz hF hP hD => ?_
  have hz : CrP c := hz
  have hs := hz.s
  have hh := hz.h
  have hnd := hz.ok.nod
  have hns : c.signs.Nodup := (List.nodup_append.mp hnd).1
  have hfl := fulls_small (ns := c.signs) (by omega)
  obtain ⟨u, hu, ru⟩ := h6
  have Fu := Fu.mono (show 1 ≤ 6 by decide)
  show Tr _ B [some (rO C (coE c)), none, none] [] _ D
  refine tr_if (b := false) (dt_cmp op_gt (de_callB cr_len bi.len (by decide +kernel) (da_cons (de_fld cf.cl cf.sr (de_var 0) rfl) da_nil) (clv_len sv_t)) (de_glob hu ru) (leT (j := 6) (by rw [List.length_map]; exact hs))) (fun h => by cases h) fun _ => tr_go ?_
  refine tr_ownLcIf (α := Cl Nm) 1 2 sc_Code_rule.nd (fulls c.signs) rC rC (okB c.clauses) (de_call (R := rCs (fulls c.signs)) Fu hr (rT (c.signs.map rNm), c.signs) (da_cons (de_fld cf.cl cf.sr (de_var 0) rfl) da_nil) ⟨fun _ => sv_t, by show c.signs.length ≤ 8; omega⟩ fun _ _ _ _ r => r) sv_l (by omega) (fun s hs' _ _ _ _ _ => ?_) (fun s hs' hb _ _ _ _ _ => de_var 2) fun a ha => ?_
  · have hfs : s.map (·.nm) = c.signs := mem_fulls.mp hs'
    have hsn : (s.map (·.nm)).Nodup := by rw [hfs]; exact hns
    have hsl : s.length = c.signs.length := full_len hs'
    refine dt_cmp op_isNotNo (Ra := rOb (okB c.clauses s)) (de_meth (C := C) cf.cl Ff hr (CfG.mk c (rC s) s) rfl (de_var 0) (da_cons (de_var 2) da_nil) rfl ⟨fun _ => sv_t, con_of_nodup_nm hsn, ?_, fun l hl => ?_, fun d hd => (hz.ok.cls d hd).2, ?_, fun d hd => ?_, ?_⟩ fun z G v hz' r => ?_) de_non ((opv_isNotN (c := !okB c.clauses s) fun G v h => rOb_notN h).is (congrArg rB (Bool.not_not _)))
    · exact (List.pairwise_map.mp hsn).imp fun {a b} n e => n (by rw [e])
    · have : l.nm ∈ c.signs := by rw [← hfs]; exact List.mem_map.mpr ⟨l, hl, rfl⟩
      exact List.mem_append_left _ this
    · show (c.signs ++ c.helpers).length ≤ 1000
      rw [List.length_append]; omega
    · have h1 : d.length ≤ (c.signs ++ c.helpers).length := (hz.ok.cls d hd).len
      rw [List.length_append] at h1
      omega
    · show (c.signs ++ c.helpers).length ≤ s.length + 1
      rw [List.length_append]; omega
    · rw [← fi_ok (g := (CfG.mk c (rC s) s).fi) hz']; exact r
  · refine tr_pub 1 0 ha rfl rfl ?_
    have ht : (tabM c).length ≤ 10000 := Nat.le_trans (List.length_filter_le _ _) (by omega)
    exact tr_ret (R := rO CR (ruE c.signs (onceC (tabM c)))) (DE.is (ne_make Fr hr (c.signs, tabM c) (da_cons (de_fld cf.cl cf.sr (de_var 0) rfl) (da_cons (de_var 1) da_nil)) ⟨hns, hs, fun d hd => mem_fulls.mp (List.mem_filter.mp hd).1, ht⟩) rfl) fun v σ G H st r => hD.rt () v _ _ σ G H trivial st .nil r
/-! ### one + other -/
def addM (a b : Cd) : Cd := coM ⟨a.signs ++ b.signs.filter (fun n => !decide (n ∈ a.signs)), a.helpers ++ b.helpers, a.clauses ++ b.clauses⟩
structure AdP (g : Cd × Cd) : Prop where
  ok1 : CdOk g.1
  ok2 : CdOk g.2
  d1 : ∀ h ∈ g.1.helpers, h ∉ g.2.signs ++ g.2.helpers
  d2 : ∀ h ∈ g.2.helpers, h ∉ g.1.signs ++ g.1.helpers
  s : g.1.signs.length + g.2.signs.length ≤ 500
  h : g.1.helpers.length + g.2.helpers.length ≤ 500
  z : g.1.clauses.length + g.2.clauses.length ≤ 50000
abbrev c_add (C : Addr) : Ct := .fn (γ := Cd × Cd) (fun g => [rO C (coE g.1), rO C (coE g.2)]) AdP fun g => rO C (coE (addM g.1 g.2))
theorem AdP.ok {a b : Cd} (h : AdP (a, b)) : CdOk ⟨a.signs ++ b.signs.filter (fun n => !decide (n ∈ a.signs)), a.helpers ++ b.helpers, a.clauses ++ b.clauses⟩ := by
  obtain ⟨a1, a2, a3⟩ := List.nodup_append.mp h.ok1.nod
  obtain ⟨b1, b2, b3⟩ := List.nodup_append.mp h.ok2.nod
  have hd1 : ∀ x ∈ a.helpers, x ∉ b.signs ++ b.helpers := h.d1
  have hd2 : ∀ x ∈ b.helpers, x ∉ a.signs ++ a.helpers := h.d2
  have hin : ∀ n, n ∈ a.signs ++ b.signs.filter (fun n => !decide (n ∈ a.signs)) ↔ n ∈ a.signs ∨ n ∈ b.signs := fun n => by
    rw [List.mem_append, List.mem_filter]
    by_cases c : n ∈ a.signs <;> simp [c]
  refine ⟨?_, fun d hd => ?_⟩
  · show ((a.signs ++ b.signs.filter (fun n => !decide (n ∈ a.signs))) ++ (a.helpers ++ b.helpers)).Nodup
    refine List.nodup_append.mpr ⟨List.nodup_append.mpr ⟨a1, b1.filter _, fun x hx y hy e => ?_⟩, List.nodup_append.mpr ⟨a2, b2, fun x hx y hy e => ?_⟩, fun x hx y hy e => ?_⟩
    · have := (List.mem_filter.mp hy).2
      rw [← e] at this
      simp [hx] at this
    · exact hd1 x hx (List.mem_append_right _ (e ▸ hy))
    · subst e
      rcases (hin x).mp hx with hx | hx
      · rcases List.mem_append.mp hy with hy | hy
        · exact a3 x hx x hy rfl
        · exact hd2 x hy (List.mem_append_left _ hx)
      · rcases List.mem_append.mp hy with hy | hy
        · exact hd1 x hy (List.mem_append_left _ hx)
        · exact b3 x hx x hy rfl
  · show ClOk ((a.signs ++ b.signs.filter (fun n => !decide (n ∈ a.signs))) ++ (a.helpers ++ b.helpers)) d
    rcases List.mem_append.mp hd with hd | hd
    · obtain ⟨k1, k2⟩ := h.ok1.cls d hd
      refine ⟨k1, fun l hl => ?_⟩
      have := k2 l hl
      rcases List.mem_append.mp this with q | q
      · exact List.mem_append_left _ ((hin _).mpr (.inl q))
      · exact List.mem_append_right _ (List.mem_append_left _ q)
    · obtain ⟨k1, k2⟩ := h.ok2.cls d hd
      refine ⟨k1, fun l hl => ?_⟩
      have := k2 l hl
      rcases List.mem_append.mp this with q | q
      · exact List.mem_append_left _ ((hin _).mpr (.inr q))
      · exact List.mem_append_right _ (List.mem_append_right _ q)
theorem md_add (bi : BI mg) {C : Addr} (cf : CoF K C) (F : MethAt K C "__add__" "Code.__add__" s_Code_add) (Fm : Mn P w K mg base "Code" 5 p_Code_init C agCode CiP flCode) : Md P w K mg base C "__add__" 7 p_Code_add (c_add C) := by
  refine md_mk F sc_Code_add (fun _ => rfl) (fun _ _ _ _ _ _ us hl => match us, hl with | [_, _], _ => rfl) fun f cdv A outer s H E B D (g : Cd × Cd) hr hz hF hP hD => ?_
  obtain ⟨a, b⟩ := g
  have hz : AdP (a, b) := hz
  have hd1 : ∀ x ∈ a.helpers, x ∉ b.signs ++ b.helpers := hz.d1
  have hd2 : ∀ x ∈ b.helpers, x ∉ a.signs ++ a.helpers := hz.d2
  have hsz : a.signs.length + b.signs.length ≤ 500 := hz.s
  have hhz : a.helpers.length + b.helpers.length ≤ 500 := hz.h
  have hcz : a.clauses.length + b.clauses.length ≤ 50000 := hz.z
  have hr5 : Room 6 (KX P w K mg base n_Code_add "Code.__add__" (defScope s_Code_add) f cdv (A := A) outer s H E).A := hr
  show Tr _ B [some (rO C (coE a)), some (rO C (coE b)), none, none] [] _ D
  refine tr_for (S := Unit) (α := Nm) 2 PassesOwn.never sc_Code_add.nd (de_fld cf.cl cf.hr (de_var 0) rfl) (fun _ => [some (rO C (coE a)), some (rO C (coE b)), none, none]) (fun _ => []) (fun _ _ => True) () a.helpers rNm sv_t trivial ⟨rfl, rfl, trivial⟩ rfl ?_ ?_
  · intro P2 pm i n _ hi _ D' hn hrt
    have hm : n ∈ a.helpers := List.mem_of_getElem? hi
    refine tr_if (b := false) (dt_cmp op_in_seq (de_var 2) (de_fld cf.cl cf.nm (de_var 1) rfl) (opv_noNm sv_t (hd1 n hm))) (fun h => by cases h) fun _ => tr_go ?_
    exact tr_nil fun σ G H st => hn () trivial σ G H (st.less ⟨rfl, rfl, trivial⟩)
  intro _ _
  refine tr_for (S := Unit) (α := Nm) 2 PassesOwn.never sc_Code_add.nd (de_fld cf.cl cf.hr (de_var 1) rfl) (fun _ => [some (rO C (coE a)), some (rO C (coE b)), none, none]) (fun _ => []) (fun _ _ => True) () b.helpers rNm sv_t trivial ⟨rfl, rfl, trivial⟩ rfl ?_ ?_
  · intro P2 pm i n _ hi _ D' hn hrt
    have hm : n ∈ b.helpers := List.mem_of_getElem? hi
    refine tr_if (b := false) (dt_cmp op_in_seq (de_var 2) (de_fld cf.cl cf.nm (de_var 0) rfl) (opv_noNm sv_t (hd2 n hm))) (fun h => by cases h) fun _ => tr_go ?_
    exact tr_nil fun σ G H st => hn () trivial σ G H (st.less ⟨rfl, rfl, trivial⟩)
  intro _ _
  have hfl : (b.signs.filter fun n => !decide (n ∈ a.signs)).length ≤ b.signs.length := List.length_filter_le _ _
  refine tr_set (R := rT ((a.signs ++ b.signs.filter fun n => !decide (n ∈ a.signs)).map rNm)) 3 sc_Code_add.nd (DE.is (de_op op_catA (de_fld cf.cl cf.sr (de_var 0) rfl) (de_callTy cr_tuple bi.tuple (by decide +kernel) (da_cons (NE.de (ne_lcIf (α := Nm) 2 sc_Code_add.nd b.signs rNm rNm (fun n => !decide (n ∈ a.signs)) (de_fld cf.cl cf.sr (de_var 1) rfl) sv_t (by omega) (fun n hn _ _ _ _ _ => dt_cmp op_notIn_seq (de_var 2) (de_fld cf.cl cf.sr (de_var 0) rfl) (opv_notInNm sv_t)) fun n hn hb _ _ _ _ _ => de_var 2)) da_nil) (clv_tuple lv_l)) (opv_catT (by rw [List.length_map, List.length_map]; omega))) (congrArg rT (rNm_app _ _))) ?_
  refine tr_ret (R := rO C (coE (addM a b))) (DE.is (ne_make Fm hr5 (CiG.mk (rT ((a.signs ++ b.signs.filter fun n => !decide (n ∈ a.signs)).map rNm)) (rT ((a.clauses ++ b.clauses).map rC)) (rT ((a.helpers ++ b.helpers).map rNm)) rC ⟨a.signs ++ b.signs.filter (fun n => !decide (n ∈ a.signs)), a.helpers ++ b.helpers, a.clauses ++ b.clauses⟩) (da_cons (de_var 3) (da_cons (DE.is (de_op op_catA (de_fld cf.cl cf.cr (de_var 0) rfl) (de_fld cf.cl cf.cr (de_var 1) rfl) (opv_catT (by rw [List.length_map, List.length_map]; omega))) (congrArg rT (List.map_append).symm)) (da_cons (DE.is (de_op op_catA (de_fld cf.cl cf.hr (de_var 0) rfl) (de_fld cf.cl cf.hr (de_var 1) rfl) (opv_catT (by rw [List.length_map, List.length_map]; omega))) (congrArg rT (rNm_app _ _))) da_nil))) ⟨fun _ => sv_t, fun _ => sv_t, fun _ => sv_t, fun d _ _ => sv_t, hz.ok, ?_, ?_, ?_⟩) rfl) fun v σ G H st r => hD.rt () v _ _ σ G H trivial st .nil r
  · show (a.signs ++ b.signs.filter fun n => !decide (n ∈ a.signs)).length ≤ 500
    rw [List.length_append]; omega
  · show (a.helpers ++ b.helpers).length ≤ 500
    rw [List.length_append]; exact hhz
  · show (a.clauses ++ b.clauses).length ≤ 50000
    rw [List.length_append]; exact hcz
end
end KL

/-! KWeb -/
namespace KL
open PySem PySem.Spec PyProof.Rows L2 KM
section
variable {P : Program} {w : World} {K : PySem.W.Frag} {mg : Str → Option Value} {base : Heap}
abbrev rCo (C : Addr) (c : Cd) : Rp := rO C (coE c)
/-! ### check_codes, check_code -/
abbrev c_checkCodes (C : Addr) : Ct := .fn (γ := List Cd) (fun cs => [rL (cs.map (rCo C))]) (fun cs => cs ≠ [] ∧ cs.length ≤ 100) fun _ => rN
theorem dn_check_codes (bi : BI mg) {C : Addr} (cf : CoF K C) (hC : mg "Code" = some (.ref C)) (F : DefAt K mg "check_codes" s_check_codes) (Fi : Dn P w K mg base "is_list" 1 p_is_list c_isList) : Dn P w K mg base "check_codes" 2 p_check_codes (c_checkCodes C) := by
  refine dn_mk F sc_check_codes (fun _ => rfl) (fun _ _ _ _ _ _ us hl => match us, hl with | [_], _ => rfl) fun f cdv A outer s H E B D (cs : List Cd) hr hz hF hP hD => ?_
  obtain ⟨h1, h2⟩ : cs ≠ [] ∧ cs.length ≤ 100 := hz
  have hlen : 0 < cs.length := List.length_pos_iff.mpr h1
  show Tr _ B [some (rL (cs.map (rCo C))), none, none] [] _ D
  refine tr_if (b := false) (DW.dt (dw_or (c := false) (d := false) (dt_not (c := true) (dt_val (de_call (R := rB true) Fi hr (rL (cs.map (rCo C)), cs.map (rCo C)) (da_cons (de_var 0) da_nil) (fun _ => sv_l) fun _ _ _ _ r => r))) fun _ => dw_or1 (dt_cmp op_eq (de_callB cr_len bi.len (by decide +kernel) (da_cons (de_var 0) da_nil) (clv_len sv_l)) de_int ((opv_eqV (M := []) rfl).is (congrArg rB (decide_eq_false ?_)))))) (fun h => by cases h) fun _ => tr_go ?_
  · rw [List.length_map]
    intro e
    injection e with e
    omega
  refine tr_forP (S := Unit) (n := (cs.map (rCo C)).length) (ra := fun i => rI (i : Nat)) (rb := fun i => (cs.map (rCo C)).getD i rN) 1 2 PassesOwn.never sc_check_codes.nd (ip_enum bi.enumerate (de_var 0) fun _ => sv_l) (fun _ => [some (rL (cs.map (rCo C))), none, none]) (fun _ => []) (fun _ _ => True) () trivial ⟨rfl, trivial⟩ rfl ?_ ?_
  · rintro P2 pm2 i _ hi _ D2 hn2 hrt2
    have hi : i < cs.length := by rwa [List.length_map] at hi
    rw [getD_map' hi]
    refine tr_if (b := false) (dt_not (c := true) (dt_val (de_callB call_isi bi.isinstance (by decide +kernel) (da_cons (de_var 2) (da_cons (de_glob (v := .ref C) hC rfl) da_nil)) (clv_isC cf.cl)))) (fun h => by cases h) fun _ => tr_go ?_
    exact tr_nil fun σ G H st => hn2 () trivial σ G H (st.less ⟨rfl, trivial⟩)
  · intro _ _
    exact tr_nil fun σ G H st => hD.nx () _ _ σ G H trivial st .nil rfl
structure CkP (g : Cd × List Cd) : Prop where
  s : g.1.signs.length ≤ 6
  d1 : ∀ o ∈ g.2, ∀ h ∈ g.1.helpers, h ∉ o.signs ++ o.helpers
  d2 : ∀ o ∈ g.2, ∀ n ∈ g.1.signs, n ∉ o.helpers
  z : g.2.length ≤ 100
abbrev c_checkCode (C : Addr) : Ct := .fn (γ := Cd × List Cd) (fun g => [rCo C g.1, rT (g.2.map (rCo C))]) CkP fun _ => rN
theorem any_false {α : Type} (xs : List α) : (xs.map fun _ => false).any id = false := by simp
theorem dn_check_code (bi : BI mg) (h6 : Most6 mg) {C : Addr} (cf : CoF K C) (F : DefAt K mg "check_code" s_check_code) : Dn P w K mg base "check_code" 1 p_check_code (c_checkCode C) := by
  refine dn_mk F sc_check_code (fun _ => rfl) (fun _ _ _ _ _ _ us hl => match us, hl with | [_, _], _ => rfl) fun f cdv A outer s H E B D (g : Cd × List Cd) hr hz hF hP hD => ?_
  obtain ⟨c, os⟩ := g
  have hz : CkP (c, os) := hz
  have h6' : c.signs.length ≤ 6 := hz.s
  have hd1 : ∀ o ∈ os, ∀ h ∈ c.helpers, h ∉ o.signs ++ o.helpers := hz.d1
  have hd2 : ∀ o ∈ os, ∀ n ∈ c.signs, n ∉ o.helpers := hz.d2
  have hoz : os.length ≤ 100 := hz.z
  obtain ⟨u, hu, ru⟩ := h6
  show Tr _ B [some (rCo C c), some (rT (os.map (rCo C))), none, none] [] _ D
  refine tr_if (b := false) (dt_cmp op_gt (de_callB cr_len bi.len (by decide +kernel) (da_cons (de_fld cf.cl cf.sr (de_var 0) rfl) da_nil) (clv_len sv_t)) (de_glob hu ru) (leT (j := 6) (by rw [List.length_map]; exact h6'))) (fun h => by cases h) fun _ => tr_go ?_
  refine tr_for (S := Unit) (α := Nm) 2 PassesOwn.never sc_check_code.nd (de_fld cf.cl cf.hr (de_var 0) rfl) (fun _ => [some (rCo C c), some (rT (os.map (rCo C))), none, none]) (fun _ => []) (fun _ _ => True) () c.helpers rNm sv_t trivial ⟨rfl, rfl, trivial⟩ rfl ?_ ?_
  · intro P2 pm i n _ hi _ D' hn hrt
    have hm : n ∈ c.helpers := List.mem_of_getElem? hi
    refine tr_if (b := false) (dt_val (DE.is (de_callB (cr_any rfl) bi.any (by decide +kernel) (da_cons (NE.de (ne_lc (α := Cd) 3 sc_check_code.nd os (rCo C) (fun _ => rB false) (de_var 1) sv_t (by omega) fun o ho _ _ _ _ _ => de_cmp op_in_seq (de_var 2) (de_fld cf.cl cf.nm (de_var 3) rfl) (opv_noNm sv_t (hd1 o ho n hm)))) da_nil) (clv_any (bs := os.map fun _ => false) (by rw [List.map_map]; exact lv_l))) (congrArg rB (any_false os)))) (fun h => by cases h) fun _ => tr_go ?_
    exact tr_nil fun σ G H st => hn () trivial σ G H (st.less ⟨rfl, rfl, trivial⟩)
  intro _ _
  refine tr_for (S := Unit) (α := Nm) 2 PassesOwn.never sc_check_code.nd (de_fld cf.cl cf.sr (de_var 0) rfl) (fun _ => [some (rCo C c), some (rT (os.map (rCo C))), none, none]) (fun _ => []) (fun _ _ => True) () c.signs rNm sv_t trivial ⟨rfl, rfl, trivial⟩ rfl ?_ ?_
  · intro P2 pm i n _ hi _ D' hn hrt
    have hm : n ∈ c.signs := List.mem_of_getElem? hi
    refine tr_if (b := false) (dt_val (DE.is (de_callB (cr_any rfl) bi.any (by decide +kernel) (da_cons (NE.de (ne_lc (α := Cd) 3 sc_check_code.nd os (rCo C) (fun _ => rB false) (de_var 1) sv_t (by omega) fun o ho _ _ _ _ _ => de_cmp op_in_seq (de_var 2) (de_fld cf.cl cf.hr (de_var 3) rfl) (opv_noNm sv_t (hd2 o ho n hm)))) da_nil) (clv_any (bs := os.map fun _ => false) (by rw [List.map_map]; exact lv_l))) (congrArg rB (any_false os)))) (fun h => by cases h) fun _ => tr_go ?_
    exact tr_nil fun σ G H st => hn () trivial σ G H (st.less ⟨rfl, rfl, trivial⟩)
  intro _ _
  exact tr_nil fun σ G H st => hD.nx () _ _ σ G H trivial st .nil rfl
end
end KL

/-! KWebI -/
namespace KL
open PySem PySem.Spec PyProof.Rows L2 KM
/-! ### webs: plain facts -/
theorem coM_ok {c : Cd} (h : CdOk c) : CdOk (coM c) := by
  refine ⟨h.nod, fun d hd => ?_⟩
  have hd : d ∈ onceC (c.clauses.map fun d => upM d (c.signs ++ c.helpers)) := hd
  obtain ⟨e, he, rfl⟩ := List.mem_map.mp (mem_onceC.mp hd)
  exact upM_ok (h.cls e he).con h.nod
theorem coM_len (c : Cd) : (coM c).clauses.length ≤ c.clauses.length := by
  have := onceC_len (c.clauses.map fun d => upM d (c.signs ++ c.helpers))
  rwa [List.length_map] at this
theorem webNames_coM (cs : List Cd) : webNames (cs.map coM) = webNames cs := by
  unfold webNames; rw [List.foldl_map]; rfl
theorem helpersOf_coM (cs : List Cd) : helpersOf (cs.map coM) = helpersOf cs := by
  unfold helpersOf; rw [List.flatMap_map]; rfl
theorem tr_coM {cs : List Cd} (t : TrOk cs) : TrOk (cs.map coM) := by
  refine ⟨fun c hc => ?_, fun i c hi x hx y hy h1 h2 => ?_, by rw [helpersOf_coM]; exact t.hnod, fun h hh => ?_⟩
  · obtain ⟨d, hd, rfl⟩ := List.mem_map.mp hc
    have q := t.each d hd
    exact ⟨coM_ok q.ok, q.s1, q.s3, q.h1, Nat.le_trans (coM_len d) q.cz⟩
  · rw [List.getElem?_map] at hi
    cases e : cs[i]? with
    | none => rw [e] at hi; cases hi
    | some d =>
      rw [e] at hi
      cases hi
      rw [← List.map_take, webNames_coM] at h1 h2
      exact t.join i d e x hx y hy h1 h2
  · rw [helpersOf_coM] at hh
    rw [webNames_coM]
    exact t.hdis h hh
def joinT (cs : List Cd) (i : Nat) : Cd := ((cs.drop 1).take i).foldl addM (cs.headD ⟨[], [], []⟩)
def joinM (cs : List Cd) : Cd := joinT cs (cs.drop 1).length
structure JnF (d : Cd) (cs : List Cd) : Prop where
  ok : CdOk d
  s : d.signs = webNames cs
  h : d.helpers = helpersOf cs
  z : d.clauses.length ≤ 900 * cs.length
theorem joinT_succ {cs : List Cd} {i : Nat} {c : Cd} (h : cs[i + 1]? = some c) : joinT cs (i + 1) = addM (joinT cs i) c := by
  have : (cs.drop 1)[i]? = some c := by rw [List.getElem?_drop, Nat.add_comm]; exact h
  unfold joinT
  rw [List.take_add_one, this, List.foldl_append]; rfl
theorem take_succ' {α : Type} {cs : List α} {i : Nat} {c : α} (h : cs[i]? = some c) : cs.take (i + 1) = cs.take i ++ [c] := by rw [List.take_add_one, h]; rfl
theorem helpers_sub {cs : List Cd} {i : Nat} {h : Nm} (m : h ∈ helpersOf (cs.take i)) : h ∈ helpersOf cs := by
  unfold helpersOf at m ⊢
  obtain ⟨c, hc, hm⟩ := List.mem_flatMap.mp m
  exact List.mem_flatMap.mpr ⟨c, List.mem_of_mem_take hc, hm⟩
theorem web_sub {cs : List Cd} {i : Nat} {h : Nm} (m : h ∈ webNames (cs.take i)) : h ∈ webNames cs := by
  rw [mem_webNames] at m ⊢
  obtain ⟨c, hc, hm⟩ := m
  exact ⟨c, List.mem_of_mem_take hc, hm⟩
theorem helpers_apart {cs : List Cd} (t : TrOk cs) {i : Nat} {c : Cd} (h : cs[i]? = some c) : ∀ x ∈ c.helpers, x ∉ helpersOf (cs.take i) := fun x hx hm => by
  have e : cs = cs.take i ++ c :: cs.drop (i + 1) := by
    obtain ⟨hl, hc⟩ := List.getElem?_eq_some_iff.mp h
    rw [← hc, List.getElem_cons_drop, List.take_append_drop]
  have hn := t.hnod
  have e2 : helpersOf cs = helpersOf (cs.take i) ++ (c.helpers ++ helpersOf (cs.drop (i + 1))) := by
    conv => lhs; rw [e]
    unfold helpersOf
    rw [List.flatMap_append, List.flatMap_cons]
  rw [e2] at hn
  exact (List.nodup_append.mp hn).2.2 x hm x (List.mem_append_left _ hx) rfl
theorem c_helpers {cs : List Cd} {c : Cd} (h : c ∈ cs) {x : Nm} (hx : x ∈ c.helpers) : x ∈ helpersOf cs := List.mem_flatMap.mpr ⟨c, h, hx⟩
theorem c_signs {cs : List Cd} {c : Cd} (h : c ∈ cs) {x : Nm} (hx : x ∈ c.signs) : x ∈ webNames cs := mem_webNames.mpr ⟨c, h, hx⟩
theorem jn_facts {cs : List Cd} (t : TrOk cs) (hz : cs.length ≤ 25) : ∀ i, i < cs.length → JnF (joinT cs i) (cs.take (i + 1)) ∧ ∀ c, cs[i + 1]? = some c → AdP (joinT cs i, c)
  | 0, h0 => by
    obtain ⟨c0, r, rfl⟩ : ∃ c0 r, cs = c0 :: r := by
      cases cs with
      | nil => simp at h0
      | cons a b => exact ⟨a, b, rfl⟩
    have q := t.each c0 List.mem_cons_self
    have f : JnF (joinT (c0 :: r) 0) ((c0 :: r).take 1) := by
      refine ⟨q.ok, ?_, ?_, ?_⟩
      · show c0.signs = [] ++ c0.signs.filter fun n => !decide (n ∈ [])
        rw [List.nil_append]
        exact (List.filter_eq_self.mpr fun a _ => by simp).symm
      · show c0.helpers = helpersOf [c0]
        unfold helpersOf; simp
      · show c0.clauses.length ≤ 900 * 1
        exact q.cz
    exact ⟨f, fun c hc => jn_ad t hz h0 f hc⟩
  | i + 1, hi => by
    obtain ⟨f, ad⟩ := jn_facts t hz i (by omega)
    have hc : cs[i + 1]? = some cs[i + 1] := List.getElem?_eq_getElem hi
    have a := ad _ hc
    generalize cs[i + 1] = c at hc a
    have q := t.each c (List.mem_of_getElem? hc)
    have f2 : JnF (joinT cs (i + 1)) (cs.take (i + 2)) := by
      rw [joinT_succ hc, take_succ' hc]
      refine ⟨coM_ok a.ok, ?_, ?_, ?_⟩
      · show (joinT cs i).signs ++ c.signs.filter (fun n => !decide (n ∈ (joinT cs i).signs)) = _
        rw [webNames_snoc, f.s]; rfl
      · show (joinT cs i).helpers ++ c.helpers = _
        rw [helpersOf_snoc, f.h]
      · refine Nat.le_trans (coM_len _) ?_
        show ((joinT cs i).clauses ++ c.clauses).length ≤ _
        have h1 := f.z
        have h2 := q.cz
        rw [List.length_append, List.length_append, List.length_singleton, Nat.mul_add]
        omega
    exact ⟨f2, fun d hd => jn_ad t hz hi f2 hd⟩
where
  jn_ad {cs : List Cd} (t : TrOk cs) (hz : cs.length ≤ 25) {i : Nat} (hi : i < cs.length) (f : JnF (joinT cs i) (cs.take (i + 1))) {c : Cd} (hc : cs[i + 1]? = some c) : AdP (joinT cs i, c) := by
    have hm : c ∈ cs := List.mem_of_getElem? hc
    have q := t.each c hm
    have hl : (cs.take (i + 1)).length ≤ 25 := by rw [List.length_take]; omega
    have hw := webNames_len (cs := cs.take (i + 1)) (m := 3) fun d hd => (t.each d (List.mem_of_mem_take hd)).s3
    have hh := helpersOf_len (cs := cs.take (i + 1)) fun d hd => t.each d (List.mem_of_mem_take hd)
    refine ⟨f.ok, q.ok, fun x hx h => ?_, fun x hx h => ?_, ?_, ?_, ?_⟩
    · have hx : x ∈ (joinT cs i).helpers := hx
      rw [f.h] at hx
      rcases List.mem_append.mp h with h | h
      · exact t.hdis x (helpers_sub hx) (c_signs hm h)
      · exact helpers_apart t hc x h hx
    · have h : x ∈ (joinT cs i).signs ++ (joinT cs i).helpers := h
      rw [f.s, f.h] at h
      rcases List.mem_append.mp h with h | h
      · exact t.hdis x (c_helpers hm hx) (web_sub h)
      · exact helpers_apart t hc x hx h
    · show (joinT cs i).signs.length + c.signs.length ≤ 500
      rw [f.s]
      have := q.s3
      omega
    · show (joinT cs i).helpers.length + c.helpers.length ≤ 500
      rw [f.h]
      have := q.h1
      omega
    · show (joinT cs i).clauses.length + c.clauses.length ≤ 50000
      have h1 := f.z
      have h2 := q.cz
      have : 900 * (cs.take (i + 1)).length ≤ 900 * 25 := Nat.mul_le_mul_left _ hl
      omega
/-! ### lumps -/
def near (c : Cd) (l : List Nm) : Bool := c.signs.any fun n => decide (n ∈ l)
def lumpStep (c : Cd) (ls : List (List Nm)) : List (List Nm) := ls.filter (fun l => !near c l) ++ [(ls.filter (near c)).flatten ++ c.signs]
structure LuJ (cs : List Cd) (ls : List (List Nm)) : Prop where
  len : ls.length ≤ cs.length
  tot : ls.flatten.length ≤ 3 * cs.length
  sub : ∀ l ∈ ls, ∀ n ∈ l, n ∈ webNames cs
theorem flat_split {α : Type} (p : List α → Bool) : ∀ ls : List (List α), (ls.filter fun l => !p l).flatten.length + (ls.filter p).flatten.length = ls.flatten.length
  | [] => rfl
  | l :: r => by
    have ih := flat_split p r
    cases h : p l <;> simp only [List.filter_cons, h, Bool.not_true, Bool.not_false, if_true, if_false, Bool.false_eq_true, List.flatten_cons, List.length_append] <;> omega
theorem LuJ.step {cs : List Cd} {ls : List (List Nm)} {c : Cd} (j : LuJ cs ls) (h3 : c.signs.length ≤ 3) : LuJ (cs ++ [c]) (lumpStep c ls) := by
  have h1 := flat_split (near c) ls
  refine ⟨?_, ?_, fun l hl n hn => ?_⟩
  · unfold lumpStep
    rw [List.length_append, List.length_append, List.length_singleton, List.length_singleton]
    exact Nat.add_le_add_right (Nat.le_trans (List.length_filter_le _ _) j.len) 1
  · unfold lumpStep
    have := j.tot
    rw [List.flatten_append, List.length_append, List.flatten_singleton, List.length_append, List.length_append, List.length_singleton, Nat.mul_add]
    omega
  · rw [mem_web_snoc]
    rcases List.mem_append.mp hl with hl | hl
    · exact .inl (j.sub l (List.mem_filter.mp hl).1 n hn)
    · have e : l = (ls.filter (near c)).flatten ++ c.signs := by simpa using hl
      rw [e] at hn
      rcases List.mem_append.mp hn with hn | hn
      · obtain ⟨m, hm, hmn⟩ := List.mem_flatten.mp hn
        exact .inl (j.sub m (List.mem_filter.mp hm).1 n hmn)
      · exact .inr hn
theorem nodup_one {α : Type} {xs : List α} (h : xs.Nodup) (e : ∀ x ∈ xs, ∀ y ∈ xs, x = y) : xs.length ≤ 1 := by
  match xs, h, e with
  | [], _, _ => simp
  | [a], _, _ => simp
  | a :: b :: r, h, e =>
    exfalso
    rw [List.nodup_cons] at h
    exact h.1 (by rw [e a (by simp) b (by simp)]; simp)
theorem lump_one {cs : List Cd} (t : TrOk cs) {i : Nat} {c : Cd} (hc : cs[i]? = some c) {ls : List (List Nm)} (j : LuJ (cs.take i) ls) {l : List Nm} (hl : l ∈ ls) : (c.signs.filter fun n => decide (n ∈ l)).length ≤ 1 := by
  have q := (t.each c (List.mem_of_getElem? hc)).ok.nod
  refine nodup_one ((List.nodup_append.mp q).1.filter _) fun x hx y hy => ?_
  obtain ⟨x1, x2⟩ := List.mem_filter.mp hx
  obtain ⟨y1, y2⟩ := List.mem_filter.mp hy
  exact t.join i c hc x x1 y y1 (j.sub l hl x (by simpa using x2)) (j.sub l hl y (by simpa using y2))
theorem lump_eq (c : Cd) (ls : List (List Nm)) : (ls.filter fun l => !decide (l ∈ ls.filter (near c))) = ls.filter fun l => !near c l := by
  refine List.filter_congr fun l hl => ?_
  have : decide (l ∈ ls.filter (near c)) = near c l := by
    rw [Bool.eq_iff_iff, decide_eq_true_iff, List.mem_filter]
    exact ⟨fun h => h.2, fun h => ⟨hl, h⟩⟩
  rw [this]
theorem tab_once (c : Cd) : ((fulls c.signs).filter fun d => decide (d ∈ onceC (tabM c))) = tabM c := by
  unfold tabM
  refine List.filter_congr fun d hd => ?_
  rw [Bool.eq_iff_iff, decide_eq_true_iff, mem_onceC, List.mem_filter]
  exact ⟨fun h => h.2, fun h => ⟨hd, h⟩⟩
end KL

/-! KWebW -/
namespace KL
open PySem PySem.Spec PyProof.Rows L2 KM
section
variable {P : Program} {w : World} {K : PySem.W.Frag} {mg : Str → Option Value} {base : Heap}
abbrev rNs (l : List Nm) : Rp := rL (l.map rNm)
abbrev dNs (l : List Nm) : PyData := .list (l.map dNm)
theorem rd_Ns (l : List Nm) : RdD K (rNs l) (dNs l) := rd_L fun n _ => rd_nm n
theorem sh_Ns (l : List Nm) : ShN 1 (dNs l) := sh_L fun n _ => sh_nm n
theorem eqv_Ns (a b : List Nm) : PyData.eqv (dNs a) (dNs b) = true ↔ a = b := eqv_L eqv_nm a b
theorem opv_notInNs {M : List Cell} {R : Rp} {c : List Nm} {cs : List (List Nm)} (hr : RdM K M R (.list (cs.map dNs))) : Opv M (rNs c) R (rNotInD K) (rB (!decide (c ∈ cs))) := by
  have h := opv_notInD (rd_Ns c).m hr (M := M) (sh_of (sh_Ns c) (by decide)) (sh_of (sh_L fun c _ => sh_Ns c) (by decide))
  rw [any_eqv eqv_Ns] at h
  exact h.is (congrArg (fun b => rB (!b)) (dec_irrel _ _))
theorem flat_rNm (ls : List (List Nm)) : (ls.flatMap fun l => l.map rNm) = ls.flatten.map rNm := by
  rw [List.map_flatten, ← List.flatMap_def]
/-! ### Web.__init__ -/
structure WeF (K : PySem.W.Frag) (C : Addr) : Prop where
  cl : ClsF K C
  row : NoAttr K C "row"
  tables : NoAttr K C "tables"
  joined : NoAttr K C "joined"
noncomputable abbrev weE (CC : Addr) (cs : List Cd) : Es := [("row", rT (cs.map (rCo CC))), ("tables", rL (cs.map fun c => rCs (tabM c))), ("joined", rCo CC (joinM cs))]
structure WeP (cs : List Cd) : Prop where
  tr : TrOk cs
  ne : cs ≠ []
  z : cs.length ≤ 25
abbrev agWeb (CC : Addr) (cs : List Cd) : List Rp := [rL (cs.map (rCo CC))]
theorem mn_web (bi : BI mg) {C CC CR : Addr} (cf : WeF K C) (cc : CoF K CC) (cr : RuF K CR) (hg : mg "Web" = some (.ref C)) (F : InitAt K C "Web.__init__" s_Web_init []) (Fk : Dn P w K mg base "check_codes" 2 p_check_codes (c_checkCodes CC)) (Fc : Dn P w K mg base "check_code" 1 p_check_code (c_checkCode CC))
    (Fr : Md P w K mg base CC "rule" 7 p_Code_rule (c_rule CC CR)) (Fs : Md P w K mg base CR "settings" 2 p_Rule_settings (c_settings CR)) (Fa : Md P w K mg base CC "__add__" 7 p_Code_add (c_add CC)) : Mn P w K mg base "Web" 8 p_Web_init C (agWeb CC) WeP (weE CC) := by
  refine mn_mk F hg sc_Web_init (fun _ => rfl) (fun f fd F => F.bindsN fun _ _ _ _ _ _ us hl => match us, hl with | [_, _], _ => rfl) fun f cdv A outer s H E B D (g : List Cd × Addr × Addr) hr hz hF hP hD => ?_
  obtain ⟨cs, x, dx⟩ := g
  have hz : WeP cs := hz
  have t := hz.tr
  have h25 : cs.length ≤ 25 := hz.z
  have hpos : 0 < cs.length := List.length_pos_iff.mpr hz.ne
  have Fk := Fk.mono (show 2 ≤ 7 by decide)
  have Fc := Fc.mono (show 1 ≤ 7 by decide)
  have Fs := Fs.mono (show 2 ≤ 7 by decide)
  have hw : (B.F x ∨ B.H x = none) ∧ (B.F dx ∨ B.H dx = none) := ⟨.inl (by rw [hF]; exact .inl rfl), .inl (by rw [hF]; exact .inr rfl)⟩
  show Tr _ B [some (rV (.ref x)), some (rL (cs.map (rCo CC))), none, none, none, none, none, none, none] [cO x dx C []] _ D
  refine tr_drop (R := rN) (de_call (R := rN) Fk hr cs (da_cons (de_var 1) da_nil) ⟨hz.ne, by show cs.length ≤ 100; omega⟩ fun _ _ _ _ r => r) ?_
  refine tr_fld (C := C) (es := []) (S := fun _ => rT (cs.map (rCo CC))) 0 cf.cl cf.row (DE.xe (de_callTy cr_tuple bi.tuple (by decide +kernel) (da_cons (de_var 1) da_nil) (clv_tuple lv_l))) (fun _ _ => de_var 0) (fun _ _ => rfl) hw (Nat.zero_lt_succ _) fun _ _ => ?_
  show Tr _ B _ [cO x dx C [("row", rT (cs.map (rCo CC)))]] _ D
  refine tr_set (R := rL (([] : List (List Nm)).map rNs)) 2 sc_Web_init.nd (NE.de (ne_lst (Rs := []) da_nil (Nat.zero_le _))) ?_
  show Tr _ B [some (rV (.ref x)), some (rL (cs.map (rCo CC))), some (rL (([] : List (List Nm)).map rNs)), none, none, none, none, none, none] [cO x dx C [("row", rT (cs.map (rCo CC)))]] _ D
  refine tr_forP (S := List (List Nm)) (n := (cs.map (rCo CC)).length) (ra := fun i => rI (i : Nat)) (rb := fun i => (cs.map (rCo CC)).getD i rN) 3 4 PassesOwn.never sc_Web_init.nd (ip_enum bi.enumerate (de_fldC 0 cf.cl cf.row (de_var 0) rfl rfl) fun _ => sv_t) (fun ls => [some (rV (.ref x)), some (rL (cs.map (rCo CC))), some (rL (ls.map rNs)), none, none, none, none, none, none]) (fun _ => [cO x dx C [("row", rT (cs.map (rCo CC)))]]) (fun i ls => LuJ (cs.take i) ls) [] ⟨Nat.zero_le _, Nat.zero_le _, fun l h => (nomatch h)⟩ ⟨rfl, rfl, rfl, trivial⟩ rfl ?_ ?_
  · rintro P2 pm2 i ls hi hj D2 hn2 hrt2
    have hj : LuJ (cs.take i) ls := hj
    have hi : i < cs.length := by rwa [List.length_map] at hi
    have hci : cs[i]? = some cs[i] := List.getElem?_eq_getElem hi
    have hcm : cs[i] ∈ cs := List.getElem_mem hi
    rw [getD_map' hi]
    generalize cs[i] = c at hci hcm
    have q := t.each c hcm
    have hs3 := q.s3
    have hll : ls.length ≤ 25 := Nat.le_trans hj.len (by rw [List.length_take]; omega)
    have hlt : ls.flatten.length ≤ 75 := Nat.le_trans hj.tot (by rw [List.length_take]; omega)
    have hlf : ∀ l ∈ ls, l.length ≤ 75 := fun l hl => Nat.le_trans (List.Sublist.length_le (List.sublist_flatten_of_mem hl)) hlt
    have hnl : (ls.filter (near c)).length ≤ 25 := Nat.le_trans (List.length_filter_le _ _) hll
    show Tr _ _ [some (rV (.ref x)), some (rL (cs.map (rCo CC))), some (rL (ls.map rNs)), some (rI (i : Nat)), some (rCo CC c), none, none, none, none] [cO x dx C [("row", rT (cs.map (rCo CC)))]] _ D2
    refine tr_drop (R := rN) (de_call (R := rN) Fc hr (c, cs.take i) (da_cons (de_var 4) (da_cons (DE.is (de_slice sl_tupA (de_fldC 0 cf.cl cf.row (de_var 0) rfl rfl) do_none (do_some (de_var 3)) slv_tup) (congrArg rT (by rw [cutR_to, List.map_take]))) da_nil)) ⟨by show c.signs.length ≤ 6; omega, fun o ho h hh hm => ?_, fun o ho n hn hm => ?_, by show (cs.take i).length ≤ 100; rw [List.length_take]; omega⟩ fun _ _ _ _ r => r) ?_
    · have ho : o ∈ cs.take i := ho
      have hh : h ∈ c.helpers := hh
      rcases List.mem_append.mp hm with hm | hm
      · exact t.hdis h (c_helpers hcm hh) (c_signs (List.mem_of_mem_take ho) hm)
      · exact helpers_apart t hci h hh (c_helpers ho hm)
    · exact t.hdis n (c_helpers (List.mem_of_mem_take ho) hm) (c_signs hcm hn)
    refine tr_set (R := rL ((ls.filter (near c)).map rNs)) 5 sc_Web_init.nd (NE.de (ne_lcIf (α := List Nm) 7 sc_Web_init.nd ls rNs rNs (near c) (de_var 2) sv_l (by omega) (fun l hl _ _ _ _ _ => ?_) fun l hl hb _ _ _ _ _ => de_var 7)) ?_
    · refine dt_val (DE.is (de_callB (cr_any rfl) bi.any (by decide +kernel) (da_cons (NE.de (ne_lc (α := Nm) 6 sc_Web_init.nd c.signs rNm (fun n => rB (decide (n ∈ l))) (de_fld cc.cl cc.sr (de_var 4) rfl) sv_t (by omega) fun n hn _ _ _ _ _ => de_cmp op_in_seq (de_var 6) (de_var 7) (opv_inNm sv_l))) da_nil) (clv_any (bs := c.signs.map fun n => decide (n ∈ l)) (by rw [List.map_map]; exact lv_l))) (congrArg rB ?_))
      rw [List.any_map]; rfl
    show Tr _ _ [some (rV (.ref x)), some (rL (cs.map (rCo CC))), some (rL (ls.map rNs)), some (rI (i : Nat)), some (rCo CC c), some (rL ((ls.filter (near c)).map rNs)), none, none, none] [cO x dx C [("row", rT (cs.map (rCo CC)))]] _ D2
    refine tr_if (b := false) (dt_val (DE.is (de_callB (cr_any rfl) bi.any (by decide +kernel) (da_cons (NE.de (ne_lc (α := List Nm) 7 sc_Web_init.nd (ls.filter (near c)) rNs (fun _ => rB false) (de_var 5) sv_l (by omega) fun l hl _ _ _ _ _ => de_cmp op_gt (de_callB cr_len bi.len (by decide +kernel) (da_cons (NE.de (ne_lcIf (α := Nm) 6 sc_Web_init.nd c.signs rNm rNm (fun n => decide (n ∈ l)) (de_fld cc.cl cc.sr (de_var 4) rfl) sv_t (by omega) (fun n hn _ _ _ _ _ => dt_cmp op_in_seq (de_var 6) (de_var 7) (opv_inNm sv_l)) fun n hn hb _ _ _ _ _ => de_var 6)) da_nil) (clv_len sv_l)) de_int (leT (j := 1) ?_))) da_nil) (clv_any (bs := (ls.filter (near c)).map fun _ => false) (by rw [List.map_map]; exact lv_l))) (congrArg rB (any_false _)))) (fun h => by cases h) fun _ => tr_go ?_
    · rw [List.length_map]
      exact lump_one t hci hj (List.mem_filter.mp hl).1
    refine tr_ownLcIf (α := List Nm) 2 7 sc_Web_init.nd ls rNs rNs (fun l => !decide (l ∈ ls.filter (near c))) (de_var 2) sv_l (by omega) (fun l hl _ _ _ _ _ => dt_cmp (op_notInD (hu65 hr)) (de_var 7) (de_var 5) (opv_notInNs (rd_L fun l _ => rd_Ns l).m)) (fun l hl hb _ _ _ _ _ => de_var 7) fun a ha => ?_
    rw [lump_eq]
    show Tr _ _ [some (rV (.ref x)), some (rL (cs.map (rCo CC))), some (rV (.ref a)), some (rI (i : Nat)), some (rCo CC c), some (rL ((ls.filter (near c)).map rNs)), none, none, none] [cO x dx C [("row", rT (cs.map (rCo CC)))], cL a ((ls.filter fun l => !near c l).map rNs)] _ D2
    have hft : (ls.filter (near c)).flatten.length ≤ 75 := by
      have := flat_split (near c) ls
      omega
    refine tr_append (R := rNs ((ls.filter (near c)).flatten ++ c.signs)) 1 (de_var 2) (DE.is (NE.de (ne_op op_cat (NE.de (ne_lc2 (α := List Nm) (β := Nm) 7 8 sc_Web_init.nd (ls.filter (near c)) rNs (fun l => l) rNm (fun _ n => rNm n) rNs (de_var 5) sv_l (by rw [flat_rNm, List.length_map]; omega) (fun l hl _ _ _ _ _ => de_var 7) (fun l hl => sv_l) fun l hl n hn _ _ _ _ _ => de_var 8)) (NE.de (ne_callTy cr_list bi.list (by decide +kernel) (da_cons (de_fld cc.cl cc.sr (de_var 4) rfl) da_nil) (cln_list sv_t))) (opn_cat lv_l lv_l (by rw [flat_rNm, List.length_map, List.length_map]; omega)))) (by rw [flat_rNm, rNm_app])) rfl (.inr ha) (by rw [List.length_map]; exact Nat.lt_of_le_of_lt (Nat.le_trans (List.length_filter_le _ _) hll) (by decide)) ?_
    show Tr _ _ _ [cO x dx C [("row", rT (cs.map (rCo CC)))], cL a ((ls.filter fun l => !near c l).map rNs ++ [rNs ((ls.filter (near c)).flatten ++ c.signs)])] _ D2
    refine tr_pub 2 1 ha rfl rfl ?_
    refine tr_nil fun σ G H st => hn2 (lumpStep c ls) ?_ σ G H ?_
    · rw [take_succ' hci]; exact hj.step hs3
    · have e : (lumpStep c ls).map rNs = (ls.filter fun l => !near c l).map rNs ++ [rNs ((ls.filter (near c)).flatten ++ c.signs)] := by unfold lumpStep; rw [List.map_append]; rfl
      refine st.less ⟨rfl, rfl, ?_, trivial⟩
      rw [e]
  · intro ls _
    show Tr _ B [some (rV (.ref x)), some (rL (cs.map (rCo CC))), some (rL (ls.map rNs)), none, none, none, none, none, none] [cO x dx C [("row", rT (cs.map (rCo CC)))]] _ D
    refine tr_fld (C := C) (es := [("row", rT (cs.map (rCo CC)))]) (S := fun _ => rL (cs.map fun c => rCs (tabM c))) 0 cf.cl cf.tables (DE.xe (NE.de (ne_lc (α := Cd) 4 sc_Web_init.nd cs (rCo CC) (fun c => rCs (tabM c)) (de_fldC 0 cf.cl cf.row (de_var 0) rfl rfl) sv_t (by omega) fun c hc _ _ _ _ _ => DE.is (de_meth0 (C := CR) (es := ruE c.signs (onceC (tabM c))) cr.cl Fs hr (c.signs, onceC (tabM c)) rfl (de_meth0 (C := CC) (es := coE c) cc.cl Fr hr c rfl (de_var 4) rfl ⟨(t.each c hc).ok, Nat.le_trans (t.each c hc).s3 (by decide), (t.each c hc).h1⟩ fun _ _ _ _ r => r) rfl (Nat.le_trans (t.each c hc).s3 (by decide)) fun _ _ _ _ r => r) (congrArg rCs (tab_once c))))) (fun _ _ => de_var 0) (fun _ _ => rfl) hw (Nat.lt_of_le_of_lt (show _ ≤ 1 from Nat.le_of_ble_eq_true rfl) (by decide)) fun _ _ => ?_
    show Tr _ B _ [cO x dx C [("row", rT (cs.map (rCo CC))), ("tables", rL (cs.map fun c => rCs (tabM c)))]] _ D
    obtain ⟨c0, r, hcs⟩ : ∃ c0 r, cs = c0 :: r := by
      cases cs with
      | nil => simp at hpos
      | cons a b => exact ⟨a, b, rfl⟩
    have hj0 : joinT cs 0 = c0 := by rw [hcs]; rfl
    refine tr_fld (C := C) (es := [("row", rT (cs.map (rCo CC))), ("tables", rL (cs.map fun c => rCs (tabM c)))]) (S := fun _ => rCo CC (joinT cs 0)) 0 cf.cl cf.joined (DE.xe (de_ix ix_tup (de_fldC 0 cf.cl cf.row (de_var 0) rfl rfl) de_int (opv_ixT (atI_map (f := rCo CC) (k := 0) (by rw [hj0, hcs]; rfl))))) (fun _ _ => de_var 0) (fun _ _ => rfl) hw (Nat.lt_of_le_of_lt (show _ ≤ 2 from Nat.le_of_ble_eq_true rfl) (by decide)) fun _ _ => ?_
    show Tr _ B _ [cO x dx C [("row", rT (cs.map (rCo CC))), ("tables", rL (cs.map fun c => rCs (tabM c))), ("joined", rCo CC (joinT cs 0))]] _ D
    refine tr_for (S := Cd) (α := Cd) 4 PassesOwn.never sc_Web_init.nd (DE.is (de_slice sl_tupA (de_fldC 0 cf.cl cf.row (de_var 0) rfl rfl) (do_some de_int) do_none slv_tup) (congrArg rT ((cutR_from _ 1).trans (List.map_drop).symm))) (fun _ => [some (rV (.ref x)), some (rL (cs.map (rCo CC))), some (rL (ls.map rNs)), none, none, none, none, none, none]) (fun d => [cO x dx C [("row", rT (cs.map (rCo CC))), ("tables", rL (cs.map fun c => rCs (tabM c))), ("joined", rCo CC d)]]) (fun i d => d = joinT cs i) (joinT cs 0) (cs.drop 1) (rCo CC) sv_t rfl ⟨rfl, rfl, rfl, trivial⟩ rfl ?_ ?_
    · intro P2 pm i c d hi hJ D' hn hrt
      have hJ : d = joinT cs i := hJ
      have hi1 : cs[i + 1]? = some c := by
        rw [List.getElem?_drop, Nat.add_comm] at hi; exact hi
      have hlt : i + 1 < cs.length := (List.getElem?_eq_some_iff.mp hi1).1
      have ad := (jn_facts t h25 i (by omega)).2 c hi1
      rw [← hJ] at ad
      show Tr _ _ [some (rV (.ref x)), some (rL (cs.map (rCo CC))), some (rL (ls.map rNs)), none, some (rCo CC c), none, none, none, none] [cO x dx C [("row", rT (cs.map (rCo CC))), ("tables", rL (cs.map fun c => rCs (tabM c))), ("joined", rCo CC d)]] _ D'
      refine tr_fld (C := C) (es := [("row", rT (cs.map (rCo CC))), ("tables", rL (cs.map fun c => rCs (tabM c))), ("joined", rCo CC d)]) (S := fun _ => rCo CC (addM d c)) 0 cf.cl cf.joined (DE.xe (de_addOwn (C := CC) (es1 := coE d) (es2 := coE c) cc.cl Fa hr (d, c) rfl (de_fldC 0 cf.cl cf.joined (de_var 0) rfl rfl) (de_var 4) ad fun _ _ _ _ r => r)) (fun _ _ => de_var 0) (fun _ _ => rfl) hw (Nat.lt_of_le_of_lt (show _ ≤ 3 from Nat.le_of_ble_eq_true rfl) (by decide)) fun _ _ => ?_
      exact tr_nil fun σ G H st => hn (addM d c) (by rw [joinT_succ hi1, hJ]) σ G H (st.less ⟨rfl, rfl, rfl, trivial⟩)
    · intro d hJ
      have hJ : d = joinM cs := hJ
      subst hJ
      exact tr_nil fun σ G H st => hD.nx () _ _ σ G H trivial st st.mem rfl
end
end KL

/-! KForced -/
namespace KL
open PySem PySem.Spec PyProof.Rows L2 KM
section
variable {X : Cx} {B : Base} {ρ : Sl} {M : List Cell} {a b : Expr} {R : Rp} {pos : Pos}
theorem de_or {c : Bool} {rest : List Expr} (h : DE X B ρ M a (rB c)) (k : c = false → DE X B ρ M (.BoolOp .Or (b :: rest) pos) R) (k1 : c = true → R = rB true) : DE X B ρ M (.BoolOp .Or (a :: b :: rest) pos) R := fun σ G H s Q q =>
  sem_e (pe_or pe_sem pe_sem) (h σ G H s _ fun v G1 H1 g1 r1 => ⟨c, r1, by
    cases c with
    | false => exact iteF (k rfl σ G1 H1 (s.grow g1) Q fun v G2 H2 g2 r => q v G2 H2 (g1.trans g2) r)
    | true => exact iteT (q _ G1 H1 g1 (by rw [k1 rfl]; exact rfl))⟩)
end
noncomputable def tabOf (c : Cd) : Tab Nm := ⟨c.signs, tabM c⟩
noncomputable abbrev tabsOf (cs : List Cd) : List (Tab Nm) := cs.map tabOf
theorem mem_namesTab {cs : List Cd} {n : Nm} : n ∈ namesOf (tabsOf cs) ↔ n ∈ webNames cs := by
  rw [mem_namesOf, mem_webNames]
  constructor
  · rintro ⟨t, ht, hn⟩
    obtain ⟨c, hc, rfl⟩ := List.mem_map.mp ht
    exact ⟨c, hc, hn⟩
  · rintro ⟨c, hc, hn⟩
    exact ⟨tabOf c, List.mem_map.mpr ⟨c, hc, rfl⟩, hn⟩
theorem namesTab_len {cs : List Cd} (t : TrOk cs) : (namesOf (tabsOf cs)).length ≤ 3 * cs.length := by
  unfold KM.namesOf
  have := flat_le (m := 3) (f := Tab.S) (tabsOf cs) fun q hq => by
    obtain ⟨c, hc, rfl⟩ := List.mem_map.mp hq
    exact (t.each c hc).s3
  rwa [List.length_map] at this
theorem tab_full {c : Cd} : ∀ s ∈ tabM c, s.map Lt.nm = c.signs := fun s hs => mem_fulls.mp (List.mem_filter.mp hs).1
theorem joinM_facts {cs : List Cd} (w : TrOk cs) (ne : cs ≠ []) (z : cs.length ≤ 25) : (joinM cs).signs = webNames cs := by
  have hp : 0 < cs.length := List.length_pos_iff.mpr ne
  have := (jn_facts w z (cs.length - 1) (by omega)).1.s
  rw [show cs.length - 1 + 1 = cs.length by omega, List.take_length] at this
  unfold joinM
  rw [List.length_drop]
  exact this
structure FoG where
  cs : List Cd
  Rh : Rp
  half : Cl Nm
structure FoQ (g : FoG) : Prop where
  w : WeP g.cs
  sv : ∀ MP, SVp MP g.Rh (g.half.map rLt)
  nod : (g.half.map Lt.nm).Nodup
  sub : ∀ l ∈ g.half, l.nm ∈ webNames g.cs
def FoPost (g : FoG) (o : Option (Cl Nm)) : Prop := Told (tabsOf g.cs) g.half o ∧ ∀ td, o = some td → (td = (litsOf (webNames g.cs)).filter fun l => decide (l ∈ td)) ∧ ∀ l ∈ td, l ∉ g.half
noncomputable abbrev c_forced (C CC : Addr) : Ct := .any (γ := FoG) (α := Option (Cl Nm)) (fun g => [rO C (weE CC g.cs), g.Rh]) FoQ FoPost fun _ o => rOL o
theorem opv_neF {K : PySem.W.Frag} {M : List Cell} (f : Cl Nm) : Opv M (rL (f.map rLt)) (rL []) (rNeD K) (rB (!f.isEmpty)) := opv_neNil (df := dLt) (n := 0) (rd_L fun l _ => rd_lt l).m (fun l _ => sh_lt l) (by decide)
section
variable {P : Program} {w : World} {K : PySem.W.Frag} {mg : Str → Option Value} {base : Heap}
theorem md_forced (bi : BI mg) {C CC : Addr} (cf : WeF K C) (cc : CoF K CC) (F : MethAt K C "forced" "Web.forced" s_Web_forced) (Fk : Dn P w K mg base "check_setting" 4 p_check_setting c_checkSetting) (Fl : Dn P w K mg base "literals_of" 1 p_literals_of c_litsOf) (Ff : Dn P w K mg base "forced_literals" 1 p_forced_literals c_forcedL) : Md P w K mg base C "forced" 5 p_Web_forced (c_forced C CC) := by
  refine md_mk F sc_Web_forced (fun _ => rfl) (fun _ _ _ _ _ _ us hl => match us, hl with | [_, _], _ => rfl) fun f cdv A outer s H E B D (g : FoG) hr hz hF hP hD => ?_
  obtain ⟨cs, Rh, half⟩ := g
  have hz : FoQ ⟨cs, Rh, half⟩ := hz
  have hwp : WeP cs := hz.w
  have t := hwp.tr
  have h25 : cs.length ≤ 25 := hwp.z
  have hsv : ∀ MP, SVp MP Rh (half.map rLt) := hz.sv
  have hnod : (half.map Lt.nm).Nodup := hz.nod
  have hsub : ∀ l ∈ half, l.nm ∈ webNames cs := hz.sub
  have hjs := joinM_facts t hwp.ne h25
  have Fl := Fl.mono (show 1 ≤ 4 by decide)
  have Ff := Ff.mono (show 1 ≤ 4 by decide)
  have hN : (namesOf (tabsOf cs)).length ≤ 75 := Nat.le_trans (namesTab_len t) (by omega)
  have hwl : (webNames cs).length ≤ 75 := Nat.le_trans (webNames_len (m := 3) fun d hd => (t.each d hd).s3) (by omega)
  have k0 : Kn (tabsOf cs) half half := Kn.start hnod fun l hl => mem_namesTab.mpr (hsub l hl)
  have hlen : ∀ {L : Cl Nm}, Kn (tabsOf cs) half L → L.length ≤ 75 := fun k => Nat.le_trans (con_len k.nod k.con k.nms) hN
  have hhl : half.length ≤ 75 := hlen k0
  show Tr _ B [some (rO C (weE CC cs)), some Rh, none, none, none, none, none, none, none] [] _ D
  refine tr_drop (R := rN) (de_call (R := rN) Fk hr (FwG.mk Rh half (rT ((joinM cs).signs.map rNm)) (webNames cs)) (da_cons (de_var 1) (da_cons (de_fld cc.cl cc.sr (de_fld cf.cl cf.joined (de_var 0) rfl) rfl) da_nil)) ⟨hsv, fun _ => by rw [hjs]; exact sv_t, hsub, hnod, by show half.length ≤ 10000; omega⟩ fun _ _ _ _ r => r) ?_
  refine tr_unp (α := Addr × Unit) (R1 := fun z => rV (.ref z.1)) (R2 := fun _ => rB true) (M' := fun z => [cL z.1 (half.map rLt)]) (P := fun z => B.H z.1 = none ∧ True) 2 3 sc_Web_forced.nd (xe_tup (Rs := fun z : Addr × Unit => [rV (.ref z.1), rB true]) (xa_2 (Sb := fun _ _ => rB true) (M2 := fun a _ => [cL a (half.map rLt)]) (P2 := fun _ (_ : Unit) => True) (NE.xo (W := wL (half.map rLt)) (ne_callTy cr_list bi.list (by decide +kernel) (da_cons (de_var 1) da_nil) (cln_list (hsv _)))) (fun a ha => de_bl.xe)) fun _ => by simp) ?_
  rintro ⟨a, _⟩ ⟨ha, _⟩
  have ha : B.H a = none := ha
  show Tr _ B [some (rO C (weE CC cs)), some Rh, some (rV (.ref a)), some (rB true), none, none, none, none, none] [cL a (half.map rLt)] _ D
  refine tr_while (S := Cl Nm × Bool) PassesOwn.never (fun s => [some (rO C (weE CC cs)), some Rh, some (rV (.ref a)), some (rB s.2), none, none, none, none, none]) (fun s => [cL a (s.1.map rLt)]) (fun s => Kn (tabsOf cs) half s.1 ∧ (s.2 = false → ∀ c ∈ cs, forcedLits (tabM c) (restr s.1 c.signs) = some [])) (fun s => 2 * (75 - s.1.length) + if s.2 = true then 1 else 0) (fun s => s.2) (half, true) ⟨k0, fun h => by cases h⟩ ⟨rfl, rfl, rfl, rfl, trivial⟩ rfl ?_ ?_ ?_
  · rintro ⟨L, mv⟩ _
    exact dt_val (de_var 3)
  · rintro ⟨L0, mv⟩ ⟨k, hfix⟩ hb2 D' hn hrt
    have hb2 : mv = true := hb2
    subst hb2
    have k : Kn (tabsOf cs) half L0 := k
    have hl0 := hlen k
    refine tr_set (R := rB false) 3 sc_Web_forced.nd de_bl ?_
    show Tr _ B [some (rO C (weE CC cs)), some Rh, some (rV (.ref a)), some (rB false), none, none, none, none, none] [cL a (L0.map rLt)] _ D'
    refine tr_forP (S := Cl Nm × Bool) (n := (cs.map (rCo CC)).length) (ra := fun i => (cs.map (rCo CC)).getD i rN) (rb := fun i => (cs.map fun c => rCs (tabM c)).getD i rN) 4 5 PassesOwn.never sc_Web_forced.nd (ip_zip bi.zip (de_fld cf.cl cf.row (de_var 0) rfl) (de_fld cf.cl cf.tables (de_var 0) rfl) (by rw [List.length_map, List.length_map])) (fun s => [some (rO C (weE CC cs)), some Rh, some (rV (.ref a)), some (rB s.2), none, none, none, none, none]) (fun s => [cL a (s.1.map rLt)])
      (fun i s => Kn (tabsOf cs) half s.1 ∧ L0.length ≤ s.1.length ∧ (s.2 = true → L0.length < s.1.length) ∧ (s.2 = false → s.1 = L0 ∧ ∀ c ∈ cs.take i, forcedLits (tabM c) (restr L0 c.signs) = some [])) (L0, false) ⟨k, Nat.le_refl _, fun h => (by cases h), fun _ => ⟨rfl, fun c hc => (by cases hc)⟩⟩ ⟨rfl, rfl, rfl, rfl, trivial⟩ rfl ?_ ?_
    · rintro P2 pm2 i ⟨L, mv2⟩ hi ⟨k2, hle, hmv, hst⟩ D2 hn2 hrt2
      have k2 : Kn (tabsOf cs) half L := k2
      have hle : L0.length ≤ L.length := hle
      have hmv : mv2 = true → L0.length < L.length := hmv
      have hst : mv2 = false → L = L0 ∧ ∀ c ∈ cs.take i, forcedLits (tabM c) (restr L0 c.signs) = some [] := hst
      have hi : i < cs.length := by rwa [List.length_map] at hi
      have hci : cs[i]? = some cs[i] := List.getElem?_eq_getElem hi
      have hcm : cs[i] ∈ cs := List.getElem_mem hi
      have e1 : (cs.map (rCo CC)).getD i rN = rCo CC cs[i] := getD_map' hi
      have e2 : (cs.map fun c => rCs (tabM c)).getD i rN = rCs (tabM cs[i]) := getD_map' (f := fun c => rCs (tabM c)) hi
      rw [e1, e2]
      generalize cs[i] = c at hci hcm
      have q := t.each c hcm
      have hs3 := q.s3
      have hll := hlen k2
      have htl : (tabM c).length ≤ 256 := Nat.le_trans (List.length_filter_le _ _) (fulls_small (by omega))
      have hrl : (restr L c.signs).length ≤ 75 := Nat.le_trans (List.length_filter_le _ _) hll
      have hSn : c.signs.Nodup := (List.nodup_append.mp q.ok.nod).1
      have hre : (L.filter fun l => decide (l.nm ∈ c.signs)) = restr L c.signs := List.filter_congr fun l _ => dec_irrel _ _
      have htm : tabOf c ∈ tabsOf cs := List.mem_map.mpr ⟨c, hcm, rfl⟩
      show Tr _ _ [some (rO C (weE CC cs)), some Rh, some (rV (.ref a)), some (rB mv2), some (rCo CC c), some (rCs (tabM c)), none, none, none] [cL a (L.map rLt)] _ D2
      refine tr_set (R := rOL (forcedLits (tabM c) (restr L c.signs))) 6 sc_Web_forced.nd (de_call (R := rOL (forcedLits (tabM c) (restr L c.signs))) Ff hr (tabM c, restr L c.signs) (da_cons (de_var 5) (da_cons (DE.is (NE.de (ne_lcIf (α := Lit) 7 sc_Web_forced.nd L rLt rLt (fun l => decide (l.nm ∈ c.signs)) (de_var 2) (sv_m List.mem_cons_self) (by omega) (fun l hl _ _ _ _ _ => dt_cmp op_in_seq (de_var 7) (de_call (R := rL ((litsOf c.signs).map rLt)) Fl hr (rT (c.signs.map rNm), c.signs) (da_cons (de_fld cc.cl cc.sr (de_var 4) rfl) da_nil) ⟨fun _ => sv_t, by show c.signs.length ≤ 10000; omega⟩ fun _ _ _ _ r => r) ((opv_inLt sv_l).is (congrArg rB (by rw [Bool.eq_iff_iff, decide_eq_true_iff, decide_eq_true_iff, mem_litsOf])))) fun l hl hb _ _ _ _ _ => de_var 7)) (congrArg (fun z : Cl Nm => rL (z.map rLt)) hre)) da_nil)) ⟨by show (tabM c).length ≤ 1000; omega, by show (restr L c.signs).length ≤ 1000; omega, fun s hs => ?_⟩ fun _ _ _ _ r => r) ?_
      · have : s.length = c.signs.length := by rw [← tab_full s hs, List.length_map]
        omega
      cases hf : forcedLits (tabM c) (restr L c.signs) with
      | none =>
        refine tr_if (b := true) (dt_cmp op_isNo (Ra := rN) (de_var 6) de_non (opv_isN fun G v h => by have h : v = .non := h; simp [h])) (fun _ => ?_) (fun h => by cases h)
        refine tr_ret (R := rN) de_non fun v σ G H st r => ?_
        have e3 : D2.rt = D'.rt := hrt2
        rw [hrt2, hrt]
        exact hD.rt none v _ _ σ G H ⟨k2.dead htm hf, fun td h => by cases h⟩ ⟨st.mv, st.slots, st.mem, by rw [hP]; trivial⟩ .nil r
      | some f =>
        obtain ⟨s0, hs0, _, hmf, hef⟩ := forced_some hf
        have hfl : f.length ≤ 3 := by
          have h1 : f.length ≤ s0.length := by rw [hef]; exact List.length_filter_le _ _
          have h2 : s0.length = c.signs.length := by rw [← tab_full s0 hs0, List.length_map]
          omega
        refine tr_if (b := false) (dt_cmp op_isNo (Ra := rL (f.map rLt)) (de_var 6) de_non (opv_isN fun G v h => rOf_notN h)) (fun h => by cases h) fun _ => tr_go ?_
        show Tr _ _ [some (rO C (weE CC cs)), some Rh, some (rV (.ref a)), some (rB mv2), some (rCo CC c), some (rCs (tabM c)), some (rL (f.map rLt)), none, none] [cL a (L.map rLt)] _ D2
        refine tr_set (R := rB (mv2 || !f.isEmpty)) 3 sc_Web_forced.nd (de_or (c := mv2) (de_var 3) (fun hm => de_one (DE.is (de_cmp (op_neD hr.units) (de_var 6) (NE.de (ne_lst (Rs := []) da_nil (Nat.zero_le _))) (opv_neF f)) (by rw [hm]; rfl))) fun hm => by rw [hm]; rfl) ?_
        refine tr_extend 0 (de_var 2) (de_var 6) lv_l rfl (.inr ha) (by rw [List.length_map, List.length_map]; omega) ?_
        rw [← List.map_append]
        refine tr_nil fun σ G H st => hn2 (L ++ f, mv2 || !f.isEmpty) ⟨k2.step htm hSn tab_full hf, ?_, ?_, ?_⟩ σ G H (st.less ⟨rfl, rfl, rfl, rfl, trivial⟩)
        · show L0.length ≤ (L ++ f).length
          rw [List.length_append]; omega
        · intro hm
          show L0.length < (L ++ f).length
          rw [List.length_append]
          have hm : (mv2 || !f.isEmpty) = true := hm
          cases hmv2 : mv2 with
          | true => have := hmv hmv2; omega
          | false =>
            rw [hmv2] at hm
            cases f with
            | nil => cases hm
            | cons a b => rw [List.length_cons]; omega
        · intro hm
          have hm : (mv2 || !f.isEmpty) = false := hm
          rw [Bool.or_eq_false_iff] at hm
          obtain ⟨hm1, hm2⟩ := hm
          have hf0 : f = [] := by
            cases f with
            | nil => rfl
            | cons a b => cases hm2
          obtain ⟨h1, h2⟩ := hst hm1
          subst hf0
          refine ⟨by show L ++ [] = L0; rw [List.append_nil]; exact h1, fun d hd => ?_⟩
          rw [take_succ' hci] at hd
          rcases List.mem_append.mp hd with hd | hd
          · exact h2 d hd
          · have e : d = c := by simpa using hd
            rw [e, ← h1]; exact hf
    · rintro ⟨L, mv2⟩ ⟨k2, hle, hmv, hst⟩
      have k2 : Kn (tabsOf cs) half L := k2
      have hle : L0.length ≤ L.length := hle
      have hmv : mv2 = true → L0.length < L.length := hmv
      have hll := hlen k2
      refine tr_nil fun σ G H st => hn (L, mv2) ⟨k2, fun h => ?_⟩ ?_ σ G H (st.less ⟨rfl, rfl, rfl, rfl, trivial⟩)
      · obtain ⟨h1, h2⟩ := hst h
        rw [List.length_map, List.take_length] at h2
        have h1 : L = L0 := h1
        rw [h1]; exact h2
      · show 2 * (75 - L.length) + (if mv2 = true then 1 else 0) < 2 * (75 - L0.length) + 1
        cases hm2 : mv2 with
        | true => have := hmv hm2; simp; omega
        | false => simp; omega
  · rintro ⟨L, mv⟩ ⟨k, hfix⟩ hb2
    have hb2 : mv = false := hb2
    subst hb2
    have k : Kn (tabsOf cs) half L := k
    have hfix : ∀ c ∈ cs, forcedLits (tabM c) (restr L c.signs) = some [] := hfix rfl
    have hz2 : (litsOf (webNames cs)).length ≤ 150 := by rw [litsOf_len]; omega
    have key : ∀ l, l ∈ (litsOf (webNames cs)).filter (fun l => decide (l ∈ L) && !decide (l ∈ half)) ↔ l ∈ L ∧ l ∉ half := fun l => by
      rw [List.mem_filter, Bool.and_eq_true, decide_eq_true_iff, mem_litsOf]
      simp only [Bool.not_eq_true', decide_eq_false_iff_not]
      exact ⟨fun h => h.2, fun h => ⟨mem_namesTab.mp (k.nms l h.1), h⟩⟩
    refine tr_ret (R := rL (((litsOf (webNames cs)).filter fun l => decide (l ∈ L) && !decide (l ∈ half)).map rLt)) (NE.de (ne_lcIf (α := Lit) 8 sc_Web_forced.nd (litsOf (webNames cs)) rLt rLt (fun l => decide (l ∈ L) && !decide (l ∈ half)) (de_call (R := rL ((litsOf (webNames cs)).map rLt)) Fl hr (rT ((joinM cs).signs.map rNm), webNames cs) (da_cons (de_fld cc.cl cc.sr (de_fld cf.cl cf.joined (de_var 0) rfl) rfl) da_nil) ⟨fun _ => by rw [hjs]; exact sv_t, by show (webNames cs).length ≤ 10000; omega⟩ fun _ _ _ _ r => r) sv_l (by omega) (fun l hl _ _ _ _ _ => DW.dt (dw_and (dt_cmp op_in_seq (de_var 8) (de_var 2) (opv_inLt (sv_m List.mem_cons_self))) fun _ => dw_and1 (dt_cmp op_notIn_seq (de_var 8) (de_var 1) (opv_notInLt (hsv _))))) fun l hl hb _ _ _ _ _ => de_var 8)) fun v σ G H st r => ?_
    refine hD.rt (some ((litsOf (webNames cs)).filter fun l => decide (l ∈ L) && !decide (l ∈ half))) v _ _ σ G H ⟨⟨L, k, fun q hq => ?_, key⟩, fun td h => ?_⟩ st .nil r
    · obtain ⟨c, hc, rfl⟩ := List.mem_map.mp hq
      exact hfix c hc
    · cases h
      refine ⟨List.filter_congr fun l hl => ?_, fun l hl => ((key l).mp hl).2⟩
      rw [Bool.eq_iff_iff, decide_eq_true_iff, key, Bool.and_eq_true, decide_eq_true_iff]
      simp
end
end KL

/-! KLawM -/
/-! What the law's clauses and the package's tables have in common. -/
namespace KL
open PySem PySem.Spec PyProof.Rows L2 KM
/-! ### the law's clauses -/
def shortOf (c : Cd) : List (Cl Nm) := shortC c.signs (allowedM c.signs c.clauses c.helpers)
def lawStep (acc : List (Cl Nm)) (c : Cd) : List (Cl Nm) := acc ++ (shortOf c).filter fun d => !decide (d ∈ acc)
def lawCl (cs : List Cd) : List (Cl Nm) := cs.foldl lawStep []
theorem lawCl_snoc (cs : List Cd) (c : Cd) : lawCl (cs ++ [c]) = lawStep (lawCl cs) c := by unfold lawCl; rw [List.foldl_append]; rfl
theorem lawCl_ind {p : List Cd → List (Cl Nm) → Prop} (cs : List Cd) (h0 : p [] []) (hs : ∀ i c, cs[i]? = some c → p (cs.take i) (lawCl (cs.take i)) → p (cs.take i ++ [c]) (lawStep (lawCl (cs.take i)) c)) : p cs (lawCl cs) := by
  have : ∀ n, n ≤ cs.length → p (cs.take n) (lawCl (cs.take n)) := by
    intro n
    induction n with
    | zero => intro _; exact h0
    | succ n ih =>
      intro h
      have e : cs[n]? = some cs[n] := List.getElem?_eq_getElem (by omega)
      rw [take_succ' e, lawCl_snoc]
      exact hs n _ e (ih (by omega))
  have h := this cs.length (Nat.le_refl _)
  rwa [List.take_length] at h
theorem mem_lawStep {acc : List (Cl Nm)} {c : Cd} {d : Cl Nm} : d ∈ lawStep acc c ↔ d ∈ acc ∨ d ∈ shortOf c := by
  unfold lawStep
  rw [List.mem_append, List.mem_filter]
  by_cases h : d ∈ acc
  · simp [h]
  · simp [h]
theorem mem_lawCl {cs : List Cd} {d : Cl Nm} : d ∈ lawCl cs ↔ ∃ c ∈ cs, d ∈ shortOf c := by
  have := lawCl_ind (p := fun cs ys => ∀ d : Cl Nm, d ∈ ys ↔ ∃ c ∈ cs, d ∈ shortOf c) cs (fun d => ⟨fun h => (by cases h), fun ⟨c, hc, _⟩ => (by cases hc)⟩) fun i c hc ih d => by
    rw [mem_lawStep, ih]
    constructor
    · rintro (⟨e, he, h⟩ | h)
      · exact ⟨e, List.mem_append_left _ he, h⟩
      · exact ⟨c, List.mem_append_right _ (by simp), h⟩
    · rintro ⟨e, he, h⟩
      rcases List.mem_append.mp he with he | he
      · exact .inl ⟨e, he, h⟩
      · have : e = c := by simpa using he
        exact .inr (this ▸ h)
  exact this d
theorem lawCl_len {cs : List Cd} (h : ∀ c ∈ cs, c.signs.length ≤ 3) : (lawCl cs).length ≤ 343 * cs.length := by
  refine lawCl_ind (p := fun cs ys => ys.length ≤ 343 * cs.length) cs (Nat.le_refl _) fun i c hc ih => ?_
  have h3 := h c (List.mem_of_getElem? hc)
  unfold lawStep
  rw [List.length_append, List.length_append, List.length_singleton, Nat.mul_add]
  have h1 := List.length_filter_le (fun d => !decide (d ∈ lawCl (cs.take i))) (shortOf c)
  have h2 : (shortOf c).length ≤ 343 := shortC_len h3
  omega
theorem short_sub {c : Cd} (hn : c.signs.Nodup) {d : Cl Nm} (hd : d ∈ shortOf c) : (∀ l ∈ d, l.nm ∈ c.signs) ∧ d.length ≤ c.signs.length := by
  have h := shortC_sub hn hd
  refine ⟨fun l hl => h.subset (List.mem_map.mpr ⟨l, hl, rfl⟩), ?_⟩
  have := h.length_le
  rwa [List.length_map] at this
/-! ### allowed settings -/
theorem mods_coM {c : Cd} (h : CdOk c) (A : Asg Nm) : Mods (coM c).clauses A ↔ Mods c.clauses A := by
  have hm : ∀ d, d ∈ (coM c).clauses ↔ ∃ e ∈ c.clauses, upM e (c.signs ++ c.helpers) = d := fun d => by
    show d ∈ onceC _ ↔ _
    rw [mem_onceC, List.mem_map]
  constructor
  · intro hA e he
    obtain ⟨l, hl, ht⟩ := hA _ ((hm _).mpr ⟨e, he, rfl⟩)
    exact ⟨l, (mem_upM.mp hl).1, ht⟩
  · intro hA d hd
    obtain ⟨e, he, rfl⟩ := (hm d).mp hd
    obtain ⟨l, hl, ht⟩ := hA e he
    exact ⟨l, mem_upM.mpr ⟨hl, (h.cls e he).2 l hl⟩, ht⟩
theorem mem_allowed {S : List Nm} {cl : List (Cl Nm)} {Hs : List Nm} {s : Cl Nm} : s ∈ allowedM S cl Hs ↔ s.map Lt.nm = S ∧ ∃ t : Cl Nm, t.map Lt.nm = Hs ∧ ∀ d ∈ cl, ∃ l ∈ d, l ∈ s ++ t := by
  unfold allowedM fitsM
  rw [List.mem_filter, mem_fulls, List.any_eq_true]
  refine and_congr Iff.rfl ⟨fun ⟨t, h1, h2⟩ => ⟨t, mem_fulls.mp h1, fun d hd => meets_iff.mp (List.all_eq_true.mp h2 d hd)⟩, fun ⟨t, h1, h2⟩ => ⟨t, mem_fulls.mpr h1, List.all_eq_true.mpr fun d hd => meets_iff.mpr (h2 d hd)⟩⟩
theorem allowed_iff {c : Cd} (h : CdOk c) {s : Cl Nm} (hs : s.map Lt.nm = c.signs) : s ∈ allowedM c.signs c.clauses c.helpers ↔ ∃ A, Mods c.clauses A ∧ ag A s := by
  rw [mem_allowed]
  constructor
  · rintro ⟨_, t, ht, hd⟩
    have hc : Con (s ++ t) := con_of_nodup_nm (by rw [List.map_append, hs, ht]; exact h.nod)
    have ha := asgOf_ag hc
    refine ⟨asgOf (s ++ t), fun d hdm => ?_, fun l hl => ha l (List.mem_append_left _ hl)⟩
    obtain ⟨l, h1, h2⟩ := hd d hdm
    exact ⟨l, h1, ha l h2⟩
  · rintro ⟨A, hm, ha⟩
    refine ⟨hs, lits c.helpers A, lits_nm _ _, fun d hd => ?_⟩
    obtain ⟨l, hl, ht⟩ := hm d hd
    refine ⟨l, hl, ?_⟩
    rw [lits_of_ag hs ha]
    rcases List.mem_append.mp ((h.cls d hd).2 l hl) with q | q
    · exact List.mem_append_left _ (mem_lits.mpr ⟨q, ht⟩)
    · exact List.mem_append_right _ (mem_lits.mpr ⟨q, ht⟩)
theorem mem_tabM {c : Cd} {s : Cl Nm} : s ∈ tabM c ↔ s.map Lt.nm = c.signs ∧ ∃ A, Mods c.clauses A ∧ ag A s := by
  unfold tabM
  rw [List.mem_filter, mem_fulls]
  unfold okB
  simp
theorem tab_iff {c : Cd} (h : CdOk c) {s : Cl Nm} : s ∈ tabM (coM c) ↔ s ∈ allowedM c.signs c.clauses c.helpers := by
  rw [mem_tabM]
  constructor
  · rintro ⟨hs, A, h1, h2⟩
    exact (allowed_iff h hs).mpr ⟨A, (mods_coM h A).mp h1, h2⟩
  · intro hm
    have hs := (mem_allowed.mp hm).1
    obtain ⟨A, h1, h2⟩ := (allowed_iff h hs).mp hm
    exact ⟨hs, A, (mods_coM h A).mpr h1, h2⟩
theorem law_sol {cs : List Cd} (t : TrOk cs) (A : Asg Nm) : Mods (lawCl cs) A ↔ Sol (tabsOf (cs.map coM)) A := by
  have h1 : ∀ c ∈ cs, (Mods (shortOf c) A ↔ lits c.signs A ∈ tabM (coM c)) := fun c hc => by
    have q := (t.each c hc).ok
    rw [tab_iff q]
    exact shortC_says (List.nodup_append.mp q.nod).1 (fun s hs => (mem_allowed.mp hs).1) A
  constructor
  · intro hm q hq
    obtain ⟨d, hd, rfl⟩ := List.mem_map.mp hq
    obtain ⟨c, hc, rfl⟩ := List.mem_map.mp hd
    exact (h1 c hc).mp fun e he => hm e (mem_lawCl.mpr ⟨c, hc, he⟩)
  · intro hs d hd
    obtain ⟨c, hc, he⟩ := mem_lawCl.mp hd
    exact (h1 c hc).mpr (hs (tabOf (coM c)) (List.mem_map.mpr ⟨coM c, List.mem_map.mpr ⟨c, hc, rfl⟩, rfl⟩)) d he
/-! ### the tree -/
theorem tree_of {cs : List Cd} (t : TrOk cs) : ∀ (n : Nat) (prev : List Nm) (i : Nat), n = cs.length - i → i ≤ cs.length → (∀ x ∈ prev, x ∈ webNames (cs.take i)) → Tree prev (tabsOf (cs.drop i))
  | 0, prev, i, hn, hi, hp => by
    have : cs.drop i = [] := List.drop_of_length_le (by omega)
    rw [this]; trivial
  | n + 1, prev, i, hn, hi, hp => by
    have hlt : i < cs.length := by omega
    have hc : cs[i]? = some cs[i] := List.getElem?_eq_getElem hlt
    have e : cs.drop i = cs[i] :: cs.drop (i + 1) := (List.drop_eq_getElem_cons hlt)
    rw [e]
    refine ⟨fun x hx y hy h1 h2 => t.join i _ hc x hx y hy (hp x h1) (hp y h2), tree_of t n _ (i + 1) (by omega) (by omega) fun x hx => ?_⟩
    rw [take_succ' hc, mem_web_snoc]
    rcases List.mem_append.mp hx with hx | hx
    · exact .inl (hp x hx)
    · exact .inr hx
theorem tree_all {cs : List Cd} (t : TrOk cs) : Tree [] (tabsOf cs) := by
  have := tree_of t cs.length [] 0 (by omega) (Nat.zero_le _) fun x h => by cases h
  exact this
theorem tabs_ok {cs : List Cd} (t : TrOk cs) : ∀ q ∈ tabsOf cs, q.S.Nodup ∧ ∀ s ∈ q.T, s.map Lt.nm = q.S := fun q hq => by
  obtain ⟨c, hc, rfl⟩ := List.mem_map.mp hq
  exact ⟨(List.nodup_append.mp (t.each c hc).ok.nod).1, fun s hs => tab_full s hs⟩
/-! ### the ordered answer -/
theorem up_lits (ls : Cl Nm) (ns : List Nm) : upM ls ns = (litsOf ns).filter fun l => decide (l ∈ ls) := by
  unfold upM litsOf
  rw [List.filter_flatMap]
section
variable {cs : List Cd} (t : TrOk cs) {half : Cl Nm}
include t
theorem ans_none {full told : Option (Cl Nm)} (hs : Sought (lawCl cs) half full) (ht : Told (tabsOf (cs.map coM)) half told) : full = none ↔ told = none :=
  law_none (tree_all (tr_coM t)) (tabs_ok (tr_coM t)) (law_sol t) hs ht
theorem ans_has {L td : Cl Nm} (hs : Fnd (lawCl cs) half L) (ht : Told (tabsOf (cs.map coM)) half (some td)) : ∀ l ∈ td, l ∈ L :=
  law_has (tree_all (tr_coM t)) (tabs_ok (tr_coM t)) (law_sol t) hs ht
theorem ans_lit {td : Cl Nm} (ht : Told (tabsOf (cs.map coM)) half (some td)) {l : Lit} (hl : l.nm ∈ webNames cs) (hh : l ∉ half) {r : Option (Cl Nm)} (hs : Sought (lawCl cs) (half ++ [l.neg]) r) : l ∈ td ↔ r = none :=
  law_lit (tree_all (tr_coM t)) (tabs_ok (tr_coM t)) (law_sol t) ht (mem_namesTab.mpr (by rw [webNames_coM]; exact hl)) hh hs
end
/-! ### _law_made -/
section
variable {P : Program} {w : World} {K : PySem.W.Frag} {mg : Str → Option Value} {base : Heap}
abbrev c_made (C : Addr) : Ct := .fn (γ := Cd) (fun c => [rCd c]) CdSz fun c => rCo C (coM c)
theorem dn_l_made {C : Addr} (F : DefAt K mg "_law_made" s_l_made) (Fm : Mn P w K mg base "Code" 5 p_Code_init C agCode CiP flCode) : Dn P w K mg base "_law_made" 7 p_l_made (c_made C) := by
  refine dn_mk F sc_l_made (fun _ => rfl) (fun _ _ _ _ _ _ us hl => match us, hl with | [_], _ => rfl) fun f cdv A outer s H E B D (c : Cd) hr hz hF hP hD => ?_
  have hz : CdSz c := hz
  have h3 := hz.s3
  have h1 := hz.h1
  have hcz := hz.cz
  show Tr _ B [some (rCd c)] [] _ D
  refine tr_ret (R := rCo C (coM c)) (DE.is (ne_make Fm hr (CiG.mk (rL (c.signs.map rNm)) (rCs c.clauses) (rL (c.helpers.map rNm)) rC c) (da_cons (de_dget (hu_of hr) (de_var 0) dv_d de_str (cd_s c)) (da_cons (de_dget (hu_of hr) (de_var 0) dv_d de_str (cd_c c)) (da_cons (de_dget (hu_of hr) (de_var 0) dv_d de_str (cd_h c)) da_nil))) ⟨fun _ => sv_l, fun _ => sv_l, fun _ => sv_l, fun d _ _ => sv_t, hz.ok, by show c.signs.length ≤ 500; omega, by show c.helpers.length ≤ 500; omega, by show c.clauses.length ≤ 50000; omega⟩) rfl) fun v σ G H st r => hD.rt () v _ _ σ G H trivial st .nil r
end
end KL

/-! KLawR -/
/-! Further rules for the law's own def. -/
namespace KL
open PySem PySem.Spec PyProof.Rows L2 KM
section
variable {X : Cx} {B : Base} {ρ : Sl} {M : List Cell} {a b c d e hi elt iter : Expr} {es : List Expr} {R Ra Rb Rc Rd Rit : Rp} {W : Wp} {pos p p2 : Pos} {x : Str} {k : Nat} {ps : List Str}
theorem xo_lst {α : Type} {P : α → Prop} {Rs : α → List Rp} {M' : α → List Cell} (h : XA X B ρ M es P Rs M') (hz : ∀ z, (Rs z).length ≤ 100000) : XE X B ρ M (.List es pos) (fun q : α × Addr => P q.1 ∧ B.H q.2 = none) (fun q => rV (.ref q.2)) (fun q => M' q.1 ++ [cL q.2 (Rs q.1)]) := fun σ G H s Q q =>
  sem_e (pe_lst pa_sem) (h σ G H s _ fun z vs G1 H1 hp sg s1 r1 => ⟨small5 (r1.len ▸ hz z), fun D hD => by
    obtain ⟨g2, hg⟩ := new_grow (o := .lst vs) s1.sub hD
    exact q (z, D) _ _ _ ⟨hp, s1.none_of hD⟩ (sg.trans g2.gg) (own_new s1 g2 hg hD upd_same ⟨vs, rfl, r1⟩) rfl⟩)
theorem xa_e2 {ι : Type} {P : ι → Prop} {S : ι → Rp} {M1 : ι → List Cell} (ha : DE X B ρ M a Ra) (hb : XE X B ρ M b P S M1) (hc : ∀ z, P z → DE X B ρ (M1 z) c Rc) (hd : ∀ z, P z → DE X B ρ (M1 z) d Rd) (h1 : starEach [a, b, c, d] X.env = (false, eval a X.env) :: starEach [b, c, d] X.env := by rfl) (h2 : starEach [b, c, d] X.env = (false, eval b X.env) :: starEach [c, d] X.env := by rfl) (h3 : starEach [c, d] X.env = (false, eval c X.env) :: starEach [d] X.env := by rfl) (h4 : starEach [d] X.env = (false, eval d X.env) :: starEach [] X.env := by rfl) :
    XA X B ρ M [a, b, c, d] P (fun z => [Ra, S z, Rc, Rd]) M1 := fun σ G H s Q q =>
  sem_a (pa_cons pe_sem (pa_cons pe_sem (pa_cons pe_sem (pa_cons pe_sem pa_nil h4) h3) h2) h1) (ha σ G H s _ fun v1 G1 H1 g1 r1 => hb σ G1 H1 (s.grow g1) _ fun z v2 G2 H2 hp sg2 s2 r2 => hc z hp σ G2 H2 s2 _ fun v3 G3 H3 g3 r3 => hd z hp σ G3 H3 (s2.grow g3) _ fun v4 G4 H4 g4 r4 =>
    q z [v1, v2, v3, v4] G4 H4 hp (((g1.gg.trans sg2).trans g3.gg).trans g4.gg) ((s2.grow g3).grow g4) (.cons (Ra.mono ((sg2.trans g3.gg).trans g4.gg) r1) (.cons ((S z).mono (g3.gg.trans g4.gg) r2) (.cons (Rc.mono g4.gg r3) (.cons r4 .nil)))))
theorem xe_stX {γ α ι : Type} {st : γ → StS} {cost : γ → Nat} {args : γ → List Rp} {cells : γ → List Cell} {pre : γ → Prop} {post : γ → α → Prop} {res : γ → α → Rp} {gs : ι → γ} {P0 : ι → Prop} {M1 : ι → List Cell} {Rst : ι → List Cell} {pa : Addr} (F : Dn X.prog X.w X.K X.mg X.base x k ps (c_st st cost args cells pre post res)) (hr : Room k X.A) (ha : XA X B ρ M (e :: es) P0 (fun z => rV (.ref pa) :: args (gs z)) M1) (hpa : ∀ z, P0 z → (st (gs z)).p = pa)
    (hok : ∀ z, P0 z → StOk (st (gs z)) ∧ (st (gs z)).n + cost (gs z) ≤ 1000000 ∧ pre (gs z) ∧ StW B (st (gs z))) (hM : ∀ z, P0 z → (M1 z).Perm (stC (st (gs z)) ++ (cells (gs z) ++ Rst z)))
    (hg : Gl X x := by rfl) (hdb : (x == ("__debug__" : Str)) = false := by decide) (he : starEach (e :: es) X.env = (false, eval e X.env) :: starEach es X.env := by rfl) (hpl : (backTo pos (starEach es X.env)).any (·.1) = false := by rfl) :
    XE X B ρ M (.Call (.Name x p) (e :: es) [] pos) (fun q : ι × StS × α => P0 q.1 ∧ StNx (st (gs q.1)) q.2.1 (cost (gs q.1)) ∧ post (gs q.1) q.2.2) (fun q => res (gs q.1) q.2.2) (fun q => stC q.2.1 ++ (cells (gs q.1) ++ Rst q.1)) := fun σ G H s Q q => by
  obtain ⟨f, fd, F, hm, hk, hb⟩ := F.ex
  refine sem_e (pe_call (E := E0) F hr hg hm hk hb .nil pass0 pa_sem hdb he hpl) (ha σ G H s _ fun z vs G1 H1 pz sg1 s1' r1 => ?_)
  rw [List.append_nil]
  obtain ⟨ok, hn, hp, hw⟩ := hok z pz
  have s1 : Stt B ρ ((stC (st (gs z)) ++ cells (gs z)) ++ Rst z) σ G1 H1 := by rw [List.append_assoc]; exact s1'.perm (hM z pz)
  refine ⟨gs z, G1, s1.sub, by show All2 G1 (rV (.ref (st (gs z)).p) :: args (gs z)) vs; rw [hpa z pz]; exact r1, s1.mem.sub (List.sublist_append_left _ _), ⟨ok, hn, hp⟩, fun y v G' H' hy mv mm r => ?_⟩
  have hFt : ∀ a, (a = (st (gs z)).p ∨ a = (st (gs z)).p0) → feet (stC (st (gs z)) ++ cells (gs z)) a := fun a h => by
    rcases h with e | e
    · exact ⟨_, List.mem_append_left _ List.mem_cons_self, by rw [e]; simp [cOf]⟩
    · exact ⟨_, List.mem_append_left _ (List.mem_cons_of_mem _ List.mem_cons_self), by rw [e]; simp [cOf]⟩
  have mv' : Move (feet (stC (st (gs z)) ++ cells (gs z))) G1 H1 G' H' := ⟨mv.gg, mv.sub, fun a o n h => mv.keep a o (fun w => n (hFt a w)) h, mv.there, mv.new⟩
  have hW : ∀ a, (a = (st (gs z)).p ∨ a = (st (gs z)).p0) → B.F a ∨ B.H a = none := fun a h => by
    rcases h with e | e
    · rw [e]; exact hw.1
    · rw [e]; exact hw.2
  refine q (z, y) v G' H' ⟨pz, hy⟩ (sg1.trans mv.gg) ?_ r
  have := s1.mem.frame mv' mm (by rw [List.map_append, List.map_append, st_foot hy.1])
  rw [List.append_assoc] at this
  exact ⟨s1.mv.wider mv hW, s1.slots.mono mv.gg, this, B.pm mv.gg s1.pf⟩
theorem xe_sliceTo {α β : Type} {P : α → Prop} {P2 : α → β → Prop} {rs : α → List Rp} {n : α → β → Nat} {M1 : α → List Cell} {M2 : α → β → List Cell} (he : XE X B ρ M e P (fun z => rL (rs z)) M1) (hh : ∀ z, P z → XE X B ρ (M1 z) hi (P2 z) (fun y => rI (n z y : Nat)) (M2 z)) :
    XE X B ρ M (.Subscript e (.Slice none (some hi) none p2) pos) (fun q : α × β => P q.1 ∧ P2 q.1 q.2) (fun q => rL ((rs q.1).take (n q.1 q.2))) (fun q => M2 q.1 q.2) := fun σ G H s Q q =>
  sem_e (pe_slice sl_list pe_sem po_none (po_some pe_sem)) (he σ G H s _ fun z v G1 H1 hp sg1 s1 r1 => hh z hp σ G1 H1 s1 _ fun y u G2 H2 hp2 sg2 s2 r2 => ⟨(n z y : Nat), r2, by
    obtain ⟨a, o, rfl, ho, vs, rfl, t⟩ := (rL (rs z)).mono sg2 r1
    refine ⟨a, vs, rfl, SqL.of (s2.sub _ _ ho), fun D hD => ?_⟩
    obtain ⟨g3, hg⟩ := new_grow (o := .lst (cutV vs none (some (n z y : Nat)))) s2.sub hD
    have g4 := pub_grow g3 hg hD upd_same
    refine q (z, y) _ _ _ ⟨hp, hp2⟩ ((sg1.trans sg2).trans g4.gg) (s2.grow g4) ⟨D, _, rfl, upd_same, _, rfl, ?_⟩
    have := all2_cut t none (some (n z y : Nat))
    rw [cutR_to] at this
    exact this.mono g4.gg⟩)
/-- x = [.. for y in e if c], e with effects -/
theorem tr_lcIfX {α ι : Type} {rest : List Stmt} {D : Ends} {px py spos : Pos} {y : Str} {scope : Scope} {P : ι → Prop} {xs : ι → List α} {M' : ι → List Cell} {b : ι → α → Bool} (i j : Nat) (nd : X.N.Nodup) (rf f : α → Rp) (it : XE X B ρ M iter P (fun z => rL ((xs z).map rf)) M') (hz : ∀ z, P z → (xs z).length ≤ 100000)
    (ht : ∀ z, P z → ∀ x ∈ xs z, AllB X scope fun X' => DT X' B (ρ.set j (some (rf x))) (M' z) c (b z x)) (he : ∀ z, P z → ∀ x ∈ xs z, b z x = true → AllB X scope fun X' => DE X' B (ρ.set j (some (rf x))) (M' z) elt (f x)) (kk : ∀ z, P z → Tr X B (ρ.set i (some (rL (((xs z).filter (b z)).map f)))) (M' z) rest D) (ok : BlkOk X.N X.env.scope scope [(y, j)] := by exact blkOk_by (by kernel_rfl)) (hi : X.N[i]? = some x := by rfl) (hxl : X.env.scope.names.lookup x = some .local := by rfl)
    (hsw : swapsWith (.ListComp elt [⟨.Name y py, iter, [c], 0⟩] scope pos) (some (.Name x px)) spos.line X.env = pure true := by exact sw_true rfl rfl rfl (by kernel_rfl)) (hj : X.N[j]? = some y := by rfl)
    (hx : AllB X scope (fun X' => L2.Loc X'.env.scope y) := by first | exact fun _ _ _ _ _ => .inl rfl | exact fun _ _ _ _ _ => .inr rfl) (hf : AllB X scope (fun X' => X'.fn y = true ∨ X'.env.scope.names.lookup y = some .local) := by first | exact fun _ _ _ _ _ => .inl rfl | exact fun _ _ _ _ _ => .inr rfl)
    (hc : X.calm = true := by rfl) (hs : ∀ x, foldedSetIterable iter X.env x = pure x := by intro _; rfl) : Tr X B ρ M (.Assign [.Name x px] (.ListComp elt [⟨.Name y py, iter, [c], 0⟩] scope pos) spos :: rest) D := tr_sem fun σ G H s => by
  refine sem_s (ps_setLc (own := [(y, j)]) (g := gName j) (tt := blkT X scope c) (te := blkE X scope elt) hc nd hi hxl hsw (pi_seq pe_sem) ok (fun s H C cl fp => pg_name nd hj (hx s H C cl fp) (hf s H C cl fp)) (fun s H C cl fp => pts_one (pt_blk s H C cl fp)) (fun s H C cl fp => pe_blk s H C cl fp) hs) ?_
  refine it σ G H s _ fun z v G1 H1 hp sg s1 r1 => ?_
  refine show tLc (iSeq (fun _ H Q => Q v H)) (gName j) (blkT X scope c) (blkE X scope elt) [j] σ H1 (fun u H2 => SemSs X rest D (σ.set i (some u)) H2) from tlc_core (tl := fun _ H Q => Q v H) (xs z) rf (b z) f sv_l (hz z hp) s1 (fun Q q => q v G1 H1 (Grow.refl s1.sub) r1) (fun x hx σ2 G2 H2 s2 Q q s0 H0 C cl fp => ht z hp x hx s0 H0 C cl fp σ2 G2 H2 s2 Q q) (fun x hx hb σ2 G2 H2 s2 Q q s0 H0 C cl fp => he z hp x hx hb s0 H0 C cl fp σ2 G2 H2 s2 Q q) _ ?_
  exact fun D o G' H' g hg hh hD hw => by
    have g2 := pub_grow g hg hh hD
    have ss : Same G' (upd G' D o) := fun b u q => by rw [upd_ne (ne_of_none q hg)]; exact q
    exact kk z hp _ (upd G' D o) H' ((s1.grow g2).set ⟨D, o, rfl, upd_same, (wL _).mono ss hw⟩)
end
/-! ### the script -/
def rScr (K : PySem.W.Frag) (ns : List Int) : Rp := ⟨fun G v => ∃ a, v = .ref a ∧ SqL K G a (ns.map V.int), fun s ⟨a, e, h⟩ => ⟨a, e, Same.seq s h⟩⟩
theorem ints_all2 {G : Hp} : ∀ ns : List Int, All2 G (ns.map rI) (ns.map V.int)
  | [] => .nil
  | n :: r => .cons rfl (ints_all2 r)
theorem cln_scr {K : PySem.W.Frag} {M : List Cell} {ns : List Int} : ClN M [rScr K ns] (rListSq K) (wL (ns.map rI)) := fun xs G H s m hx Q q => by
  obtain ⟨v, rfl, a, rfl, hv⟩ := all2_1 hx
  refine ⟨a, _, rfl, .inl (Same.seq s hv), fun p hp => ?_⟩
  obtain ⟨g, hg⟩ := new_grow (o := .lst (ns.map V.int)) s hp
  exact q p _ _ _ g hg hp upd_same ⟨_, rfl, ints_all2 ns⟩
end KL

/-! KLaw -/
namespace KL
open PySem PySem.Spec PyProof.Rows L2 KM
section
variable {P : Program} {w : World} {K : PySem.W.Frag} {mg : Str → Option Value} {base : Heap}
abbrev c_law (K : PySem.W.Frag) : Ct := .fn (γ := List Int) (fun ns => [rScr K ns]) (fun ns => ns.length ≤ 63) fun _ => rB true
noncomputable abbrev lwS (K : PySem.W.Frag) (C CC : Addr) (ns : List Int) (p : Addr) (cs : List Cd) (pl : Option (Cl Nm)) (h f t : Option Rp) : Sl := [some (rScr K ns), some (rV (.ref p)), some (rL (cs.map rCd)), none, some (rO C (weE CC (cs.map coM))), some (rL ((webNames cs).map rNm)), some (rCs (lawCl cs)), none, some (rOL pl), none, h, f, t, none, none, none, none]
structure LwX (P : Program) (w : World) (K : PySem.W.Frag) (mg : Str → Option Value) (base : Heap) (C CC : Addr) : Prop where
  bi : BI mg
  draw : Dn P w K mg base "_law_draw" 78 p_l_draw c_draw
  tree : Dn P w K mg base "_law_tree" 78 p_l_tree c_tree
  mixed : Dn P w K mg base "_law_mixed" 78 p_l_mixed c_mixed
  neg : Dn P w K mg base "_law_neg" 78 p_l_neg c_neg
  names : Dn P w K mg base "_law_web_names" 78 p_l_web_names c_webNames
  made : Dn P w K mg base "_law_made" 78 p_l_made (c_made CC)
  short : Dn P w K mg base "_law_shortest" 78 p_l_shortest c_shortest
  allowed : Dn P w K mg base "_law_allowed" 78 p_l_allowed c_allowed
  found : Dn P w K mg base "_law_found" 78 p_l_found (c_found 75)
  within : Dn P w K mg base "_law_within" 78 p_l_within c_within
  up : Dn P w K mg base "_law_up" 78 p_l_up (c_up K)
  web : Mn P w K mg base "Web" 77 p_Web_init C (agWeb CC) WeP (weE CC)
  forced : Md P w K mg base C "forced" 78 p_Web_forced (c_forced C CC)
  cl : ClsF K C
theorem XE.exi {X : Cx} {B : Base} {ρ : Sl} {M : List Cell} {e : Expr} {α β : Type} {P : α → Prop} {S : α → Rp} {M' : α → List Cell} {P' : β → Prop} {S' : β → Rp} {N' : β → List Cell} (h : XE X B ρ M e P S M') (k : ∀ x, P x → ∃ y, P' y ∧ S x = S' y ∧ (M' x).Perm (N' y)) : XE X B ρ M e P' S' N' := fun σ G H s Q q => h σ G H s Q fun x v G' H' p sg st r => by
  obtain ⟨y, py, e1, e2⟩ := k x p
  exact q y v G' H' py sg (st.perm e2) (e1 ▸ r)
def plB (pl : Option (Cl Nm)) (n : Nm) : Bool := match pl with
  | none => true
  | some L => decide ((⟨true, n⟩ : Lit) ∈ L)
abbrev lwB : List Stmt := forBody ((defBody s_law).getD 6 (.Pass ⟨0, 0, 0, 0⟩))
theorem fn_law {C CC f : Addr} {fd : FuncData} (F : FunD K "law" "law" (defArgs s_law) (defBody s_law) (defScope s_law) [] [] f fd) (L : LwX P w K mg base C CC) : FnOk P w K mg base CX0 79 f fd p_law (c_law K).sp := by
  have bi := L.bi
  refine fn_tr F sc_law (fun _ => rfl) fun cdv A outer s H E hr (ns : List Int) hz B D hF hP hD => ?_
  have hns : ns.length ≤ 63 := hz
  show Tr _ B [some (rScr K ns), none, none, none, none, none, none, none, none, none, none, none, none, none, none, none, none] [] _ D
  refine tr_setX 1 sc_law.nd (xo_lst (xa_own1 (W := wL (ns.map rI)) (ne_callTy cr_list bi.list (by decide +kernel) (da_cons (de_var 0) da_nil) cln_scr) (fun a ha => da_cons de_int (da_cons de_int (da_cons de_int da_nil)))) fun _ => by simp) ?_
  rintro ⟨p0, p⟩ ⟨h0, h1⟩
  have h0 : B.H p0 = none := h0
  have h1 : B.H p = none := h1
  refine Tr.perm (M' := stC ⟨p, p0, ns, 0, 0, 0⟩) ?_ (List.Perm.swap _ _ _)
  have ok0 : StOk ⟨p, p0, ns, 0, 0, 0⟩ := ⟨(show (0 : Int) ≤ 0 by decide), (show (0 : Int) ≤ 0 by decide), (show (0 : Int) < 2147483648 by decide), by show ns.length ≤ 100; omega⟩
  have hw0 : StW B ⟨p, p0, ns, 0, 0, 0⟩ := ⟨.inr h1, .inr h0⟩
  generalize hs0 : (⟨p, p0, ns, 0, 0, 0⟩ : StS) = s0 at ok0 hw0
  have hp0 : s0.p = p := by rw [← hs0]
  have hn0 : s0.n = 0 := by rw [← hs0]
  subst hp0
  show Tr _ B [some (rScr K ns), some (rV (.ref s0.p)), none, none, none, none, none, none, none, none, none, none, none, none, none, none, none] (stC s0) _ D
  refine tr_setX 2 sc_law.nd (xe_stX (ι := StS × Nat) (gs := fun z => (z.1, 8 + z.2)) (P0 := fun z => StNx s0 z.1 1 ∧ z.2 < 17) (M1 := fun z => stC z.1 ++ []) (Rst := fun _ => []) (pa := s0.p) L.tree hr (xa_e2 (S := fun z => rI ((8 + z.2 : Nat) : Int)) (de_var 1) (XE.to (xe_op op_add de_int.xe (fun _ _ => xe_draw (s := s0) (m := 17) (Rst := []) L.draw hr (de_var 1) de_int (by decide) (by decide) ok0 (by omega) hw0 (by rw [List.append_nil])) (fun z y _ _ => opv_II0)) (fun q : Unit × StS × Nat => (q.2.1, q.2.2)) (fun q h => h.2) (fun q _ => by simp) fun _ _ => List.Perm.refl _) (fun _ _ => de_int) fun _ _ => de_int) (fun z hz => hz.1.p) (fun z hz => ⟨hz.1.ok, ?_, ?_, hw0.nx hz.1⟩) fun z _ => List.Perm.refl _) ?_
  · have := hz.1.n
    have h17 : z.2 < 17 := hz.2
    show z.1.n + 500 * (8 + z.2) ≤ 1000000
    omega
  · have h17 : z.2 < 17 := hz.2
    show 8 + z.2 ≤ 25
    omega
  rintro ⟨⟨s1, k⟩, s2, cs⟩ ⟨⟨nx1, hk⟩, nx2, tr, hcl⟩
  have nx1 : StNx s0 s1 1 := nx1
  have nx2 : StNx s1 s2 (500 * (8 + k)) := nx2
  have hk : k < 17 := hk
  have tr : TrOk cs := tr
  have hcl : cs.length = 8 + k := hcl
  have nx : StNx s0 s2 13000 := (nx1.trans nx2).mono (by omega)
  have hc25 : cs.length ≤ 25 := by omega
  have hne : cs ≠ [] := fun e => by rw [e] at hcl; simp at hcl; omega
  have hw2 := hw0.nx nx
  have hwl : (webNames cs).length ≤ 75 := Nat.le_trans (webNames_len (m := 3) fun d hd => (tr.each d hd).s3) (by omega)
  have hnn := nx.n
  have ok2 := nx.ok
  have hpp : s2.p = s0.p := nx.p
  have hwp : WeP (cs.map coM) := ⟨tr_coM tr, fun e => hne (List.map_eq_nil_iff.mp e), by rw [List.length_map]; exact hc25⟩
  clear nx1 nx2
  rw [← hpp]
  show Tr _ B [some (rScr K ns), some (rV (.ref s2.p)), some (rL (cs.map rCd)), none, none, none, none, none, none, none, none, none, none, none, none, none, none] (stC s2) _ D
  refine tr_par2 (Sa := fun (_ : Unit) => rO C (weE CC (cs.map coM))) (Sb := fun _ (_ : Unit) => rL ((webNames cs).map rNm)) (M2 := fun _ _ => stC s2) 4 5 sc_law.nd (DE.xe (DE.is (ne_make L.web hr (cs.map coM) (da_cons (DE.is (NE.de (ne_lc (α := Cd) 3 sc_law.nd cs rCd (fun c => rCo CC (coM c)) (de_var 2) sv_l (by omega) fun c hc _ _ _ _ _ => de_call (R := rCo CC (coM c)) L.made hr c (da_cons (de_var 3) da_nil) (tr.each c hc) fun _ _ _ _ r => r)) (congrArg rL (by rw [List.map_map]; rfl))) da_nil) hwp) rfl)) (fun _ _ => DE.xe (de_call (R := rL ((webNames cs).map rNm)) L.names hr (rL (cs.map rCd), [], cs) (da_cons (de_var 2) da_nil) ⟨sv_l, by show cs.length ≤ 100; omega, fun c hc => (tr.each c hc).s3⟩ fun _ _ _ _ r => r)) ?_
  intro _ _ _ _
  show Tr _ B [some (rScr K ns), some (rV (.ref s2.p)), some (rL (cs.map rCd)), none, some (rO C (weE CC (cs.map coM))), some (rL ((webNames cs).map rNm)), none, none, none, none, none, none, none, none, none, none, none] (stC s2) _ D
  refine tr_own 6 sc_law.nd (ne_lst (Rs := []) da_nil (Nat.zero_le _)) fun a ha => ?_
  show Tr _ B [some (rScr K ns), some (rV (.ref s2.p)), some (rL (cs.map rCd)), none, some (rO C (weE CC (cs.map coM))), some (rL ((webNames cs).map rNm)), some (rV (.ref a)), none, none, none, none, none, none, none, none, none, none] (stC s2 ++ [cL a []]) _ D
  refine tr_for (S := List (Cl Nm)) (α := Cd) 3 PassesOwn.never sc_law.nd (de_var 2) (fun _ => [some (rScr K ns), some (rV (.ref s2.p)), some (rL (cs.map rCd)), none, some (rO C (weE CC (cs.map coM))), some (rL ((webNames cs).map rNm)), some (rV (.ref a)), none, none, none, none, none, none, none, none, none, none]) (fun acc => stC s2 ++ [cL a (acc.map rC)]) (fun i acc => acc = lawCl (cs.take i)) [] cs rCd sv_l rfl ⟨rfl, rfl, rfl, rfl, rfl, rfl, trivial⟩ rfl ?_ ?_
  · intro P2 pm i c acc hi hJ D' hn hrt
    have hJ : acc = lawCl (cs.take i) := hJ
    have hcm : c ∈ cs := List.mem_of_getElem? hi
    have q := tr.each c hcm
    have hs3 := q.s3
    have hh1 := q.h1
    have hcz := q.cz
    have hnd := q.ok.nod
    have hfs := fulls_small (ns := c.signs) (by omega)
    have haz : (allowedM c.signs c.clauses c.helpers).length ≤ 256 := Nat.le_trans (List.length_filter_le _ _) hfs
    have hsz : (shortOf c).length ≤ 343 := shortC_len hs3
    have hacc : acc.length ≤ 343 * 25 := by
      rw [hJ]
      refine Nat.le_trans (lawCl_len fun d hd => (tr.each d (List.mem_of_mem_take hd)).s3) (Nat.mul_le_mul_left _ ?_)
      rw [List.length_take]; omega
    refine tr_set (R := rCs (shortOf c)) 7 sc_law.nd (de_call (R := rCs (shortOf c)) L.short hr (c.signs, allowedM c.signs c.clauses c.helpers) (da_cons (de_dget (hu_of hr) (de_var 3) dv_d de_str (cd_s c)) (da_cons (de_call (R := rCs (allowedM c.signs c.clauses c.helpers)) L.allowed hr (c.signs, c.clauses, c.helpers) (da_cons (de_dget (hu_of hr) (de_var 3) dv_d de_str (cd_s c)) (da_cons (de_dget (hu_of hr) (de_var 3) dv_d de_str (cd_c c)) (da_cons (de_dget (hu_of hr) (de_var 3) dv_d de_str (cd_h c)) da_nil))) ⟨by show c.signs.length ≤ 8; omega, by show c.helpers.length ≤ 8; omega, by show c.clauses.length ≤ 10000; omega, fun d hd => ?_⟩ fun _ _ _ _ r => r) da_nil)) ⟨hs3, by show (allowedM c.signs c.clauses c.helpers).length ≤ 10000; omega, fun t ht => ?_⟩ fun _ _ _ _ r => r) ?_
    · have h1 : d.length ≤ (c.signs ++ c.helpers).length := (q.ok.cls d hd).len
      rw [List.length_append] at h1
      omega
    · have : t.length = c.signs.length := by rw [← (mem_allowed.mp ht).1, List.length_map]
      omega
    show Tr _ _ [some (rScr K ns), some (rV (.ref s2.p)), some (rL (cs.map rCd)), some (rCd c), some (rO C (weE CC (cs.map coM))), some (rL ((webNames cs).map rNm)), some (rV (.ref a)), some (rCs (shortOf c)), none, none, none, none, none, none, none, none, none] (stC s2 ++ [cL a (acc.map rC)]) _ D'
    refine tr_extend (ss := ((shortOf c).filter fun d => !decide (d ∈ acc)).map rC) 2 (de_var 6) (NE.de (ne_lcIf (α := Cl Nm) 16 sc_law.nd (shortOf c) rC rC (fun d => !decide (d ∈ acc)) (de_var 7) sv_l (by omega) (fun d hd _ _ _ _ _ => dt_cmp (op_notInD (hu65 hr)) (de_var 16) (de_var 6) (opv_notInC (rd_c (List.mem_append_right _ List.mem_cons_self) fun d _ => rd_C d))) fun d hd hb _ _ _ _ _ => de_var 16)) lv_l rfl (.inr ha) ?_ ?_
    · rw [List.length_map, List.length_map]
      have := List.length_filter_le (fun d => !decide (d ∈ acc)) (shortOf c)
      omega
    · rw [← List.map_append]
      refine tr_nil fun σ G H st => hn (lawStep acc c) ?_ σ G H (st.less ⟨rfl, rfl, rfl, rfl, rfl, rfl, trivial⟩)
      rw [hJ, take_succ' hi, lawCl_snoc]
  intro acc hJ
  have hJ : acc = lawCl (cs.take cs.length) := hJ
  rw [List.take_length] at hJ
  subst hJ
  refine tr_pub 6 2 ha rfl rfl ?_
  have hlz : (lawCl cs).length ≤ 343 * 25 := Nat.le_trans (lawCl_len fun d hd => (tr.each d hd).s3) (Nat.mul_le_mul_left _ hc25)
  have hcn : ∀ d ∈ lawCl cs, ∀ l ∈ d, l.nm ∈ webNames cs := fun d hd l hl => by
    obtain ⟨c, hc, he⟩ := mem_lawCl.mp hd
    exact c_signs hc ((short_sub (List.nodup_append.mp (tr.each c hc).ok.nod).1 he).1 l hl)
  have hcl3 : ∀ d ∈ lawCl cs, d.length ≤ 1000 := fun d hd => by
    obtain ⟨c, hc, he⟩ := mem_lawCl.mp hd
    have h1 := (short_sub (List.nodup_append.mp (tr.each c hc).ok.nod).1 he).2
    have h2 := (tr.each c hc).s3
    omega
  have fop : ∀ half : Cl Nm, (half.map Lt.nm).Nodup → (∀ l ∈ half, l.nm ∈ webNames cs) → FoP 75 (lawCl cs, half, webNames cs) := fun half h1 h2 => ⟨con_of_nodup_nm h1, (List.pairwise_map.mp h1).imp fun {a b} n e => n (by rw [e]), h2, hcn, by show (webNames cs).length ≤ 1000; omega, hcl3, by show (webNames cs).length ≤ half.length + 75; omega⟩
  show Tr _ B [some (rScr K ns), some (rV (.ref s2.p)), some (rL (cs.map rCd)), none, some (rO C (weE CC (cs.map coM))), some (rL ((webNames cs).map rNm)), some (rCs (lawCl cs)), none, none, none, none, none, none, none, none, none, none] (stC s2) _ D
  refine tr_setX 8 sc_law.nd (xe_callR (c := c_found 75) (g := (lawCl cs, [], webNames cs)) L.found hr (da_cons (de_var 6) (da_cons (NE.de (ne_lst (Rs := []) da_nil (Nat.zero_le _))) da_nil)) (fop [] List.nodup_nil fun l h => by cases h)) ?_
  intro pl hpl
  show Tr _ B (lwS K C CC ns s2.p cs pl none none none) (stC s2) _ D
  refine tr_range (α := Unit) (T := StS) (n := fun _ => 2) 9 sc_law.nd bi.range (DE.xe (R := rI ((2 : Nat) : Int)) de_int) (fun _ _ => by decide) (fun _ _ => lwS K C CC ns s2.p cs pl none none none) (fun _ s => stC s) (fun _ i s => StNx s2 s (200 * i)) (fun _ => s2) (fun _ _ => StNx.refl ok2) (fun _ _ => ⟨rfl, rfl, rfl, rfl, rfl, rfl, rfl, trivial⟩) (fun _ _ => rfl) ?_ ?_
  · rintro _ i s3 _ hi nx3 D2 hn2 hrt2
    have hi : i < 2 := hi
    have nx3 : StNx s2 s3 (200 * i) := nx3
    have nn3 := nx3.n
    have hw3 := hw2.nx nx3
    have hp3 : s3.p = s2.p := nx3.p
    refine Tr.less (ρ' := lwS K C CC ns s2.p cs pl none none none) ?_ ⟨rfl, rfl, rfl, rfl, rfl, rfl, rfl, trivial⟩
    refine tr_setX (α := (StS × List Rp) × (StS × Nat)) (S := fun z => rL (z.1.2.take z.2.2)) (M' := fun z => stC z.2.1 ++ []) (P := fun z => (StNx s3 z.1.1 ((webNames cs).map rNm).length ∧ z.1.2.Perm ((webNames cs).map rNm)) ∧ (StNx z.1.1 z.2.1 1 ∧ z.2.2 < 8)) 10 sc_law.nd (xe_sliceTo (P := fun z : StS × List Rp => StNx s3 z.1 ((webNames cs).map rNm).length ∧ z.2.Perm ((webNames cs).map rNm)) (rs := fun z : StS × List Rp => z.2) (M1 := fun z : StS × List Rp => stC z.1 ++ []) (n := fun (_ : StS × List Rp) (y : StS × Nat) => y.2) (xe_mixed (s := s3) (rs := (webNames cs).map rNm) (Rst := []) L.mixed hr (by rw [hp3]; exact de_var 1) (de_var 5) (fun _ => sv_l) (by rw [List.length_map]; omega) nx3.ok (by rw [List.length_map]; omega) hw3 (by rw [List.append_nil])) fun z hz => xe_draw (s := z.1) (m := 8) (Rst := []) L.draw hr (by rw [hz.1.p, hp3]; exact de_var 1) de_int (by decide) (by decide) hz.1.ok (by have h1 := hz.1.n; rw [List.length_map] at h1; omega) (hw3.nx hz.1) (List.Perm.refl _)) ?_
    rintro ⟨⟨sa, ys⟩, s4, k4⟩ ⟨⟨nxa, hys⟩, nxb, hk4⟩
    have nxa : StNx s3 sa ((webNames cs).map rNm).length := nxa
    have nxb : StNx sa s4 1 := nxb
    have hys : ys.Perm ((webNames cs).map rNm) := hys
    obtain ⟨zs, hzs, rfl⟩ := perm_map_inv hys
    have nx4 : StNx s3 s4 76 := (nxa.trans nxb).mono (by rw [List.length_map]; omega)
    have hnw : (webNames cs).Nodup := webNames_nodup fun c hc => (List.nodup_append.mp (tr.each c hc).ok.nod).1
    have hzn : zs.Nodup := hzs.nodup_iff.mpr hnw
    have hhn : (zs.take k4).Nodup := hzn.sublist (List.take_sublist _ _)
    have hhs : ∀ n ∈ zs.take k4, n ∈ webNames cs := fun n hn => hzs.subset (List.mem_of_mem_take hn)
    have hhl : (zs.take k4).length ≤ 75 := by
      have h1 : (zs.take k4).length ≤ zs.length := by rw [List.length_take]; omega
      have h2 := hzs.length_eq
      omega
    show Tr _ B (lwS K C CC ns s2.p cs pl (some (rL ((zs.map rNm).take k4))) none none) (stC s4 ++ []) _ D2
    rw [List.append_nil, ← List.map_take]
    generalize zs.take k4 = hl at hhn hhs hhl
    clear nxa nxb hys hzs hzn
    refine tr_own 10 sc_law.nd (ne_lc (α := Nm) 16 sc_law.nd hl rNm (fun n => rLt ⟨plB pl n, n⟩) (de_var 10) sv_l (by omega) fun n hn _ _ _ _ _ => ?_) fun b hb => ?_
    · have h9 := ltS_len ⟨true, n⟩
      have h9 : (ltS ⟨true, n⟩).length ≤ 9 := h9
      refine de_ifE (d := plB pl n) ?_ (fun hp => DE.is (de_var 16) ?_) fun hp => DE.is (de_op op_addStr de_str (de_var 16) (opv_addS ?_)) ?_
      · cases pl with
        | none => exact DW.dt (dw_or (c := true) (d := false) (dt_cmp op_isNo (Ra := rN) (de_var 8) de_non (opv_isN fun G v h => by have h : v = .non := h; simp [h])) fun h => by cases h)
        | some Lp => exact DW.dt (dw_or (c := false) (d := decide ((⟨true, n⟩ : Lit) ∈ Lp)) (dt_cmp op_isNo (Ra := rL (Lp.map rLt)) (de_var 8) de_non (opv_isN fun G v h => rOf_notN h)) fun _ => dw_or1 (dt_cmp op_in_seq (Ra := rLt ⟨true, n⟩) (de_var 16) (de_var 8) (opv_inLt sv_l)))
      · rw [hp]; rfl
      · show (1 : Nat) + (ltS ⟨true, n⟩).length ≤ 100000
        omega
      · rw [hp]; rfl
    have hM : ((hl.map fun n => rLt ⟨plB pl n, n⟩) : List Rp) = ((hl.map fun n => (⟨plB pl n, n⟩ : Lit)).map rLt) := by rw [List.map_map]; rfl
    rw [hM]
    have hnm : (hl.map fun n => (⟨plB pl n, n⟩ : Lit)).map Lt.nm = hl := by rw [List.map_map]; exact List.map_id' hl
    generalize (hl.map fun n => (⟨plB pl n, n⟩ : Lit)) = half0 at hnm
    subst hnm
    show Tr _ B (lwS K C CC ns s2.p cs pl (some (rV (.ref b))) none none) (stC s4 ++ [cL b (half0.map rLt)]) _ D2
    have rest : ∀ (s5 : StS) (half : Cl Nm), StNx s3 s5 77 → (half.map Lt.nm).Nodup → (∀ l ∈ half, l.nm ∈ webNames cs) → half.length ≤ 75 → Tr (KX P w K mg base n_law "law" (defScope s_law) f cdv (A := A) outer s H E) B (lwS K C CC ns s2.p cs pl (some (rV (.ref b))) none none) (stC s5 ++ [cL b (half.map rLt)]) (lwB.drop 3) D2 := by
      intro s5 half nx5 hnd hsb hz75
      have hw5 := hw3.nx nx5
      have nn5 := nx5.n
      have hp5 : s5.p = s2.p := nx5.p.trans hp3
      have hnames : ∀ l ∈ half, l.nm ∈ webNames (cs.map coM) := fun l hl => by rw [webNames_coM]; exact hsb l hl
      refine tr_pub 10 2 hb rfl rfl ?_
      show Tr _ B (lwS K C CC ns s2.p cs pl (some (rL (half.map rLt))) none none) (stC s5) _ D2
      refine tr_par2 (Sa := fun o : Option (Cl Nm) => rOL o) (P := fun o => Sought (lawCl cs) half o) (M1 := fun _ => stC s5) (Sb := fun _ (o : Option (Cl Nm)) => rOL o) (P2 := fun _ o => FoPost ⟨cs.map coM, rL (half.map rLt), half⟩ o) (M2 := fun _ _ => stC s5) 11 12 sc_law.nd (xe_callR (c := c_found 75) (g := (lawCl cs, half, webNames cs)) L.found hr (da_cons (de_var 6) (da_cons (de_var 10) da_nil)) (fop half hnd hsb)) (fun o _ => xe_meth (c := c_forced C CC) (g := FoG.mk (cs.map coM) (rL (half.map rLt)) half) (es := weE CC (cs.map coM)) L.cl L.forced hr rfl (de_var 4) (da_cons (de_var 10) da_nil) rfl ⟨hwp, fun _ => sv_l, hnd, hnames⟩) ?_
      intro full told hfull htold
      have hiff := ans_none tr hfull htold.1
      show Tr _ B (lwS K C CC ns s2.p cs pl (some (rL (half.map rLt))) (some (rOL full)) (some (rOL told))) (stC s5) _ D2
      refine tr_if (b := false) (dt_cmp op_ne (de_cmp op_isNo (de_var 11) de_non (opv_isN (c := full.isNone) fun G v h => rOL_non h)) (de_cmp op_isNo (de_var 12) de_non (opv_isN (c := told.isNone) fun G v h => rOL_non h)) ((opv_neV rfl).is (congrArg rB ?_))) (fun h => by cases h) fun _ => tr_go ?_
      · have : full.isNone = told.isNone := by
          cases full <;> cases told <;> simp at hiff ⊢
        rw [this]; simp
      have fin5 : ∀ {h f t : Option Rp} {r13 r14 r15 : Option Rp} (σ : L2.St) (G H : Hp) (s6 : StS), StNx s3 s6 200 → Stt B ((((lwS K C CC ns s2.p cs pl h f t).set 13 r13).set 14 r14).set 15 r15) (stC s6) σ G H → D2.nx σ H := fun σ G H s6 nx6 st => hn2 s6 ((nx3.trans nx6).mono (by omega)) σ G H (st.less ⟨rfl, rfl, rfl, rfl, rfl, rfl, rfl, trivial⟩)
      cases told with
      | none =>
        refine tr_if (b := false) (dt_cmp op_isNotNo (Ra := rN) (de_var 12) de_non (opv_isNotN (c := true) fun G v h => by have h : v = .non := h; simp [h])) (fun h => by cases h) fun _ => tr_go ?_
        exact tr_nil fun σ G H st => fin5 (r13 := none) (r14 := none) (r15 := none) σ G H s5 (nx5.mono (by decide)) st
      | some td =>
        cases full with
        | none => exact absurd (hiff.mp rfl) (by simp)
        | some Lf =>
          have hfull : Fnd (lawCl cs) half Lf := hfull
          obtain ⟨ht1, ht2⟩ := htold
          obtain ⟨hord, hdis⟩ := ht2 td rfl
          have hord : td = (litsOf (webNames (cs.map coM))).filter fun l => decide (l ∈ td) := hord
          have hdis : ∀ l ∈ td, l ∉ half := hdis
          rw [webNames_coM] at hord
          have ht1 : Told (tabsOf (cs.map coM)) half (some td) := ht1
          have hup : upM td (webNames cs) = td := by rw [up_lits]; exact hord.symm
          have htl : td.length ≤ 150 := by
            rw [hord]
            refine Nat.le_trans (List.length_filter_le _ _) ?_
            rw [litsOf_len]; omega
          have hwi : KM.within td Lf = true := within_iff.mpr (ans_has tr hfull ht1)
          refine tr_if (b := true) (dt_cmp op_isNotNo (Ra := rL (td.map rLt)) (de_var 12) de_non (opv_isNotN (c := false) fun G v h => rOf_notN h)) (fun _ => ?_) (fun h => by cases h)
          show Tr _ B (lwS K C CC ns s2.p cs pl (some (rL (half.map rLt))) (some (rL (Lf.map rLt))) (some (rL (td.map rLt)))) (stC s5) _ _
          refine tr_if (b := false) (DW.dt (dw_or (c := false) (d := false) (dt_not (c := true) (dt_val (DE.is (de_call (R := rB (KM.within td Lf)) L.within hr (rL (td.map rLt), td, rL (Lf.map rLt), Lf) (da_cons (de_var 12) (da_cons (de_var 11) da_nil)) ⟨fun _ => sv_l, fun _ => sv_l, by show td.length ≤ 1000; omega⟩ fun _ _ _ _ r => r) (congrArg rB hwi)))) fun _ => dw_or1 (dt_cmp (op_neD hr.units) (de_var 12) (NE.de (ne_callTy cr_list bi.list (by decide +kernel) (da_cons (de_call (R := rC (upM td (webNames cs))) L.up hr (rL (td.map rLt), td, rL ((webNames cs).map rNm), webNames cs) (da_cons (de_var 12) (da_cons (de_var 5) da_nil)) ⟨holds_s fun _ => sv_l, fun _ => sv_l, by show (webNames cs).length ≤ 10000; omega⟩ fun _ _ _ _ r => r) da_nil) (cln_list sv_t))) ((opv_neD (d := .list (td.map dLt)) (e := .list ((upM td (webNames cs)).map dLt)) (rd_L fun l _ => rd_lt l).m (rd_L fun l _ => rd_lt l).m (sh_of (sh_L fun l _ => sh_lt l) (by decide)) (sh_of (sh_L fun l _ => sh_lt l) (by decide))).is (congrArg rB ?_))))) (fun h => by cases h) fun _ => tr_go ?_
          · rw [hup, (eqv_L eqv_lt td td).mpr rfl]; rfl
          have hnil : (td.filter fun l => decide (l ∈ half)) = [] := List.filter_eq_nil_iff.mpr fun l hl => by simpa using hdis l hl
          refine tr_if (b := false) (dt_cmp (op_neD hr.units) (NE.de (ne_lcIf (α := Lit) 16 sc_law.nd td rLt rLt (fun l => decide (l ∈ half)) (de_var 12) sv_l (by omega) (fun l hl _ _ _ _ _ => dt_cmp op_in_seq (de_var 16) (de_var 10) (opv_inLt sv_l)) fun l hl hb _ _ _ _ _ => de_var 16)) (NE.de (ne_lst (Rs := []) da_nil (Nat.zero_le _))) ((opv_neF _).is (congrArg rB (by rw [hnil]; rfl)))) (fun h => by cases h) fun _ => tr_go ?_
          refine tr_lcIfX (α := Nm) (ι := StS × List Nm) (P := fun z => StNx s5 z.1 75 ∧ z.2.Perm (webNames cs)) (xs := fun z => z.2) (M' := fun z => stC z.1) (b := fun _ n => !decide ((⟨true, n⟩ : Lit) ∈ half) && !decide ((⟨false, n⟩ : Lit) ∈ half)) 13 16 sc_law.nd rNm rNm (XE.exi (xe_mixed (s := s5) (rs := (webNames cs).map rNm) (Rst := []) L.mixed hr (by rw [hp5]; exact de_var 1) (de_var 5) (fun _ => sv_l) (by rw [List.length_map]; omega) nx5.ok (by rw [List.length_map]; omega) hw5 (by rw [List.append_nil])) fun z hz => ?_) (fun z hz => ?_) (fun z hz n hn _ _ _ _ _ => ?_) (fun z hz n hn hb _ _ _ _ _ => de_var 16) ?_
          · obtain ⟨zs, h1, h2⟩ := perm_map_inv hz.2
            exact ⟨(z.1, zs), ⟨hz.1.mono (by rw [List.length_map]; exact hwl), h1⟩, congrArg rL h2, by rw [List.append_nil]⟩
          · have := hz.2.length_eq
            omega
          · have h9 : (ltS ⟨true, n⟩).length ≤ 9 := ltS_len ⟨true, n⟩
            refine DW.dt (dw_and (dt_cmp op_notIn_seq (Ra := rLt ⟨true, n⟩) (de_var 16) (de_var 10) (opv_notInLt sv_l)) fun _ => dw_and1 (dt_cmp op_notIn_seq (Ra := rLt ⟨false, n⟩) (DE.is (de_op op_addStr de_str (de_var 16) (opv_addS ?_)) rfl) (de_var 10) (opv_notInLt sv_l)))
            show (1 : Nat) + (ltS ⟨true, n⟩).length ≤ 100000
            omega
          rintro ⟨s6, zs⟩ ⟨nx6, hzs⟩
          have nx6 : StNx s5 s6 75 := nx6
          have hzs : zs.Perm (webNames cs) := hzs
          have nx36 : StNx s3 s6 200 := (nx5.trans nx6).mono (by decide)
          have hok : ∀ n ∈ zs.filter (fun n => !decide ((⟨true, n⟩ : Lit) ∈ half) && !decide ((⟨false, n⟩ : Lit) ∈ half)), n ∈ webNames cs ∧ ∀ p, (⟨p, n⟩ : Lit) ∉ half := fun n hn => by
            obtain ⟨h1, h2⟩ := List.mem_filter.mp hn
            rw [Bool.and_eq_true, Bool.not_eq_true', Bool.not_eq_true', decide_eq_false_iff_not, decide_eq_false_iff_not] at h2
            refine ⟨hzs.subset h1, fun p => ?_⟩
            cases p
            · exact h2.2
            · exact h2.1
          have hzl : (zs.filter (fun n => !decide ((⟨true, n⟩ : Lit) ∈ half) && !decide ((⟨false, n⟩ : Lit) ∈ half))).length ≤ 75 := Nat.le_trans (List.length_filter_le _ _) (by rw [hzs.length_eq]; exact hwl)
          generalize zs.filter (fun n => !decide ((⟨true, n⟩ : Lit) ∈ half) && !decide ((⟨false, n⟩ : Lit) ∈ half)) = some5 at hok hzl
          show Tr _ B ((lwS K C CC ns s2.p cs pl (some (rL (half.map rLt))) (some (rL (Lf.map rLt))) (some (rL (td.map rLt)))).set 13 (some (rL (some5.map rNm)))) (stC s6) _ _
          refine tr_for (S := Unit) (α := Nm) 14 PassesOwn.never sc_law.nd (DE.is (NE.de (ne_slice sl_list (de_var 13) do_none (do_some de_int) (sln_list lv_l))) (congrArg rL ((cutR_to _ 5).trans (List.map_take).symm))) (fun _ => ((lwS K C CC ns s2.p cs pl (some (rL (half.map rLt))) (some (rL (Lf.map rLt))) (some (rL (td.map rLt)))).set 13 (some (rL (some5.map rNm))))) (fun _ => stC s6) (fun _ _ => True) () (some5.take 5) rNm sv_l trivial ⟨rfl, rfl, rfl, rfl, rfl, rfl, rfl, rfl, rfl, rfl, rfl, trivial⟩ rfl ?_ ?_
          · intro P3 pm3 i3 n _ hi3 _ D3 hn3 hrt3
            obtain ⟨hnw2, hnh⟩ := hok n (List.mem_of_mem_take (List.mem_of_getElem? hi3))
            have h9 : (ltS ⟨true, n⟩).length ≤ 9 := ltS_len ⟨true, n⟩
            refine tr_for (S := Unit) (α := Lit) 15 PassesOwn.never sc_law.nd (ne_tup (Rs := (both n).map rLt) (da_cons (de_var 14) (da_cons (de_op op_addStr de_str (de_var 14) (opv_addS ?_)) da_nil)) (two_small n)).de (fun _ => (((lwS K C CC ns s2.p cs pl (some (rL (half.map rLt))) (some (rL (Lf.map rLt))) (some (rL (td.map rLt)))).set 13 (some (rL (some5.map rNm)))).set 14 (some (rNm n)))) (fun _ => stC s6) (fun _ _ => True) () (both n) rLt sv_t trivial ⟨rfl, rfl, rfl, rfl, rfl, rfl, rfl, rfl, rfl, rfl, rfl, rfl, trivial⟩ rfl ?_ ?_
            · show (1 : Nat) + (ltS ⟨true, n⟩).length ≤ 100000
              omega
            · intro P4 pm4 i4 l _ hi4 _ D4 hn4 hrt4
              have hln : l.nm = n := by
                have hm : l ∈ both n := List.mem_of_getElem? hi4
                unfold both at hm
                simp only [List.mem_cons, List.not_mem_nil, or_false] at hm
                rcases hm with e | e <;> rw [e]
              have hlh : ∀ p, (⟨p, l.nm⟩ : Lit) ∉ half := by rw [hln]; exact hnh
              have hlw : l.nm ∈ webNames cs := by rw [hln]; exact hnw2
              have hlh2 : l ∉ half := hlh l.pos
              have hnd2 : ((half ++ [l.neg]).map Lt.nm).Nodup := by
                rw [List.map_append]
                refine nodup_end hnd fun hm => ?_
                obtain ⟨q, hq, e⟩ := List.mem_map.mp hm
                have e : q.nm = l.nm := e
                exact hlh q.pos (by rw [← e]; exact hq)
              have hsb2 : ∀ q ∈ half ++ [l.neg], q.nm ∈ webNames cs := fun q hq => by
                rcases List.mem_append.mp hq with hq | hq
                · exact hsb q hq
                · have e : q = l.neg := by simpa using hq
                  rw [e]; exact hlw
              refine tr_if (b := false) (dt_cmp op_ne (de_cmp op_in_seq (de_var 15) (de_var 12) (opv_inLt sv_l)) (de_cmp op_isNo (de_call (R := rOb (!decide (l ∈ td))) L.found hr (lawCl cs, half ++ [l.neg], webNames cs) (da_cons (de_var 6) (da_cons (DE.is (NE.de (ne_op op_cat (de_var 10) (NE.de (ne_lst (Rs := [rLt l.neg]) (da_cons (de_call (R := rLt l.neg) L.neg hr l (da_cons (de_var 15) da_nil) trivial fun _ _ _ _ r => r) da_nil) (by simp))) (opn_cat lv_l lv_l (by rw [List.length_map]; show half.length + 1 ≤ 100000; omega)))) (congrArg rL (rLt_snoc half l.neg))) da_nil)) (fop _ hnd2 hsb2) fun o G v ho r => ?_) de_non (opv_isN (c := decide (l ∈ td)) fun G v h => ?_)) ((opv_neV rfl).is (congrArg rB (by simp)))) (fun h => by cases h) fun _ => tr_go ?_
              · have hlit := ans_lit tr ht1 hlw hlh2 (r := o) ho
                cases o with
                | none =>
                  have hin : l ∈ td := hlit.mpr rfl
                  rw [decide_eq_true hin]; exact r
                | some Lx =>
                  have hin : l ∉ td := fun h => by have := hlit.mp h; cases this
                  rw [decide_eq_false hin]
                  obtain ⟨a, o, e, _⟩ := r
                  show v ≠ .non
                  rw [e]; exact fun z => nomatch z
              · have := rOb_notN h
                rw [this]; simp
              · exact tr_nil fun σ G H st => hn4 () trivial σ G H (st.less ⟨rfl, rfl, rfl, rfl, rfl, rfl, rfl, rfl, rfl, rfl, rfl, rfl, trivial⟩)
            · intro _ _
              exact tr_nil fun σ G H st => hn3 () trivial σ G H (st.less ⟨rfl, rfl, rfl, rfl, rfl, rfl, rfl, rfl, rfl, rfl, rfl, trivial⟩)
          · intro _ _
            refine tr_nil fun σ G H st => sem_ss pss_nil (fin5 (r13 := some (rL (some5.map rNm))) (r14 := none) (r15 := none) σ G H s6 nx36 st)
    have nn4 := nx4.n
    have hp4 : s4.p = s2.p := nx4.p.trans hp3
    have hl0 : half0.length ≤ 75 := by rwa [List.length_map] at hhl
    have hsb0 : ∀ l ∈ half0, l.nm ∈ webNames cs := fun l hl => hhs _ (List.mem_map.mpr ⟨l, hl, rfl⟩)
    refine tr_ifX (α := StS × Bool) (P := fun z => StNx s4 z.1 1 ∧ (z.2 = true → half0 ≠ [])) (b := fun z => z.2) (M' := fun z => stC z.1 ++ [cL b (half0.map rLt)]) (xt_and (α := StS × Nat) (P := fun z => StNx s4 z.1 1 ∧ z.2 < 3) (d := fun z => decide ((z.2 : Int) = 0)) (M1 := fun z => stC z.1 ++ [cL b (half0.map rLt)]) (XT.to (xt_cmp op_eq (xe_draw (s := s4) (m := 3) (Rst := [cL b (half0.map rLt)]) L.draw hr (by rw [hp4]; exact de_var 1) de_int (by decide) (by decide) nx4.ok (by omega) (hw3.nx nx4) (List.Perm.refl _)) (fun _ _ => de_int.xe) (fun z y _ _ => eqI)) (fun q : (StS × Nat) × Unit => q.1) (fun q h => h.1) (fun q _ => rfl) fun _ _ => List.Perm.refl _) (fun z hz hd => XT.to (dt_cmp (op_neD hr.units) (de_var 10) (NE.de (ne_lst (Rs := []) da_nil (Nat.zero_le _))) (opv_neNil (df := dLt) (n := 0) (rd_c (List.mem_append_right _ List.mem_cons_self) fun l _ => rd_lt l) (fun l _ => sh_lt l) (by decide))).xt (fun _ => (z.1, !half0.isEmpty)) (fun _ _ => ⟨hz.1, fun h e => ?_⟩) (fun _ _ => rfl) fun _ _ => List.Perm.refl _) (fun z hz hd => ⟨(z.1, false), ⟨hz.1, fun h => by cases h⟩, rfl, rfl⟩)) ?_ ?_
    · rw [e] at h; cases h
    · rintro ⟨s5, bb⟩ ⟨nx5, hne⟩ hbb
      have nx5 : StNx s4 s5 1 := nx5
      obtain ⟨l0, r0, rfl⟩ : ∃ l0 r0, half0 = l0 :: r0 := by
        cases half0 with
        | nil => exact absurd rfl (hne hbb)
        | cons a b => exact ⟨a, b, rfl⟩
      refine tr_setAt (rs := (l0 :: r0).map rLt) 2 0 (de_call (R := rLt l0.neg) L.neg hr l0 (da_cons (de_ix ix_list (de_var 10) de_int (opv_ixL (r := rLt l0) (lv_c (List.mem_append_right _ List.mem_cons_self)) (atI_map (f := rLt) (xs := l0 :: r0) (k := 0) rfl))) da_nil) trivial fun _ _ _ _ r => r) (de_var 10) de_int rfl (.inr hb) (Nat.zero_lt_succ _) (by rw [List.length_map]; omega) ?_
      refine tr_go ?_
      refine rest s5 (l0.neg :: r0) ((nx4.trans nx5).mono (by decide)) hhn (fun l hl => ?_) hl0
      rcases List.mem_cons.mp hl with e | hl
      · rw [e]; exact hsb0 l0 List.mem_cons_self
      · exact hsb0 l (List.mem_cons_of_mem _ hl)
    · rintro ⟨s5, bb⟩ ⟨nx5, hne⟩ hbb
      have nx5 : StNx s4 s5 1 := nx5
      exact tr_go (rest s5 half0 ((nx4.trans nx5).mono (by decide)) hhn hsb0 hl0)
  · intro _ s3 _ _
    exact tr_ret (R := rB true) de_bl fun v σ G H st r => hD.rt () v _ _ σ G H trivial st .nil r
end
end KL

/-! KHead -/
/-! The head: facts of each def by names (printed by gen_head.py). -/
namespace KL
open PySem PySem.Spec PyProof.Rows L2 KM
def dOf (x : Str) (st : Stmt) : He.DefD := ⟨(x, none), x, x, defArgs st, defBody st, defScope st, [], []⟩
def mOf (c m q : Str) (st : Stmt) (dfl : List He.Dv) : He.DefD := ⟨(c, some m), m, q, defArgs st, defBody st, defScope st, dfl, []⟩
def hFn0 : List He.DefD := [dOf "is_list" s_is_list, dOf "is_name" s_is_name, dOf "checked_names" s_checked_names, dOf "name_of" s_name_of, dOf "opposite" s_opposite, dOf "is_literal" s_is_literal, dOf "first_wrong" s_first_wrong, dOf "ascending" s_ascending, dOf "full_settings" s_full_settings, dOf "literals_of" s_literals_of, dOf "checked_settings" s_checked_settings, dOf "forced_literals" s_forced_literals]
def hFn1 : List He.DefD := [dOf "open_ones" s_open_ones, dOf "chase" s_chase, dOf "filled" s_filled, dOf "checked_clauses" s_checked_clauses, dOf "check_setting" s_check_setting, dOf "check_codes" s_check_codes, dOf "check_code" s_check_code, dOf "_law_draw" s_l_draw, dOf "_law_pick" s_l_pick, dOf "_law_mixed" s_l_mixed, dOf "_law_fresh" s_l_fresh, dOf "_law_neg" s_l_neg]
def hFn2 : List He.DefD := [dOf "_law_bare" s_l_bare, dOf "_law_up" s_l_up, dOf "_law_fulls" s_l_fulls, dOf "_law_halves" s_l_halves, dOf "_law_meets" s_l_meets, dOf "_law_fits" s_l_fits, dOf "_law_allowed" s_l_allowed, dOf "_law_within" s_l_within, dOf "_law_shortest" s_l_shortest, dOf "_law_chase" s_l_chase, dOf "_law_once" s_l_once, dOf "_law_made" s_l_made]
def hFn3 : List He.DefD := [dOf "_law_parted" s_l_parted, dOf "_law_open" s_l_open, dOf "_law_dead_code" s_l_dead_code, dOf "_law_web_names" s_l_web_names, dOf "_law_branch" s_l_branch, dOf "_law_tree" s_l_tree, dOf "_law_renamed" s_l_renamed, dOf "_law_found" s_l_found, dOf "law" s_law, mOf "Rule" "settings" "Rule.settings" s_Rule_settings [], mOf "Code" "fill" "Code.fill" s_Code_fill [], mOf "Code" "rule" "Code.rule" s_Code_rule []]
def hFn4 : List He.DefD := [mOf "Code" "__add__" "Code.__add__" s_Code_add [], mOf "Web" "forced" "Web.forced" s_Web_forced [], mOf "Rule" "__init__" "Rule.__init__" s_Rule_init [], mOf "Code" "__init__" "Code.__init__" s_Code_init [.adr (He.dflAt ("Code", some "__init__") 0)], mOf "Web" "__init__" "Web.__init__" s_Web_init []]
def hFn : List He.DefD := hFn0 ++ (hFn1 ++ (hFn2 ++ (hFn3 ++ (hFn4))))
def hFa0 : List He.Fa := [.glo "is_list", .glo "is_name", .glo "checked_names", .glo "name_of", .glo "opposite", .glo "is_literal", .glo "first_wrong", .glo "ascending", .glo "full_settings", .glo "literals_of", .glo "checked_settings", .glo "forced_literals"]
def hFa1 : List He.Fa := [.glo "open_ones", .glo "chase", .glo "filled", .glo "checked_clauses", .glo "check_setting", .glo "check_codes", .glo "check_code", .glo "_law_draw", .glo "_law_pick", .glo "_law_mixed", .glo "_law_fresh", .glo "_law_neg"]
def hFa2 : List He.Fa := [.glo "_law_bare", .glo "_law_up", .glo "_law_fulls", .glo "_law_halves", .glo "_law_meets", .glo "_law_fits", .glo "_law_allowed", .glo "_law_within", .glo "_law_shortest", .glo "_law_chase", .glo "_law_once", .glo "_law_made"]
def hFa3 : List He.Fa := [.glo "_law_parted", .glo "_law_open", .glo "_law_dead_code", .glo "_law_web_names", .glo "_law_branch", .glo "_law_tree", .glo "_law_renamed", .glo "_law_found", .glo "law", .free "tuple", .free "list", .free "len"]
def hFa4 : List He.Fa := [.free "range", .free "any", .free "all", .free "isinstance", .free "enumerate", .free "zip", .free "dict", .free "int", .free "str", .int "MOST_SIGNS" 6, .str "LETTERS" "abcdefghijklmnopqrstuvwxyz", .glo "Rule"]
def hFa5 : List He.Fa := [.cls "Rule", .mkr "Rule", .noat "Rule" "names", .noat "Rule" "allowed", .glo "Code", .cls "Code", .mkr "Code", .noat "Code" "sign_row", .noat "Code" "helper_row", .noat "Code" "names", .noat "Code" "clause_row", .glo "Web"]
def hFa6 : List He.Fa := [.cls "Web", .mkr "Web", .noat "Web" "row", .noat "Web" "tables", .noat "Web" "joined", .meth "Rule" "settings", .meth "Code" "fill", .meth "Code" "rule", .meth "Code" "__add__", .meth "Web" "forced"]
def hFa : List He.Fa := hFa0 ++ (hFa1 ++ (hFa2 ++ (hFa3 ++ (hFa4 ++ (hFa5 ++ (hFa6))))))
def exC (K : PySem.W.Frag) (x : Str) : Bool := PySem.W.selfFirst K (He.ga K x) && (He.eqO (PySem.W.findIn K (.ref (He.ga K x)) "__class__") (some (some (.builtin "object.__class__"))) && decide (PySem.W.mroIn K (He.ga K x) (.type "object") = some true))
def hEx (K : PySem.W.Frag) : Bool := (exC K "Rule" && (exC K "Code" && exC K "Web")) && (He.eqO (PySem.W.specialIn K (.builtin "object.__class__") "__get__") (some (some (.builtin "getset_descriptor.__get__"))) && decide (PySem.W.takesIn K (.builtin "object.__class__") = some true))
/-- what the module's names reach in four steps -/
def nxt (g : Addr → Option Obj) (as : List Addr) : List Addr := as.flatMap fun a => match g a with
  | some o => He.refsO o
  | none => []
def asE (g : Addr → Option Obj) : List Addr :=
  let l1 := nxt g [mainGlobals]
  let l2 := nxt g l1
  let l3 := nxt g l2
  let l4 := nxt g l3
  mainGlobals :: (l1 ++ (l2 ++ (l3 ++ l4)))
abbrev AlE : Type := He.AlD × Bool
def obsE (g : Addr → Option Obj) : AlE := (He.obsD hFa hFn (He.frG g (asE g)), hEx (He.frG g (asE g)))
def hkE : PySem.W.Hook where
  α := AlE
  obs := fun s => obsE s.heap.get?
  val := fun _ => (He.valD hFn, true)
  says := fun _ h => ∃ K : PySem.W.Frag, K.In h ∧ He.SaysD hFa hFn K ∧ hEx K = true
  of := fun _ _ e => ⟨_, He.frG_in, congrArg (fun z : AlE => z.1) e, congrArg (fun z : AlE => z.2) e⟩
  keeps := fun _ _ _ ⟨K, hK, c⟩ k => ⟨K, PySem.W.Frag.In.keeps hK k, c⟩
abbrev hR : PySem.W.OpenRow := PySem.W.OpenLaw.row PySem.Challenge.rw_lastopen_k64_whole_webs_great
def hOb (s : PySem.W.SharedT) : AlE := obsE (HandSHeadRun.getT s)
theorem hOb_eq (s : PySem.W.SharedT) : hOb s = hkE.obs s.abs := by
  have e : HandSHeadRun.getT s = s.abs.heap.get? := funext (HandSHeadRun.getT_eq s)
  show obsE (HandSHeadRun.getT s) = obsE s.abs.heap.get?
  rw [e]

def hN0 : List Str := ["_wall", "OpenError", "BadNames", "TooMany", "BadSetting", "NoSign", "BadClause", "Clash", "BadCode", "NotTree", "LETTERS", "is_list"]
def hN1 : List Str := ["is_name", "checked_names", "name_of", "opposite", "is_literal", "first_wrong", "ascending", "full_settings", "literals_of", "MOST_SIGNS", "Rule", "checked_settings"]
def hN2 : List Str := ["forced_literals", "open_ones", "chase", "filled", "checked_clauses", "Code", "are_same", "check_setting", "Web", "check_codes", "check_code", "_law_draw"]
def hN3 : List Str := ["_law_pick", "_law_mixed", "_law_fresh", "_law_neg", "_law_bare", "_law_up", "_law_fulls", "_law_halves", "_law_meets", "_law_fits", "_law_allowed", "_law_within"]
def hN4 : List Str := ["_law_shortest", "_law_chase", "_law_once", "_law_made", "_law_parted", "_law_open", "_law_dead_code", "_law_web_names", "_law_branch", "_law_tree", "_law_renamed", "_law_found"]
abbrev hN : List Str := hN0 ++ hN1 ++ hN2 ++ hN3 ++ hN4
theorem hRun (w : World) : HandSHeadRun.RunEq hR (PySem.W.view hR.prog [68]) hkE hOb 9000 hN w := by
  intro os
  kernel_rfl
/-! ### the facts -/
section
variable {P : Program} {w : World} {K : PySem.W.Frag} {h : Heap} {mg : Str → Option Value} {base : Heap}
theorem h_def (X : K.In h) (G : h.Ns mainGlobals mg) (c : He.SaysD hFa hFn K) {x : Str} {st : Stmt} (i j : Nat) (hd : hFn[i]? = some (dOf x st)) (hf : hFa[j]? = some (.glo x)) : DefAt K mg x st :=
  let ⟨fd, F⟩ := c.def_ i hd; ⟨_, fd, F, He.glo_ok X G (c.fact j hf)⟩
theorem h_meth (c : He.SaysD hFa hFn K) {C m q : Str} {st : Stmt} (i j : Nat) (hd : hFn[i]? = some (mOf C m q st [])) (hf : hFa[j]? = some (.meth C m)) : MethAt K (He.ga K C) m q st :=
  let ⟨fd, F⟩ := c.def_ i hd; ⟨_, fd, F, He.meth_ok (c.fact j hf)⟩
theorem h_cls (c : He.SaysD hFa hFn K) (e : hEx K = true) {C : Str} (j : Nat) (hf : hFa[j]? = some (.cls C)) (hx : exC K C = true) : ClsF K (He.ga K C) := by
  obtain ⟨_, e2⟩ := He.ba e
  obtain ⟨e3, e4⟩ := He.ba e2
  obtain ⟨x1, x2⟩ := He.ba hx
  obtain ⟨x3, x4⟩ := He.ba x2
  exact ⟨He.cls_ok (c.fact j hf), x1, He.eqO_ok x3, He.eqO_ok e3, of_decide_eq_true e4, of_decide_eq_true x4⟩

theorem h_bi (X : K.In h) (G : h.Ns mainGlobals mg) (c : He.SaysD hFa hFn K) : BI mg := ⟨He.free_ok X G (c.fact 45 (f := .free "tuple") rfl), He.free_ok X G (c.fact 46 (f := .free "list") rfl), He.free_ok X G (c.fact 47 (f := .free "len") rfl), He.free_ok X G (c.fact 48 (f := .free "range") rfl), He.free_ok X G (c.fact 49 (f := .free "any") rfl), He.free_ok X G (c.fact 50 (f := .free "all") rfl), He.free_ok X G (c.fact 51 (f := .free "isinstance") rfl), He.free_ok X G (c.fact 52 (f := .free "enumerate") rfl), He.free_ok X G (c.fact 53 (f := .free "zip") rfl), He.free_ok X G (c.fact 54 (f := .free "dict") rfl), He.free_ok X G (c.fact 55 (f := .free "int") rfl), He.free_ok X G (c.fact 56 (f := .free "str") rfl)⟩
theorem h_law (X : K.In h) (G : h.Ns mainGlobals mg) (c : He.SaysD hFa hFn K) (e : hEx K = true) : LwX P w K mg base (He.ga K "Web") (He.ga K "Code") := by
  have bi := h_bi X G c
  obtain ⟨ec, _⟩ := He.ba e
  obtain ⟨e1, ec⟩ := He.ba ec
  obtain ⟨e2, e3⟩ := He.ba ec
  have h6 : Most6 mg := let ⟨t, ht⟩ := He.int_ok X G (c.fact 57 (f := .int "MOST_SIGNS" 6) rfl); ⟨_, ht, t, rfl⟩
  have hL : ∃ u, mg "LETTERS" = some u ∧ RelV (.str lettersT) u := let ⟨t, ht⟩ := He.str_ok X G (c.fact 58 (f := .str "LETTERS" lettersT) rfl); ⟨_, ht, t, rfl⟩
  have cr : RuF K (He.ga K "Rule") := ⟨h_cls c e 60 rfl e1, (He.noat_ok (c.fact 62 (f := .noat "Rule" "names") rfl)), (He.noat_ok (c.fact 63 (f := .noat "Rule" "allowed") rfl))⟩
  have cc : CoF K (He.ga K "Code") := ⟨h_cls c e 65 rfl e2, (He.noat_ok (c.fact 67 (f := .noat "Code" "sign_row") rfl)), (He.noat_ok (c.fact 68 (f := .noat "Code" "helper_row") rfl)), (He.noat_ok (c.fact 69 (f := .noat "Code" "names") rfl)), (He.noat_ok (c.fact 70 (f := .noat "Code" "clause_row") rfl))⟩
  have cw : WeF K (He.ga K "Web") := ⟨h_cls c e 72 rfl e3, (He.noat_ok (c.fact 74 (f := .noat "Web" "row") rfl)), (He.noat_ok (c.fact 75 (f := .noat "Web" "tables") rfl)), (He.noat_ok (c.fact 76 (f := .noat "Web" "joined") rfl))⟩
  have fname := dn_name_of (P := P) (w := w) (base := base) (h_def X G c 3 3 rfl rfl) 
  have fopp := dn_opposite (P := P) (w := w) (base := base) (h_def X G c 4 4 rfl rfl) 
  have fislist := dn_is_list (P := P) (w := w) (base := base) bi (h_def X G c 0 0 rfl rfl) 
  have fisname := dn_is_name (P := P) (w := w) (base := base) bi hL (h_def X G c 1 1 rfl rfl) 
  have fcn := dn_checked_names (P := P) (w := w) (base := base) bi (h_def X G c 2 2 rfl rfl) fisname
  have fislit := dn_is_literal (P := P) (w := w) (base := base) bi (h_def X G c 5 5 rfl rfl) fname
  have ffw := dn_first_wrong (P := P) (w := w) (base := base) bi (h_def X G c 6 6 rfl rfl) fislist fislit fname
  have fasc := dn_ascending (P := P) (w := w) (base := base) bi (h_def X G c 7 7 rfl rfl) 
  have ffull := dn_full_settings (P := P) (w := w) (base := base) (h_def X G c 8 8 rfl rfl) 
  have flits := dn_literals_of (P := P) (w := w) (base := base) (h_def X G c 9 9 rfl rfl) 
  have fcs := dn_checked_settings (P := P) (w := w) (base := base) bi (h_def X G c 10 10 rfl rfl) ffw fasc
  have ffl := dn_forced_literals (P := P) (w := w) (base := base) bi (h_def X G c 11 11 rfl rfl) 
  have foo := dn_open_ones (P := P) (w := w) (base := base) (h_def X G c 12 12 rfl rfl) fopp
  have fch := dn_chase (P := P) (w := w) (base := base) bi (h_def X G c 13 13 rfl rfl) foo
  have ffi := dn_filled (P := P) (w := w) (base := base) bi (h_def X G c 14 14 rfl rfl) fch fasc 1
  have fcc := dn_checked_clauses (P := P) (w := w) (base := base) bi (h_def X G c 15 15 rfl rfl) ffw fasc
  have fcks := dn_check_setting (P := P) (w := w) (base := base) (h_def X G c 16 16 rfl rfl) ffw
  have mrule := mn_rule (P := P) (w := w) (base := base) bi h6 cr (He.glo_ok X G (c.fact 59 (f := .glo "Rule") rfl)) (let ⟨fd, F⟩ := c.def_ 50 (d := mOf "Rule" "__init__" "Rule.__init__" s_Rule_init []) rfl; ⟨_, fd, F, He.mkr_ok (c.fact 61 (f := .mkr "Rule") rfl)⟩) fcn fcs
  have sset := md_settings (P := P) (w := w) (base := base) bi cr (h_meth c 45 77 rfl rfl) ffull
  have mcode := mn_code (P := P) (w := w) (base := base) bi cc (He.glo_ok X G (c.fact 64 (f := .glo "Code") rfl)) (let ⟨fd, F⟩ := c.def_ 51 (d := mOf "Code" "__init__" "Code.__init__" s_Code_init [He.Dv.adr (He.dflAt ("Code", some "__init__") 0)]) rfl; ⟨_, fd, F, He.mkr_ok (c.fact 66 (f := .mkr "Code") rfl)⟩) fcn fcc
  have sfill := md_fill (P := P) (w := w) (base := base) cc (h_meth c 46 78 rfl rfl) ffi
  have srule := md_rule (P := P) (w := w) (base := base) bi h6 cc (h_meth c 47 79 rfl rfl) ffull sfill mrule
  have sadd := md_add (P := P) (w := w) (base := base) bi cc (h_meth c 48 80 rfl rfl) mcode
  have fckc := dn_check_codes (P := P) (w := w) (base := base) bi cc (He.glo_ok X G (c.fact 64 (f := .glo "Code") rfl)) (h_def X G c 17 17 rfl rfl) fislist
  have fck1 := dn_check_code (P := P) (w := w) (base := base) bi h6 cc (h_def X G c 18 18 rfl rfl) 
  have mweb := mn_web (P := P) (w := w) (base := base) bi cw cc cr (He.glo_ok X G (c.fact 71 (f := .glo "Web") rfl)) (let ⟨fd, F⟩ := c.def_ 52 (d := mOf "Web" "__init__" "Web.__init__" s_Web_init []) rfl; ⟨_, fd, F, He.mkr_ok (c.fact 73 (f := .mkr "Web") rfl)⟩) fckc fck1 srule sset sadd
  have sforced := md_forced (P := P) (w := w) (base := base) bi cw cc (h_meth c 49 81 rfl rfl) fcks flits ffl
  have lneg := dn_l_neg (P := P) (w := w) (base := base) (h_def X G c 23 23 rfl rfl) 
  have lbare := dn_l_bare (P := P) (w := w) (base := base) (h_def X G c 24 24 rfl rfl) 
  have lmeets := dn_l_meets (P := P) (w := w) (base := base) bi (h_def X G c 28 28 rfl rfl) 
  have lwithin := dn_l_within (P := P) (w := w) (base := base) bi (h_def X G c 31 31 rfl rfl) 
  have lfits := dn_l_fits (P := P) (w := w) (base := base) bi (h_def X G c 29 29 rfl rfl) lmeets
  have lup := dn_l_up (P := P) (w := w) (base := base) bi (h_def X G c 25 25 rfl rfl) 
  have lfulls := dn_l_fulls (P := P) (w := w) (base := base) (h_def X G c 26 26 rfl rfl) 
  have lallowed := dn_l_allowed (P := P) (w := w) (base := base) bi (h_def X G c 30 30 rfl rfl) lfulls lfits
  have lhalves := dn_l_halves (P := P) (w := w) (base := base) bi (h_def X G c 27 27 rfl rfl) lbare
  have lshortest := dn_l_shortest (P := P) (w := w) (base := base) bi (h_def X G c 32 32 rfl rfl) lhalves lwithin lmeets
  have lopen := dn_l_open (P := P) (w := w) (base := base) (h_def X G c 37 37 rfl rfl) lneg
  have lweb := dn_l_web_names (P := P) (w := w) (base := base) (h_def X G c 39 39 rfl rfl) 
  have lonce := dn_l_once (P := P) (w := w) (base := base) (h_def X G c 34 34 rfl rfl) lup
  have lchase := dn_l_chase (P := P) (w := w) (base := base) bi (h_def X G c 33 33 rfl rfl) lneg
  have lfound := dn_l_found (P := P) (w := w) (base := base) (h_def X G c 43 43 rfl rfl) lchase lopen lneg 75
  have ldraw := dn_l_draw (P := P) (w := w) (base := base) bi (h_def X G c 19 19 rfl rfl) 
  have lpick := dn_l_pick (P := P) (w := w) (base := base) bi (h_def X G c 20 20 rfl rfl) ldraw
  have lmixed := dn_l_mixed (P := P) (w := w) (base := base) bi (h_def X G c 21 21 rfl rfl) ldraw
  have lfresh := dn_l_fresh (P := P) (w := w) (base := base) bi (h_def X G c 22 22 rfl rfl) ldraw lpick
  have lparted := dn_l_parted (P := P) (w := w) (base := base) bi (h_def X G c 36 36 rfl rfl) ldraw lfresh lmixed lpick lneg lonce
  have lbranch := dn_l_branch (P := P) (w := w) (base := base) bi (h_def X G c 40 40 rfl rfl) ldraw lfresh lpick lweb
  have ldead := dn_l_dead (P := P) (w := w) (base := base) bi (h_def X G c 38 38 rfl rfl) ldraw lfulls lshortest lneg lchase lonce lparted
  have lrenamed := dn_l_renamed (P := P) (w := w) (base := base) bi (h_def X G c 42 42 rfl rfl) lbare lonce
  have ltree := dn_l_tree (P := P) (w := w) (base := base) bi (h_def X G c 41 41 rfl rfl) ldraw lfulls lshortest lfresh lweb lbranch ldead lrenamed
  have lmade := dn_l_made (P := P) (w := w) (base := base) (h_def X G c 35 35 rfl rfl) mcode
  exact ⟨bi, ldraw.mono (by decide), ltree.mono (by decide), lmixed.mono (by decide), lneg.mono (by decide), lweb.mono (by decide), lmade.mono (by decide), lshortest.mono (by decide), lallowed.mono (by decide), lfound, lwithin.mono (by decide), lup.mono (by decide), mweb.mono (by decide), sforced.mono (by decide), cw.cl⟩
theorem h_facts {f : Addr} (X : K.In h) (G : h.Ns mainGlobals mg) (hfa : mg ("law" : Str) = some (.ref f)) (c : He.SaysD hFa hFn K) (e : hEx K = true) :
    ∃ fd : FuncData, (∀ (s : Shared) (v : Value), BindsTo s fd ⟨[v], []⟩ [("_law_script", v)]) ∧ ∀ base : Heap, FnOk P w K mg base CX0 79 f fd p_law (c_law K).sp := by
  obtain ⟨fd, F⟩ := c.def_ 44 (d := dOf "law" s_law) rfl
  have eq := hfa.symm.trans (He.glo_ok X G (c.fact 44 (f := .glo "law") rfl))
  cases eq
  have b := FunD.bindsA (ps := p_law) F fun _ _ _ _ _ _ us hl => match us, hl with | [_], _ => rfl
  exact ⟨fd, fun s v => b s [v] rfl, fun base => fn_law F (h_law X G c e)⟩
end
end KL
open PySem PySem.W PySem.Calls PyProof.Rows
theorem PySem.Challenge.cw_lastopen_k64_whole_webs_great_holds : PySem.Challenge.rw_lastopen_k64_whole_webs_great.Holds := by
  w_on; o_law
  refine HandSHeadRun.head_any (r := OpenLaw.row PySem.Challenge.rw_lastopen_k64_whole_webs_great) (q := view (OpenLaw.row PySem.Challenge.rw_lastopen_k64_whole_webs_great).prog [68]) (H := KL.hkE) (ob := KL.hOb) (M := 9000) (loose := KL.hN) (d := HandSHeadRun.topDef (OpenLaw.row PySem.Challenge.rw_lastopen_k64_whole_webs_great).prog 68) (kwd := []) KL.hOb_eq
    (by kernel_rfl) (fun s => by kernel_rfl) KL.hRun (by kernel_rfl) (by kernel_rfl) (by kernel_rfl) (by rfl) (by first | assumption | decide +kernel) (by decide +kernel) ⟨rfl, rfl, rfl, rfl, rfl, by decide +kernel⟩ ?hw ?hc
  case hw => w_witness2
  case hc =>
    refine L2.walk_ofE (l := PySem.Challenge.rw_lastopen_k64_whole_webs_great) (n := 63) (k := 79) (x := "_law_script") (CX := L2.CX0) rfl (by decide) (by kernel_rfl) ⟨rfl, by decide, by decide⟩ ?F (fun _ _ _ _ z => z)
    intro w mg fa h Y G hmg0
    obtain ⟨K, KX, c, e⟩ := Y
    have hmg : mg ("law" : PySem.Str) = some (.ref fa) := by
      have en : (HandSHeadRun.topDef (OpenLaw.row PySem.Challenge.rw_lastopen_k64_whole_webs_great).prog 68).name = ("law" : PySem.Str) := by kernel_rfl
      rw [← en]
      exact hmg0
    obtain ⟨fd, hb, hF⟩ := KL.h_facts (P := (PySem.Challenge.rw_lastopen_k64_whole_webs_great).prog) (w := w) KX G hmg c e
    exact ⟨K, fd, (KL.c_law K).sp, KX, hb, fun H a ns hl _ hS => ⟨ns, H, (show L2.Same H H from L2.Same.refl H), .cons ⟨a, rfl, hS⟩ .nil, KL.Mem.nil, hl, fun _ v _ _ _ _ _ r => r⟩, fun base _ _ => hF base⟩
