import PyProof.Rows.All
import Wide.All
import OpenK.AllK
import Wide.FinOn
import KE.GoesMore
import HandS.ForMost
import HandS.Walk
import HandS.SortRule
import HandS.Strs
import HandS.SetFor
import PyProof.TupleOfSeq
import HandS.FStrTup
import PySem.Challenge.RW_suretrips_k02_whole_roads_at_places_and
set_option linter.all false
/-! The mathematics of law k02, without the program: what leads on to what. -/
namespace SkM

/-- one can come from p to q along none or more roads -/
inductive Reach (ps : List (Int × Int)) (p : Int) : Int → Prop
  | here : Reach ps p p
  | step {a b : Int} : Reach ps p a → (a, b) ∈ ps → Reach ps p b

def Rising (ps : List (Int × Int)) : Prop := ∀ r ∈ ps, r.1 < r.2

theorem Reach.ge {ps : List (Int × Int)} {p q : Int} (hr : Rising ps) (h : Reach ps p q) : p ≤ q := by
  induction h with
  | here => exact Int.le_refl _
  | step _ hm ih =>
    have := hr _ hm
    simp only at this
    omega
theorem Reach.mono {ps qs : List (Int × Int)} {p q : Int} (hs : ∀ r ∈ ps, r ∈ qs) (h : Reach ps p q) : Reach qs p q := by
  induction h with
  | here => exact .here
  | step _ hm ih => exact .step ih (hs _ hm)

/-! ### the law's own going -/
/-- the new heads at one place, the first n roads looked at -/
def newHeads (ps : List (Int × Int)) (S : List Int) (at_ : Int) : Nat → List Int
  | 0 => []
  | i + 1 => newHeads ps S at_ i ++ (match ps[i]? with
    | some r => if r.1 = at_ ∧ ¬ r.2 ∈ S then [r.2] else []
    | none => [])
theorem mem_newHeads {ps : List (Int × Int)} {S : List Int} {a b : Int} : ∀ {n : Nat}, b ∈ newHeads ps S a n ↔ ∃ i, i < n ∧ ps[i]? = some (a, b) ∧ ¬ b ∈ S
  | 0 => by
    simp [newHeads]
  | n + 1 => by
    have ih := mem_newHeads (ps := ps) (S := S) (a := a) (b := b) (n := n)
    unfold newHeads
    rw [List.mem_append, ih]
    constructor
    · rintro (⟨i, h1, h2⟩ | h)
      · exact ⟨i, by omega, h2⟩
      · cases e : ps[n]? with
        | none => rw [e] at h; simp at h
        | some r =>
          rw [e] at h
          simp only at h
          split at h
          · rename_i hc
            have hb : b = r.2 := by simpa using h
            refine ⟨n, by omega, ?_, ?_⟩
            · rw [e, hb, ← hc.1]
            · rw [hb]; exact hc.2
          · simp at h
    · rintro ⟨i, h1, h2, h3⟩
      by_cases hi : i < n
      · exact .inl ⟨i, hi, h2, h3⟩
      · have : i = n := by omega
        subst this
        right
        rw [h2]
        simp [h3]
theorem newHeads_len {ps : List (Int × Int)} {S : List Int} {a : Int} : ∀ {n : Nat}, (newHeads ps S a n).length ≤ n
  | 0 => Nat.le_refl _
  | n + 1 => by
    have ih := newHeads_len (ps := ps) (S := S) (a := a) (n := n)
    unfold newHeads
    rw [List.length_append]
    cases ps[n]? with
    | none => simp; omega
    | some r =>
      simp only
      split <;> simp <;> omega
/-- the roads of the first n whose foot is below c -/
def below (ps : List (Int × Int)) (c : Int) : Nat := ps.countP fun r => decide (r.1 < c)
theorem countP_take {ps : List (Int × Int)} {f : Int × Int → Bool} {n : Nat} {r : Int × Int} (h : ps[n]? = some r) : (ps.take (n + 1)).countP f = (ps.take n).countP f + (if f r = true then 1 else 0) := by
  rw [List.take_add_one, h, List.countP_append]
  show _ + List.countP f [r] = _
  rw [List.countP_singleton]
theorem newHeads_count {ps : List (Int × Int)} {S : List Int} {a : Int} : ∀ {n : Nat}, n ≤ ps.length → (newHeads ps S a n).length ≤ (ps.take n).countP fun r => decide (r.1 = a)
  | 0, _ => by simp [newHeads]
  | n + 1, h => by
    have ih := newHeads_count (ps := ps) (S := S) (a := a) (n := n) (by omega)
    obtain ⟨r, hr⟩ : ∃ r, ps[n]? = some r := ⟨ps[n], List.getElem?_eq_getElem (by omega)⟩
    rw [countP_take hr]
    unfold newHeads
    rw [List.length_append, hr]
    simp only
    by_cases ha : r.1 = a
    · simp only [ha, decide_true, if_true, true_and]
      split <;> simp <;> omega
    · simp only [ha, decide_false, false_and, if_false, List.length_nil]
      omega
theorem below_succ (ps : List (Int × Int)) (c : Int) : below ps (c + 1) = below ps c + ps.countP fun r => decide (r.1 = c) := by
  unfold below
  induction ps with
  | nil => rfl
  | cons r l ih =>
    rw [List.countP_cons, List.countP_cons, List.countP_cons, ih]
    have d1 : decide (r.1 < c + 1) = (decide (r.1 < c) || decide (r.1 = c)) := by
      by_cases h : r.1 < c
      · have h1 : r.1 < c + 1 := by omega
        simp [h, h1]
      · by_cases h2 : r.1 = c
        · have h1 : r.1 < c + 1 := by omega
          rw [decide_eq_true h1, decide_eq_true h2, Bool.or_true]
        · have h1 : ¬ r.1 < c + 1 := by omega
          simp [h, h1, h2]
    have d2 : ¬ (r.1 < c ∧ r.1 = c) := by omega
    rw [d1]
    by_cases h : r.1 < c
    · have h2 : ¬ r.1 = c := by omega
      simp only [h, h2, decide_true, decide_false, Bool.or_false, if_true, Bool.false_eq_true, if_false]
      omega
    · by_cases h2 : r.1 = c
      · simp only [h, h2, decide_true, decide_false, Bool.or_true, if_true, Bool.false_eq_true, if_false]
        have h3 : ¬ c < c := by omega
        simp only [h3, decide_false, Bool.false_eq_true, if_false]
        omega
      · simp only [h, h2, decide_false, Bool.or_false, Bool.false_eq_true, if_false]
        omega
theorem below_le (ps : List (Int × Int)) (c : Int) : below ps c ≤ ps.length := List.countP_le_length

/-- the places met behind k turns, from p on -/
def go (ps : List (Int × Int)) (p : Int) : Nat → List Int
  | 0 => [p]
  | k + 1 => if (p + (k : Int)) ∈ go ps p k then go ps p k ++ newHeads ps (go ps p k) (p + (k : Int)) ps.length else go ps p k
theorem go_len (ps : List (Int × Int)) (p : Int) : ∀ k : Nat, (go ps p k).length ≤ 1 + below ps (p + k)
  | 0 => by simp [go]
  | k + 1 => by
    have ih := go_len ps p k
    have e : p + ((k + 1 : Nat) : Int) = (p + (k : Int)) + 1 := by omega
    rw [e, below_succ]
    unfold go
    split
    · rw [List.length_append]
      have := newHeads_count (ps := ps) (S := go ps p k) (a := p + (k : Int)) (n := ps.length) (Nat.le_refl _)
      rw [List.take_length] at this
      omega
    · omega
theorem go_len_le (ps : List (Int × Int)) (p : Int) (k : Nat) : (go ps p k).length ≤ 1 + ps.length :=
  Nat.le_trans (go_len ps p k) (Nat.add_le_add_left (below_le ps _) 1)
theorem mem_go_succ {ps : List (Int × Int)} {p x : Int} {k : Nat} : x ∈ go ps p (k + 1) ↔ x ∈ go ps p k ∨ ((p + (k : Int)) ∈ go ps p k ∧ (p + (k : Int), x) ∈ ps) := by
  show x ∈ (if (p + (k : Int)) ∈ go ps p k then go ps p k ++ newHeads ps (go ps p k) (p + (k : Int)) ps.length else go ps p k) ↔ _
  split
  · rename_i hk
    rw [List.mem_append, mem_newHeads]
    constructor
    · rintro (h | ⟨i, _, h2, _⟩)
      · exact .inl h
      · exact .inr ⟨hk, List.mem_of_getElem? h2⟩
    · rintro (h | ⟨_, h⟩)
      · exact .inl h
      · by_cases hx : x ∈ go ps p k
        · exact .inl hx
        · obtain ⟨i, hi⟩ := List.mem_iff_getElem?.mp h
          exact .inr ⟨i, (List.getElem?_eq_some_iff.mp hi).1, hi, hx⟩
  · rename_i hk
    constructor
    · exact .inl
    · rintro (h | ⟨h, _⟩)
      · exact h
      · exact absurd h hk
theorem go_reach {ps : List (Int × Int)} {p x : Int} : ∀ {k : Nat}, x ∈ go ps p k → Reach ps p x
  | 0, h => by
    have : x = p := by simpa [go] using h
    rw [this]; exact .here
  | k + 1, h => by
    rcases mem_go_succ.mp h with h | ⟨h1, h2⟩
    · exact go_reach h
    · exact .step (go_reach h1) h2
theorem go_up {ps : List (Int × Int)} {p x : Int} {k : Nat} (h : x ∈ go ps p k) : ∀ j : Nat, x ∈ go ps p (k + j)
  | 0 => h
  | j + 1 => mem_go_succ.mpr (.inl (go_up h j))
theorem go_down {ps : List (Int × Int)} {p x : Int} {k : Nat} (hr : Rising ps) (hx : x ≤ p + (k : Int)) : ∀ j : Nat, x ∈ go ps p (k + j) → x ∈ go ps p k
  | 0, h => h
  | j + 1, h => by
    rcases mem_go_succ.mp (show x ∈ go ps p ((k + j) + 1) from h) with h | ⟨_, h2⟩
    · exact go_down hr hx j h
    · have := hr _ h2
      simp only at this
      omega
/-- all is met behind n turns, if all heads are below p + n -/
theorem mem_go {ps : List (Int × Int)} {p : Int} {n : Nat} (hr : Rising ps) (hn : ∀ r ∈ ps, r.2 < p + (n : Int)) (x : Int) : x ∈ go ps p n ↔ Reach ps p x := by
  refine ⟨go_reach, fun h => ?_⟩
  induction h with
  | here =>
    have := go_up (ps := ps) (p := p) (x := p) (k := 0) (by simp [go]) n
    simpa using this
  | step ha hm ih =>
    rename_i a b
    have h1 := hr _ hm
    have h2 := hn _ hm
    have h3 := ha.ge hr
    simp only at h1 h2
    obtain ⟨k, hk⟩ : ∃ k : Nat, a = p + (k : Int) := ⟨(a - p).toNat, by omega⟩
    have hkn : k + 1 ≤ n := by omega
    obtain ⟨j, rfl⟩ : ∃ j, n = k + j := ⟨n - k, by omega⟩
    have h4 : a ∈ go ps p k := go_down hr (by omega) j ih
    have h5 : b ∈ go ps p (k + 1) := mem_go_succ.mpr (.inr ⟨by rw [← hk]; exact h4, by rw [← hk]; exact hm⟩)
    have h6 := go_up h5 (j - 1)
    have e : k + 1 + (j - 1) = k + j := by omega
    rw [e] at h6
    exact h6

/-! ### the program's going, over the sorted roads -/
/-- met behind these roads, the last one ahead -/
def InB (p : Int) : List (Int × Int) → Int → Prop
  | [], k => k = p
  | r :: l, k => InB p l k ∨ (InB p l r.1 ∧ k = r.2)
theorem InB.up {p k : Int} {l : List (Int × Int)} : ∀ {m : List (Int × Int)}, InB p l k → InB p (m ++ l) k
  | [], h => h
  | r :: m, h => .inl (InB.up (m := m) h)
theorem InB.old {p k : Int} {l : List (Int × Int)} : ∀ {m : List (Int × Int)}, (∀ r ∈ m, r.2 ≠ k) → InB p (m ++ l) k → InB p l k
  | [], _, h => h
  | r :: m, hm, h => by
    rcases h with h | ⟨_, h⟩
    · exact InB.old (m := m) (fun r hr => hm r (List.mem_cons_of_mem _ hr)) h
    · exact absurd h.symm (hm r List.mem_cons_self)
theorem InB.reach {p : Int} {ps : List (Int × Int)} : ∀ {l : List (Int × Int)} {k : Int}, (∀ r ∈ l, r ∈ ps) → InB p l k → Reach ps p k
  | [], k, _, h => by
    have h : k = p := h
    rw [h]; exact .here
  | r :: l, k, hs, h => by
    rcases h with h | ⟨h1, h2⟩
    · exact InB.reach (fun q hq => hs q (List.mem_cons_of_mem _ hq)) h
    · rw [h2]
      exact .step (InB.reach (fun q hq => hs q (List.mem_cons_of_mem _ hq)) h1) (hs (r.1, r.2) List.mem_cons_self)
theorem InB.init {p : Int} : ∀ {l : List (Int × Int)}, InB p l p
  | [] => rfl
  | _ :: _ => .inl InB.init
theorem inB_iff {p : Int} {ys : List (Int × Int)} (hr : Rising ys) (hs : ys.Pairwise fun r q => r.1 ≤ q.1) (k : Int) : InB p ys.reverse k ↔ Reach ys p k := by
  refine ⟨InB.reach fun r h => List.mem_reverse.mp h, fun h => ?_⟩
  induction h with
  | here => exact InB.init
  | step ha hm ih =>
    rename_i a b
    obtain ⟨l1, l2, rfl⟩ := List.append_of_mem hm
    have e : (l1 ++ (a, b) :: l2).reverse = (l2.reverse ++ [(a, b)]) ++ l1.reverse := by simp
    rw [e] at ih ⊢
    have h1 : InB p l1.reverse a := by
      refine InB.old (m := l2.reverse ++ [(a, b)]) (fun r hr2 => ?_) ih
      have hin : r ∈ (a, b) :: l2 := by
        rcases List.mem_append.mp hr2 with h | h
        · exact List.mem_cons_of_mem _ (List.mem_reverse.mp h)
        · rw [List.mem_singleton.mp h]; exact List.mem_cons_self
      have h3 : r.1 < r.2 := hr r (List.mem_append_right _ hin)
      have h4 : a ≤ r.1 := by
        rcases List.mem_cons.mp hin with h | h
        · rw [h]; exact Int.le_refl _
        · have := (List.pairwise_append.mp hs).2.1
          exact (List.pairwise_cons.mp this).1 r h
      omega
    rw [List.append_assoc]
    exact InB.up (m := l2.reverse) (.inr ⟨h1, rfl⟩)
theorem rev_take_succ {α : Type} {l : List α} {i : Nat} {x : α} (h : l[i]? = some x) : (l.take (i + 1)).reverse = x :: (l.take i).reverse := by
  rw [List.take_add_one, h]
  simp

/-! ### the roads at a place -/
def hits (f : Int × Int → Bool) (ps : List (Int × Int)) : Nat → List Int
  | 0 => []
  | i + 1 => hits f ps i ++ (match ps[i]? with
    | some r => if f r = true then [(i : Int)] else []
    | none => [])
theorem hits_len {f : Int × Int → Bool} {ps : List (Int × Int)} : ∀ n, (hits f ps n).length ≤ n
  | 0 => Nat.le_refl _
  | n + 1 => by
    have ih := hits_len (f := f) (ps := ps) n
    unfold hits
    rw [List.length_append]
    cases ps[n]? with
    | none => simp; omega
    | some r =>
      simp only
      split <;> simp <;> omega
theorem hits_mem {f : Int × Int → Bool} {ps : List (Int × Int)} {x : Int} : ∀ {n : Nat}, x ∈ hits f ps n → 0 ≤ x ∧ x < n
  | 0, h => by simp [hits] at h
  | n + 1, h => by
    unfold hits at h
    rcases List.mem_append.mp h with h | h
    · have := hits_mem h
      omega
    · cases e : ps[n]? with
      | none => rw [e] at h; simp at h
      | some r =>
        rw [e] at h
        simp only at h
        split at h
        · have : x = (n : Int) := by simpa using h
          omega
        · simp at h
theorem hits_succ {f : Int × Int → Bool} {ps : List (Int × Int)} {i : Nat} {r : Int × Int} (h : ps[i]? = some r) : hits f ps (i + 1) = hits f ps i ++ (if f r = true then [(i : Int)] else []) := by
  show hits f ps i ++ (match ps[i]? with | some r => _ | none => _) = _
  rw [h]
theorem newHeads_succ {ps : List (Int × Int)} {S : List Int} {a : Int} {i : Nat} {r : Int × Int} (h : ps[i]? = some r) : newHeads ps S a (i + 1) = newHeads ps S a i ++ (if r.1 = a ∧ ¬ r.2 ∈ S then [r.2] else []) := by
  show newHeads ps S a i ++ (match ps[i]? with | some r => _ | none => _) = _
  rw [h]
end SkM
set_option Elab.async false
set_option linter.all false
set_option maxRecDepth 100000
set_option maxHeartbeats 2000000
namespace SkG
open PySem PySem.Spec PyProof.Rows L2

/-! ### contracts of defs that are called where no repr is under way -/
structure FnG (P : Program) (w : World) (K : PySem.W.Frag) (mg : Str → Option Value) (base : Heap) (k : Nat) (f : Addr) (fd : FuncData) (ps : List Str) (sp : Sp) : Prop where
  len : ∀ vs H Q E, sp vs H Q E → vs.length = ps.length
  run : ∀ (A : Around) (outer : List Env) (s : Shared) (H : Hp) (args : Args) (us : List Value) (vs : List V) (Q : VK), A.guards = some [] → Room k A → Env0 P w K mg base A outer s H → BindsTo s fd args (ps.zip us) →
    Vals vs us → sp vs H Q E0 → codeAny (model P w) A (.call (.ref f) args) (CR CX0 outer P w H s Q E0) s

section
variable {P : Program} {w : World} {K : PySem.W.Frag} {mg : Str → Option Value} {base : Heap}
theorem fun_okG {x qual : Str} {st : Stmt} {f : Addr} {fd : FuncData} {N ps : List Str} {k : Nat} {sp : Sp} (F : Fun K x qual st f fd) (S : FnScope N ps (defScope st)) (len : ∀ vs H Q E, sp vs H Q E → vs.length = ps.length)
    (body : ∀ (cdv : Value) (A : Around) (outer : List Env) (s : Shared) (H : Hp) (vs : List V) (Q : VK), A.guards = some [] → Room k (A.deeper (envOfC qual (defScope st) s.heap.objs.size f cdv)) → sp vs H Q E0 →
      ∃ t, PSs (cxOf CX0 P w K mg base N qual (defScope st) f cdv A outer s H E0).nox (defBody st) t ∧ t { nx := fun _ H' => Q .non H', rt := Q } (start N vs) H) : FnG P w K mg base (k + 1) f fd ps sp := by
  obtain ⟨oc, od, kV, doc, pm, an, cdv, ct, osl, rfl, lk, hcd⟩ := F.ex
  constructor
  · exact len
  · intro A outer s H args us vs Q gd hr e0 bd r hsp
    have old : ∀ b o, base.get? b = some o → s.heap.get? b = some o := fun b o e => (e0.bs b o e).1
    have inK : K.In s.heap := e0.mod.kin.keeps old
    have noL : s.heap.NoLimit := e0.mod.nolimit.keeps old
    refine codeAny_call_function hr.depth (inK _ _ lk) rfl S.co S.gen rfl (PySem.W.codeRec_of inK hcd) (bd _ _ _ _ ?_)
    refine wpAny_newFunctionEnv_cells S.kind (fun y hy => ?_) fun env he s1 new => ?_
    · have hy1 := (List.of_mem_zip (show (y.1, y.2) ∈ ps.zip us from hy)).1
      exact (S.par y.1 hy1).imp id fun q => ⟨q, PySem.W.cellsFrom_some _ _ _ (.inl q)⟩
    subst he
    refine ⟨noL.keeps new.toInCall.keep, codeAny_func ?_⟩
    obtain ⟨t, ht, q⟩ := body cdv A outer s H vs Q gd (hr.deeper _) hsp
    have I := inv_start (CX := CX0) (E := E0) S hr.hd e0 (len _ _ _ _ hsp) r new
    refine wpAny_mono (ht.nox.run [] s1 (start N vs) H _ I q) (fun fl s' hs => ?_) fun _ _ z => z
    cases fl with
    | ret u =>
      obtain ⟨v, σ', H', J, rv, qv⟩ := hs
      exact ⟨v, H', J.os, J.bare, J.base, J.hok, rv, qv⟩
    | next =>
      obtain ⟨σ', H', J, qv⟩ := hs
      exact ⟨.non, H', J.os, J.bare, J.base, J.hok, rfl, qv⟩
    | brk =>
      obtain ⟨_, _, _, z⟩ := hs
      exact z.elim
    | cont =>
      obtain ⟨_, _, _, z⟩ := hs
      exact z.elim
end

/-- f(e, ..) of such a def -/
def tCallG (sp : Sp) (t : TA) : TE := fun σ H Q => t σ H fun vs H1 => sp vs H1 Q E0
section
variable {X : Cx} {k : Nat} {f : Addr} {fd : FuncData} {ps : List Str} {sp : Sp} {x : Str} {p pos : Pos} {e : Expr} {es : List Expr} {t : TA}
theorem pe_callG (gd : X.A.guards = some []) (F : FnG X.prog X.w X.K X.mg X.base k f fd ps sp) (hr : Room k X.A) (hg : Gl X x) (hm : X.mg x = some (.ref f)) (hk : PySem.W.keepIn X.K (.ref f) = true) (hb : Binds X.K fd ps [])
    (ha : PA X (e :: es) t) (hdb : (x == ("__debug__" : Str)) = false := by decide) (he : starEach (e :: es) X.env = (false, eval e X.env) :: starEach es X.env := by rfl) (hpl : (backTo pos (starEach es X.env)).any (·.1) = false := by rfl) :
    PE X (.Call (.Name x p) (e :: es) [] pos) (tCallG sp t) := by
  constructor
  intro pins s σ H Q I h
  refine wpAny_Call_Name_kw (ld_glob I hg hm ?_ hdb)
  refine PySem.W.callWith_K (h₀ := X.base) I.ok.mod.kin hk (thn (ha.run pos pins s σ H _ I h) fun us s1 back => ?_) he hpl
  obtain ⟨vs, H1, J, r, q⟩ := back
  have hl : (us ++ []).length = ps.length := by rw [List.append_nil, ← r.length]; exact F.len _ _ _ _ q
  have hbd := hb s1 us J.kIn hl
  rw [List.append_nil] at hbd
  have ran := F.run X.A X.stack s1 H1 ⟨us, []⟩ us vs Q gd hr J.env0 hbd r q
  exact ⟨J.kIn, wpAny_call (codeAny_mono ran fun res s' hq => match res, hq with
    | .ok (.ret u), hq => J.after hq)⟩
end

/-! ### a call with keywords alone -/
section
variable {X : Cx} {CX : CXT} {k : Nat} {f : Addr} {fd : FuncData} {ps ks : List Str} {sp : Sp} {E : XK} {x : Str} {p pos : Pos} {kws : List Keyword} {tk : TA} {g : List Value → List Value → List Value} {gV : List V → List V → List V}
theorem pe_callK0 (F : FnOk X.prog X.w X.K X.mg X.base CX k f fd ps sp) (hr : Room k X.A) (hg : Gl X x) (hm : X.mg x = some (.ref f)) (hk : PySem.W.keepIn X.K (.ref f) = true) (hb : KBinds X.K fd ps ks g gV) (hx : Passes CX X E) (hkw : PK X kws tk)
    (hall : (backToKw pos (keywordEach kws X.env)).all (·.1.isSome) = true := by rfl) (hks : (backToKw pos (keywordEach kws X.env)).filterMap (·.1) = ks := by rfl) (hdb : (x == ("__debug__" : Str)) = false := by decide)
    (hpl : ((backTo pos (starEach [] X.env)).any (·.1) || (backToKw pos (keywordEach kws X.env)).any (·.1.isNone)) = false := by rfl) :
    PE X (.Call (.Name x p) [] kws pos) (tCallK sp gV E tNil tk) := by
  constructor
  intro pins s σ H Q I h
  refine wpAny_Call_Name_kw (ld_glob I hg hm ?_ hdb)
  refine PySem.W.callWith_KW0 (h₀ := X.base) I.ok.mod.kin hk hall (thn (hkw.run pos pins s σ H _ I h) fun ws s2 back => ?_) hpl
  obtain ⟨zs, H2, J, rz, q⟩ := back
  rw [hks]
  exact ⟨J.kIn, run_fnk (us := []) (vs := []) F hr hb hx J .nil rz q⟩
end

/-! ### repr of data -/
section
variable {X : Cx}
def rRepr (K : PySem.W.Frag) : List V → Hp → VK → Prop := fun vs H Q => ∃ (a : Addr) (d : PyData), vs = [.ref a] ∧ Dp K H (.ref a) d ∧ d.showable = true ∧ d.hasDict = false ∧ d.depth ≤ 60 ∧ d.shown.length ≤ sizeLine ∧ Q (.str d.shown) H
theorem call_repr_data (gd : X.A.guards = some []) (hu : X.A.units + 64 < cLine) : CallR X (.builtin "repr") (rRepr X.K) := by
  intro pins s σ H vs us Q I r h
  obtain ⟨a, d, rfl, hd, h1, h2, h3, h4, q⟩ := h
  obtain ⟨u, rfl, ru⟩ := vals1 r
  obtain ⟨as, rd⟩ := Dp.reads I d _ u hd ru
  obtain rfl : u = Value.ref a := ru
  refine repr_of_reads' rd h1 (PyData.noDict_hsm h2) gd (by omega) (fun _ _ z => z) (fun h' u' tk kp => ?_) h4
  exact ⟨.str d.shown, H, I.kept (t' := tk) kp, ⟨u', rfl⟩, q⟩
def boolText (b : Bool) : Str := if b then "True" else "False"
theorem call_repr_bool : CallR X (.builtin "repr") (fun vs H Q => ∃ b, vs = [.bl b] ∧ Q (.str (boolText b)) H) := by
  intro pins s σ H vs us Q I r h
  obtain ⟨b, rfl, q⟩ := h
  obtain ⟨u, rfl, ru⟩ := vals1 r
  obtain rfl : u = Value.bool b := ru
  exact PySem.P.repr_of_bool (b := b) ⟨.str (boolText b), H, I.tok _, ⟨s.toks, by unfold boolText; cases b <;> rfl⟩, q⟩
end
end SkG
set_option Elab.async false
set_option linter.all false
set_option maxRecDepth 100000
set_option maxHeartbeats 2000000
namespace SkG
open PySem PySem.Spec PyProof.Rows L2

/-! ### enumerate(t), t a tuple -/
theorem enum_new1 {v : Value} {o : Obj} {Hh : Heap → Prop} (B : Begins v o Hh) :
    Meets (Builtin.«enumerate.__new__» ⟨[.type "enumerate", v], []⟩) (fun _ R s => Hh s.heap ∧
      R (.ok (.ret (.ref (s.heap.objs.size + 1)))) { s with heap := (s.heap.push o).push { cls := .type "enumerate", data := .fields #[.none, .bool false, .ref s.heap.objs.size, rawInt 0, .none, .none] } }) :=
  .of_wp fun prog w A R s hh => by
    obtain ⟨hp, g, d, tk, os⟩ := s
    obtain ⟨start_, fin⟩ := hh
    have hsub := sub_enumerate
    have begin_ : ∀ {A' : Around} {E : Value → Shared → Prop} {Q : Value → Shared → Prop}, Q (.ref hp.objs.size) ⟨hp.push o, g, d, tk, os⟩ → wpAny (model prog w) A' (pyIter v) Q E ⟨hp, g, d, tk, os⟩ :=
      fun q => B.iter prog w _ _ ⟨hp, g, d, tk, os⟩ _ start_ q
    have hz : (hp.push o).objs.size = hp.objs.size + 1 := Heap.size_push ..
    rw [← hz] at fin
    wp_walk using begin_
    refine wpAny_stack_any fun st => wpAny_pure ?_
    split
    · rename_i c _ _ _ _ _
      cases (c == Value.type "enumerate") <;> (wp_walk using begin_; exact ⟨_, rfl, fin⟩)
    · wp_walk using begin_
      exact ⟨_, rfl, fin⟩
theorem call_enum_tup {prog : Program} {w : World} {A : Around} {E : Value → Shared → Prop} {s : Shared} {t : Addr} {items : Array Value} {Q : Value → Shared → Prop} (ht : s.heap.IsTuple t items)
    (q : ∀ h', IsEnum h' (s.heap.objs.size + 1) s.heap.objs.size 0 .none → h'.IsTupleIter s.heap.objs.size t 0 → (∀ b o, s.heap.get? b = some o → h'.get? b = some o) → Q (.ref (s.heap.objs.size + 1)) { s with heap := h' }) :
    wpAny (model prog w) A (call (.type "enumerate") [.ref t]) Q E s := by
  have hz : (s.heap.push { cls := .type "tuple_iterator", data := .fields #[.ref t, .int 0 0] }).objs.size = s.heap.objs.size + 1 := Heap.size_push ..
  have he : IsEnum ((s.heap.push { cls := .type "tuple_iterator", data := .fields #[.ref t, .int 0 0] }).push { cls := .type "enumerate", data := .fields #[.none, .bool false, .ref s.heap.objs.size, rawInt 0, .none, .none] }) (s.heap.objs.size + 1) s.heap.objs.size 0 .none := by
    rw [← hz]
    exact Heap.get?_push_size _ rfl
  refine callType_new F.called_enumerate (by decide) (F.typeCall_enumerate_1 _) (F.newCall_enumerate_1 _) (fun obj => F.args_object_init_2 obj _) F.entry_enumerate_new (enum_new1 (begins_tuple t items)) ⟨ht, ?_⟩
  exact ⟨⟨_, he, rfl⟩, q _ he ⟨_, Heap.get?_push_of_some _ (Heap.get?_push_size _ rfl), rfl, rfl⟩ fun b o x => Heap.get?_push_of_some _ (Heap.get?_push_of_some _ x)⟩

/-- the tuple at a, each item in a new pair with its place -/
def IteT (K : PySem.W.Frag) (a : Addr) : It where
  go := fun i H => ∃ (xs : List V) (x : V), SqT K H a xs ∧ xs[i]? = some x
  yld := fun i H v H' => ∃ T x, v = .ref T ∧ H T = none ∧ H' = upd H T (.tup [.int (i : Nat), x]) ∧ ∀ xs, SqT K H a xs → xs[i]? = some x
  stop := fun i H => ∃ xs : List V, SqT K H a xs ∧ xs.length ≤ i
theorem turn_enumT {P : Program} {w : World} {K : PySem.W.Frag} {elts : List Expr} {kk : Nat} {tpos : Pos} (a e it : Addr) (hne : e ≠ it) :
    Turn P w K (.Tuple elts kk tpos) (IteT K a) [e, it] e (fun i h => (∃ old, IsEnum h e it ((i : Nat) : Int) old) ∧ h.IsTupleIter it a i) where
  mem := List.mem_cons_self
  obj := fun i h st b hb => by
    obtain ⟨⟨old, he⟩, o, ho, hc, hd⟩ := st
    rcases List.mem_cons.mp hb with z | hb
    · rw [z]; exact ⟨_, he, fun v q => nomatch q⟩
    · rw [List.mem_singleton.mp hb]; exact ⟨o, ho, fun v q => by rw [hd] at q; cases q⟩
  keep := fun i h h' st k => by
    obtain ⟨⟨old, he⟩, hi⟩ := st
    exact ⟨⟨old, k e (by simp) _ he⟩, hi.at fun o q => k it (by simp) o q⟩
  item := by
    intro X hP hw hK hc i pins s σ H E I hf st hg
    subst hP hw hK
    obtain ⟨⟨old, he⟩, hit⟩ := st
    obtain ⟨xs, x, hq, hx⟩ := hg
    obtain ⟨its, rv, p, hz⟩ := I.tuple hq
    obtain ⟨u, hu, ru⟩ := rv.get hx
    have hel : e < s.heap.objs.size := Heap.lt_size he
    have hil : it < s.heap.objs.size := by obtain ⟨_, q, _⟩ := hit; exact Heap.lt_size q
    have hai : a ≠ it := by
      rintro rfl
      obtain ⟨o1, e1, c1, _⟩ := hit
      obtain ⟨o2, e2, c2, _⟩ := p
      rw [e1] at e2; cases e2
      rw [c1] at c2
      exact absurd (Value.type.inj c2) (by decide)
    have hea : e ≠ a := by
      rintro rfl
      obtain ⟨o2, e2, c2, _⟩ := p
      rw [he] at e2; cases e2
      exact absurd (Value.type.inj c2) (by decide)
    have hlt : i < its.toArray.size := by
      rw [List.size_toArray]
      exact (List.getElem?_eq_some_iff.mp hu).1
    refine wpAny_pyNext_enum_itemD (Draws.tuple (show X.A.in1.handled = none from I.ok.hd hc) it a hai its.toArray) he ⟨hit, p⟩ hlt hne (by simp [hne, hea]) fun y h' tk hy ho hit' hT hsz hk => ?_
    have hyu : y = u := by
      have hy' : its[i]? = some y := by simpa using hy
      rw [hu] at hy'
      exact (Option.some.inj hy').symm
    subst hyu
    refine ⟨_, rfl, wpAny_letOwnedTupleGo_enum (s := { s with heap := h', toks := tk + 1 }) ho fun h'' he' sb => ?_⟩
    have hT2 : h''.get? s.heap.objs.size = some { cls := .type "tuple", data := .seq #[.int i tk, y] } := (sb.2 _ (Nat.ne_of_gt hel)).trans hT
    have new : ObjOk X.prog X.w (upd H s.heap.objs.size (.tup [.int (i : Nat), x])) h'' s.heap.objs.size (.tup [.int (i : Nat), x]) :=
      ⟨by show 2 ≤ sizeLine; decide, [.int i tk, y], .cons ⟨_, rfl⟩ (.cons ru .nil), ⟨_, hT2, rfl, _, rfl⟩⟩
    have I1 : Inv X pins σ (upd H s.heap.objs.size (.tup [.int (i : Nat), x])) { s with heap := h'', toks := tk + 1 } :=
      I.turnedNew (ch := [e, it]) (fun b ob hb q => (sb.2 b (fun z => hb (by simp [z]))).trans (hk b ob (fun z => hb (by simp [z])) (fun z => hb (by simp [z])) q)) hf (Nat.le_refl _) new
    refine ⟨.ref s.heap.objs.size, _, I1, rfl, ⟨_, x, rfl, I.hok.fresh (Nat.le_refl _), rfl, fun ys hy => by rw [I.tuple_inj hy hq]; exact hx⟩, ⟨⟨y, ?_⟩, hit'.1.at fun o q => (sb.2 it (Ne.symm hne)).trans q⟩, fun b hb => ?_⟩
    · have e1 : ((i + 1 : Nat) : Int) = (i : Int) + 1 := by omega
      rw [e1]; exact he'
    · have hb' : b < s.heap.objs.size := by
        rcases List.mem_cons.mp hb with z | z
        · rw [z]; exact hel
        · rw [List.mem_singleton.mp z]; exact hil
      rw [upd_ne (Nat.ne_of_lt hb')]
      exact (hf b hb).1
  done := by
    intro X hP hw hK hc i pins s σ H E I hf st hg
    subst hP hw hK
    obtain ⟨⟨old, he⟩, hit⟩ := st
    obtain ⟨xs, hq, hx⟩ := hg
    obtain ⟨its, rv, p, hz⟩ := I.tuple hq
    have hai : a ≠ it := by
      rintro rfl
      obtain ⟨o1, e1, c1, _⟩ := hit
      obtain ⟨o2, e2, c2, _⟩ := p
      rw [e1] at e2; cases e2
      rw [c1] at c2
      exact absurd (Value.type.inj c2) (by decide)
    obtain ⟨f0, f1, f2, f3, f4, f5⟩ := hf it (by simp)
    have hl := rv.length
    have fin : ∀ h', Heap.ExtBut it s.heap h' → (none : Option Value) = none ∧ Inv X pins σ H { s with heap := h' } := fun h' eb => ⟨rfl, I.turned (t' := s.toks) (fun b o hb q => eb b o hb q) f0 f1 f3 f4 f5⟩
    have hT : s.TypeIs (.ref e) "enumerate" := ⟨_, he, rfl⟩
    have hnone : its.toArray[i]? = none := by simp; omega
    unfold pyNext
    refine wpAny_bind (wpAny_attempt (wpAny_callSpecial?_slot (name := Str.ofString "__next__") hT F.slot_enumerate_next (wpAny_call_entry F.slot_enumerate_next hT F.entry_enumerate_next ?_ (F.args_enumerate_next_1 _))))
    show wpAny _ _ (field (.ref e) 2 >>= _) _ _ _
    refine wpAny_bind (wpAny_field he rfl (x := .ref it) rfl (wpAny_bind (wpAny_nextOf_tuple_end (I.ok.hd hc) hit p hnone fun h' x he' hx' => ?_)))
    obtain ⟨o, ho, hcx⟩ := hx'
    exact wpAny_bind (wpAny_isInstance (T := "StopIteration") (b := true) ⟨o, ho, hcx⟩ isSubtype_stop (wpAny_pure (fin h' he')))
  self := fun A i s Q E st h => let ⟨⟨_, he⟩, _⟩ := st; wpAny_pyIter_enum he h
def iEnumT (K : PySem.W.Frag) (ta : TA) : TI := fun σ H R => ta σ H fun vs H1 => ∃ a xs, vs = [.ref a] ∧ SqT K H1 a xs ∧ R (IteT K a) H1
theorem pi_enumT {X : Cx} {e : Expr} {ta : TA} {p pos tpos : Pos} {elts : List Expr} {kk : Nat} (hg : Gl X "enumerate") (hm : X.mg "enumerate" = none) (ha : PA X [e] ta) (hs : starEach [e] X.env = [(false, eval e X.env)] := by rfl) :
    PI X (.Tuple elts kk tpos) (.Call (.Name "enumerate" p) [e] [] pos) (iEnumT X.K ta) := by
  constructor
  intro pins s σ H R I h
  refine Call_ (ld_blt I hg hm boot_enumerate (PyProof.Rows.callWith_type1 (thn (ha.run pos pins s σ H _ I h) fun us s1 back => ?_) hs rfl))
  obtain ⟨vs, H1, I1, r1, a, xs, rfl, hq, q⟩ := back
  obtain ⟨u, rfl, ru⟩ := vals1 r1
  obtain rfl : u = Value.ref a := ru
  obtain ⟨its, rv, p', hz⟩ := I1.tuple hq
  refine call_enum_tup p' fun h' he hit hk => wpAny_pyIter_enum he ?_
  have I2 : Inv X pins σ H1 { s1 with heap := h' } := I1.kept (t' := s1.toks) hk
  refine ⟨s1.heap.objs.size + 1, [s1.heap.objs.size + 1, s1.heap.objs.size], _, _, H1, rfl, I2, turn_enumT a (s1.heap.objs.size + 1) s1.heap.objs.size (Nat.succ_ne_self _), ⟨⟨.none, he⟩, hit⟩, fun b hb => ?_, q⟩
  have hle : s1.heap.objs.size ≤ b := by
    rcases List.mem_cons.mp hb with z | z
    · rw [z]; exact Nat.le_add_right _ _
    · rw [List.mem_singleton.mp z]; exact Nat.le_refl _
  exact I1.fpOk hle (I1.hok.fresh hle)
theorem walk_enumT {K : PySem.W.Frag} {a : Addr} {xs : List V} : Walk (IteT K a) xs.length (fun H => SqT K H a xs) (YPair (fun i => some (.int (i : Nat))) (fun i => xs[i]?)) where
  goes := fun i _ hi q => ⟨xs, xs[i], q, List.getElem?_eq_getElem hi⟩
  stops := fun _ q => ⟨xs, q, Nat.le_refl _⟩
  yields := fun i H v H' _ q y => by
    obtain ⟨T, x, h1, h2, h3, h4⟩ := y
    exact ⟨T, .int (i : Nat), x, h1, h2, h3, rfl, h4 xs q⟩
end SkG
set_option Elab.async false
set_option linter.all false
set_option maxRecDepth 100000
set_option maxHeartbeats 2000000
namespace SkG
open PySem PySem.Spec PyProof.Rows L2

/-! ### sorted(t), t a tuple of pairs of ints -/
/-- the list that holds the items, new at the heap's end -/
abbrev gathered (h : Heap) (vs : List Value) : Heap := (h.push { cls := .type "list", data := .seq ([] : List Value).toArray }).update h.objs.size (Obj.mapSeq (· ++ vs.toArray))
theorem gathered_size (h : Heap) (vs : List Value) : (gathered h vs).objs.size = h.objs.size + 1 := by
  unfold gathered
  rw [Heap.size_update, Heap.size_push]
theorem gathered_old {h : Heap} {vs : List Value} {b : Addr} {o : Obj} (e : h.get? b = some o) : (gathered h vs).get? b = some o :=
  (Heap.get?_update_other _ _ (Nat.ne_of_gt (Heap.lt_size e))).trans (Heap.get?_push_of_some _ e)
theorem collect_tup {prog : Program} {w : World} {A : Around} {E : Value → Shared → Prop} {s : Shared} {t : Addr} {vs : List Value} {Q : List Value → Shared → Prop} (ht : s.heap.IsTuple t vs.toArray) (hz : vs.length ≤ sizeLine)
    (q : Q vs { s with heap := gathered s.heap vs }) : wpAny (model prog w) A (collect (.ref t)) Q E s := by
  obtain ⟨o, ho, hc, n, hd⟩ := ht
  have hz' : vs.toArray.size ≤ sizeLine := by rw [List.size_toArray]; exact hz
  unfold collect
  refine wpAny_bind (wpAny_runValue (codeAny_builtin F.entry_proto_collect ?_))
  rw [Around.under_plainId F.plain_proto_collect _]
  show wpAny _ A.in1 (newList [] >>= fun l => again (.builtin "list.__iadd__" ⟨[l, .ref t], []⟩)) _ _ s
  refine wpAny_bind (wpAny_newObj_type (wpAny_pure ⟨plainId_quiet F.plain_list_iadd _, codeAny_builtin F.entry_list_iadd ?_⟩))
  rw [Around.under_plainId F.plain_list_iadd _]
  show wpAny _ A.in1 (Builtin.List.listExtendWith (.ref s.heap.objs.size) (.ref t) (.ref s.heap.objs.size)) _ _ _
  have hN : (s.heap.push { cls := .type "list", data := .seq ([] : List Value).toArray }).get? s.heap.objs.size = some { cls := .type "list", data := .seq #[] 0 } := Heap.get?_push_size _ rfl
  have back : wpAny (model prog w) A (match Value.ref s.heap.objs.size with
      | Value.ref a => do
        match (← load a).data with
          | Data.seq xs _ => pure xs.toList
          | _ => unsupported "internal:collect"
      | _ => unsupported "internal:collect") Q E { s with heap := gathered s.heap vs } := by
    show wpAny _ A (load s.heap.objs.size >>= _) _ _ _
    refine wpAny_bind (wpAny_load (Heap.get?_update_self (Obj.mapSeq (· ++ vs.toArray)) hN rfl) (wpAny_pure ?_))
    show Q ((#[] : Array Value) ++ vs.toArray).toList _
    rw [show ((#[] : Array Value) ++ vs.toArray).toList = vs by simp]
    exact q
  refine wpAny_mono (wpAny_extend_seq (hsz := hz') (A := A) (R := fun r s' => r = .ok (.ret (.ref s.heap.objs.size)) ∧ s' = { s with heap := gathered s.heap vs })
    (s := { s with heap := s.heap.push { cls := .type "list", data := .seq ([] : List Value).toArray } }) _ t _ 0 (.inr rfl) hN (Heap.get?_push_of_some _ ho) hc hd ⟨rfl, rfl⟩) (fun fin s' h => ?_) (fun e s' h => absurd h.1 (by simp))
  match fin, h with
  | .done f, h =>
    obtain ⟨e, rfl⟩ := h
    cases e
    exact back
  | .again c', h =>
    refine ⟨h.1, codeAny_mono h.2 fun r s'' hr => ?_⟩
    obtain ⟨rfl, rfl⟩ := hr
    exact back
theorem sorted_tup {prog : Program} {w : World} {A : Around} {E : Value → Shared → Prop} {s : Shared} {t : Addr} {vs : List Value} {k : Value → Int × Int} {Q : Value → Shared → Prop} (ht : s.heap.IsTuple t vs.toArray) (hz : vs.length ≤ sizeLine)
    (hp : ∀ v ∈ vs, Srt.IsPair s.heap v (k v).1 (k v).2)
    (q : ∀ (h' : Heap) (d : Addr) (out : List Value), SrtO.Srtd (fun v u => SrtO.lexB (k v) (k u)) out → SrtO.Stb (fun v u => SrtO.lexB (k v) (k u)) out vs → (∀ b o, s.heap.get? b = some o → h'.get? b = some o) → s.heap.objs.size ≤ d →
      (∃ n, h'.get? d = some (seqObj "list" out.toArray n)) → Q (.ref d) { s with heap := h' }) :
    wpAny (model prog w) A (call (.builtin "sorted") [.ref t]) Q E s := by
  refine Calls.call_function_entry kind_sorted plain_sorted entry_sorted (args_sorted1 _) ?_
  unfold Builtin.«sorted»
  refine wpAny_bind (m := checkCount "sorted" 1 1 _) (wpAny_pure (wpAny_bind (collect_tup ht hz (wpAny_bind (wpAny_newList ?_ hz)))))
  generalize hh1 : gathered s.heap vs = h1
  have k1 : ∀ b u, s.heap.get? b = some u → h1.get? b = some u := fun b u e => by rw [← hh1]; exact gathered_old e
  have le1 : s.heap.objs.size ≤ h1.objs.size := by rw [← hh1, gathered_size]; exact Nat.le_succ _
  show wpAny _ _ _ _ _ { s with heap := h1.push (seqObj "list" vs.toArray 0) }
  have hL : (h1.push (seqObj "list" vs.toArray 0)).get? h1.objs.size = some (seqObj "list" vs.toArray 0) := Heap.get?_push_size _ rfl
  have k2 : ∀ b u, s.heap.get? b = some u → (h1.push (seqObj "list" vs.toArray 0)).get? b = some u := fun b u e => Heap.get?_push_of_some _ (k1 b u e)
  refine wpAny_bind (wpAny_holding (wpAny_call_entry slot_list_sort ⟨_, hL, rfl⟩ entry_list_sort (SrtO.list_sort_ord (SrtO.swo_lex k) hL hz (fun h2 => ?_) fun out a1 a2 => ⟨_, rfl, ?_⟩) (args_list_sort _)))
  · refine SrtO.pairs_sortableO (s := { s with heap := h1.push (seqObj "list" vs.toArray 0) }) (by omega) (fun v hv => (hp v hv).keeps fun b u e _ => k2 b u e) fun u e => ?_
    cases e.symm.trans hL
    intro c
    exact absurd (Value.type.inj c) (by decide)
  · refine wpAny_pure ⟨_, rfl, q _ h1.objs.size out a1 a2 (fun b u e => ?_) le1 (sortedHeap_at hL)⟩
    have hb : b < h1.objs.size := Heap.lt_size (k1 b u e)
    rw [sortedHeap_old (Nat.ne_of_lt hb) (by rw [size_push']; exact Nat.lt_succ_of_lt hb)]
    exact k2 b u e
def rSortedTP (K : PySem.W.Frag) : List V → Hp → VK → Prop := fun vs H Q => ∃ (a : Addr) (xs : List V) (k : V → Int × Int), vs = [V.ref a] ∧ SqT K H a xs ∧ (∀ x ∈ xs, ∃ t, x = V.ref t ∧ H t = some (.tup [.int (k x).1, .int (k x).2])) ∧
  ∀ (ys : List V) (p : Addr), ys.Perm xs → (ys.Pairwise fun x y => (k x).1 ≤ (k y).1) → H p = none → Q (.ref p) (upd H p (.lst ys))
theorem call_sorted_tup {X : Cx} : CallR X (.builtin "sorted") (rSortedTP X.K) := by
  intro pins s σ H vs us Q I r h
  obtain ⟨a, xs, k, rfl, hs, hx, q⟩ := h
  obtain ⟨its, rv, hl, hz⟩ := I.tuple hs
  obtain ⟨u, rfl, ru⟩ := vals1 r
  obtain rfl : u = Value.ref a := ru
  obtain ⟨e1, e2⟩ := refs_back rv fun x m => (hx x m).imp fun t e => e.1
  refine sorted_tup (k := fun u => k (backV u)) hl (by rw [← rv.length]; exact hz) (fun v hv => ?_) fun h' d out h1 h2 kp hd hn => ?_
  · obtain ⟨t, rfl⟩ := e2 v hv
    obtain ⟨t', e, ht⟩ := hx (V.ref t) (by rw [e1]; exact List.mem_map.mpr ⟨_, hv, rfl⟩)
    cases e
    obtain ⟨_, its2, r2, o, ho, hc, n, hd⟩ := I.hok _ _ ht
    obtain ⟨u1, u2, rfl, ⟨t1, rfl⟩, ⟨t2, rfl⟩⟩ := vals2 r2
    exact ⟨t, o, t1, t2, n, rfl, ho, hc, hd⟩
  · obtain ⟨n, hn⟩ := hn
    have h3 : ∀ u ∈ out, ∃ a, u = Value.ref a := fun u hu => e2 u (h2.perm.mem_iff.mp hu)
    have hb : SrtO.Stb (ltP k) (out.map backV) xs := by
      rw [e1]
      exact SrtO.Stb.map (ltP_swo k) backV h2
    have hs2 : (out.map backV).Pairwise fun x y => (k x).1 ≤ (k y).1 := by
      refine List.Pairwise.imp (fun {x y} c => ?_) (SrtO.srtd_map (f := backV) (lt := ltP k) h1)
      have := SrtO.lexB_no.mp c
      omega
    refine ⟨.ref d, upd H d (.lst (out.map backV)), I.laid (t' := s.toks) kp hd ⟨?_, out, n, vals_back h3, hn⟩, rfl, q _ d hb.perm hs2 (I.hok.fresh hd)⟩
    rw [hb.len]
    exact hz
end SkG
set_option Elab.async false
set_option linter.all false
set_option maxRecDepth 100000
set_option maxHeartbeats 4000000
namespace SkG
open PySem PySem.Spec PyProof.Rows L2

/-! ### set(xs), xs a list of ints, so told that sorted(..) of it goes -/
abbrev emptyOf (w : World) : Obj := { cls := .type "set", dict := none, data := .set #[] 0 (.fresh 0 0 (!w.params.followText "set-order")) }
section
variable {P : Program} {w : World} {A : Around} {E : Value → Shared → Prop} {s : Shared}
/-- how the new set stands behind its filling -/
def Filled (w : World) (s : Shared) (ns : List Int) (s2 : Shared) : Prop :=
  ∃ h' tk c, s2 = { s with heap := h', toks := tk } ∧ SetR w h' s.heap.objs.size (fun j => decide (j ∈ ns)) c ∧ c ≤ ns.length ∧ ∀ b o, s.heap.get? b = some o → h'.get? b = some o
theorem init_filled {l : Addr} {items : Array Value} (ns : List Int) (calm : A.handled = none) (hl : s.heap.IsList l items) (hit : IntsAre items.toList ns) (hb : ns.length + 1 < scanBound) :
    wpAny (model P w) A.in1 (Builtin.«set.__init__» ⟨[.ref s.heap.objs.size, .ref l], []⟩)
      (fun fin s' => match fin with
        | .done f => wants (fun r s2 => r = Value.none ∧ Filled w s ns s2) E (.ok f) s'
        | .again c' => c'.quiet = true ∧ codeAny (model P w) A c' (wants (fun r s2 => r = Value.none ∧ Filled w s ns s2) E) s')
      (fun e s' => wants (fun r s2 => r = Value.none ∧ Filled w s ns s2) E (.error e) s')
      { s with heap := s.heap.push (emptyOf w) } := by
  have hsz : items.size = ns.length := by
    have q := IntsAre.length hit
    rw [Array.length_toList] at q
    exact q
  have hS : (s.heap.push (emptyOf w)).get? s.heap.objs.size = some (emptyOf w) := Heap.get?_push_size _ rfl
  have hT : Shared.TypeIs { s with heap := s.heap.push (emptyOf w) } (.ref s.heap.objs.size) "set" := ⟨_, hS, rfl⟩
  have hl1 : (s.heap.push (emptyOf w)).IsList l items := hl.push _
  have hlS : l < s.heap.objs.size := by obtain ⟨o, e, _⟩ := hl; exact Heap.lt_size e
  obtain ⟨⟨ocls, odict, odata, oslots⟩, hol, hcl, nl, hdl⟩ := id hl1
  simp only at hcl hdl
  subst hcl
  subst hdl
  have a1 := F.sub_list_set
  have a2 := F.sub_list_frozenset
  have a3 : (Value.type "list" == Value.type "dict") = false := by decide
  unfold Builtin.«set.__init__» noKeywords Builtin.Frozenset.updateFrom
  generalize hPI : pyIter = PI
  wp_walk
  subst hPI
  refine wpAny_pyIter_list hl1 (wpAny_bind (wpAny_runValue ?_))
  have z1 : (s.heap.push (emptyOf w)).objs.size = s.heap.objs.size + 1 := Heap.size_push ..
  have nI : l ≠ (s.heap.push (emptyOf w)).objs.size := by rw [z1]; exact Nat.ne_of_lt (Nat.lt_succ_of_lt hlS)
  have nS : s.heap.objs.size ∉ [(s.heap.push (emptyOf w)).objs.size, l] := by
    rw [z1]
    simp only [List.mem_cons, List.not_mem_nil, or_false, not_or]
    exact ⟨Nat.ne_of_lt (Nat.lt_succ_self _), Nat.ne_of_gt hlS⟩
  have val : ∀ (i : Nat) (v : Value), items[i]? = some v → ∃ k t, ns[i]? = some k ∧ v = .int k t := fun i v hv => by
    have hi : i < ns.length := by rw [← hsz]; exact (Array.getElem?_eq_some_iff.mp hv).1
    obtain ⟨t, e⟩ := IntsAre.int_at hit i v (by rw [Array.getElem?_toList]; exact hv)
    refine ⟨ns[i], t, List.getElem?_eq_getElem hi, ?_⟩
    rw [e, List.getD_eq_getElem?_getD, List.getElem?_eq_getElem hi]
    rfl
  refine set_update_ints ((Walks.list (by simpa using calm) _ l nI items).toS) s.heap.objs.size nS ns hsz hb val (items.size - 0) 0 _ (by omega) (Nat.zero_le _)
    ⟨⟨_, Heap.get?_push_size _ rfl, rfl, rfl⟩, hl1.push _⟩ ⟨0, Nat.le_refl 0, setR_new_at (Heap.get?_push_of_some _ hS)⟩ fun s' c' hm hc' hR => ?_
  obtain ⟨h', g2, d', tk', os'⟩ := s'
  obtain rfl : g2 = s.gens := hm.gens
  obtain rfl : d' = s.drawn := hm.drawn
  obtain rfl : os' = s.os := hm.os
  rw [hsz] at hc'
  refine wpAny_pure (wpAny_pure ⟨rfl, h', tk', c', rfl, hR, hc', fun b o e => ?_⟩)
  have b0 : b < s.heap.objs.size := Heap.lt_size e
  refine hm.heap b o ?_ (Heap.get?_push_of_some _ (Heap.get?_push_of_some _ e))
  rw [z1]
  simp only [List.mem_cons, List.not_mem_nil, or_false, not_or]
  exact ⟨Nat.ne_of_lt b0, Nat.ne_of_lt (Nat.lt_succ_of_lt b0)⟩
theorem call_set_ints {l : Addr} {items : Array Value} (ns : List Int) {Q : Value → Shared → Prop} (calm : A.handled = none) (hl : s.heap.IsList l items) (hit : IntsAre items.toList ns) (hb : ns.length + 1 < scanBound)
    (q : ∀ s2, Filled w s ns s2 → Q (.ref s.heap.objs.size) s2) : wpAny (model P w) A (call (.type "set") [.ref l]) Q E s := by
  obtain ⟨c, tl, hmro⟩ := F.called_set.mro
  have m1 := F.called_set.made
  have m2 := F.called_set.sub
  have m3 := F.called_set.notType
  have m4 := F.called_set.canCreate
  have m5 := F.typeCall_set_1 (.ref l)
  refine wpAny_call (codeAny_of_tree ?_)
  show wpAny _ _ (callAny (.type "set") _) _ _ _
  refine wpAny_pure ⟨Code.quiet_builtin _ (by decide +kernel), codeAny_builtin F.entry_type_call ?_⟩
  rw [Around.under_plain (weight_type_call_type "set" [.ref l] []) rfl]
  repeat (any_goals (first | assumption | wp_step))
  refine codeAny_mono (code_set_led1 (.ref l) (E := E) (Q₁ := fun obj s1 => obj = .ref s.heap.objs.size ∧ s1 = { s with heap := s.heap.push (emptyOf w) }) ⟨rfl, rfl⟩) fun r s1 hr => ?_
  cases r with
  | error e => exact hr
  | ok fl =>
    cases fl with
    | ret obj =>
      obtain ⟨rfl, rfl⟩ := hr
      have hS : (s.heap.push (emptyOf w)).get? s.heap.objs.size = some (emptyOf w) := Heap.get?_push_size _ rfl
      have hT : Shared.TypeIs { s with heap := s.heap.push (emptyOf w) } (.ref s.heap.objs.size) "set" := ⟨_, hS, rfl⟩
      have n1 := F.called_set.init.lookup
      have n2 := F.called_set.init.bind (.ref s.heap.objs.size)
      repeat (any_goals (first | assumption | wp_step))
      refine codeAny_mono (codeAny_call_builtin (R := wants (fun r s2 => r = Value.none ∧ Filled w s ns s2) E) F.called_set.init.plain F.entry_set_init (check_set_init_1 hT ?_)) fun r2 s2 hr2 => ?_
      · exact init_filled (A := A.in1) ns (by simpa using calm) hl hit hb
      · cases r2 with
        | error e => exact hr2
        | ok fl2 =>
          cases fl2 with
          | ret r =>
            obtain ⟨rfl, fl⟩ := hr2
            repeat (any_goals (first | assumption | wp_step))
            exact q _ fl
          | _ => exact hr2.elim
    | _ => exact hr.elim
end
def rSetL (K : PySem.W.Frag) (w : World) : List V → Hp → VK → Prop := fun vs H Q => ∃ (a : Addr) (ns : List Int), vs = [V.ref a] ∧ SqL K H a (ns.map V.int) ∧ ns.length ≤ 1000 ∧
  ∀ (p : Addr) (c : Nat), c ≤ ns.length → H p = none → Q (.ref p) (upd H p (SetO w p (fun j => decide (j ∈ ns)) c))
theorem call_setL {X : Cx} (hc : X.calm = true) : CallR X (.type "set") (rSetL X.K X.w) := by
  intro pins s σ H vs us Q I r h
  obtain ⟨a, ns, rfl, hs, hn, q⟩ := h
  obtain ⟨its, rv, pl, hz⟩ := I.list hs
  obtain ⟨u, rfl, ru⟩ := vals1 r
  obtain rfl : u = Value.ref a := ru
  have hi : IntsAre its ns := by simpa using rv.ints
  refine call_set_ints ns (I.ok.hd hc) pl.isList (by simpa using hi) (by unfold scanBound; omega) fun s2 fl => ?_
  obtain ⟨h', tk, c, rfl, hR, hcn, kp⟩ := fl
  exact ⟨.ref s.heap.objs.size, _, I.laid (t' := tk) kp (Nat.le_refl _) (setO_new hR), rfl, q _ c hcn (I.hok.fresh (Nat.le_refl _))⟩
end SkG
set_option Elab.async false
set_option linter.all false
set_option maxRecDepth 100000
set_option maxHeartbeats 2000000
namespace SkG
open PySem PySem.Spec PyProof.Rows L2

/-! ### the law's own end, its def's contract being one of FnG -/
section
variable {P : Program} {w : World} {K : PySem.W.Frag} {mg mb : Str → Option Value} {s1 : Shared} {H : Hp} {a : Addr} {xs : Array Value}
/-- where nothing but the script is tracked: what the call of the law's def wants -/
theorem env_law (inK : K.In s1.heap) (ns : s1.heap.Ns mainGlobals mg) (nb : s1.heap.Ns builtinsNs mb) (hbb : ∀ x : Str, x ≠ "__name__" → mb x = bootBuiltins x) (lim : s1.heap.NoLimit) (hg : s1.gens = #[])
    (ha : s1.heap.get? a = some { cls := .type "list", data := .seq xs }) (ok : HOk P w H s1.heap) (one : ∀ b u, H b = some u → b = a ∧ K.lookup a = none) : Env0 P w K mg (hidT s1.heap H) callerA [] s1 H := by
  have dicts : ∀ {b : Addr} {o : Obj} {es : Array DictEntry} {ep : Nat}, s1.heap.get? b = some o → o.data = .dict es ep → (hidT s1.heap H).get? b = some o := by
    intro b o es ep e d
    refine hidT_get e ?_
    cases q : H b with
    | none => rfl
    | some u =>
      obtain ⟨rfl, _⟩ := one b u q
      rw [ha] at e
      cases e
      cases (show Data.seq xs _ = Data.dict es ep from d)
  have spaces : ∀ {b : Addr} {m : Str → Option Value}, s1.heap.Ns b m → (hidT s1.heap H).Ns b m := by
    rintro b m ⟨o, es, ep, e, d, r⟩
    exact ⟨o, es, ep, dicts e d, d, r⟩
  constructor
  · rfl
  · refine ⟨fun b o e => hidT_get (inK b o e) ?_, spaces ns, ⟨mb, spaces nb, hbb⟩, ?_⟩
    · cases q : H b with
      | none => rfl
      | some u =>
        obtain ⟨rfl, z⟩ := one b u q
        rw [z] at e
        cases e
    · obtain ⟨mc, h1, h2⟩ := lim
      exact ⟨mc, spaces h1, h2⟩
  · exact fun b o e => of_hidT e
  · exact Nat.le_of_eq (hidT_size _ _)
  · trivial
  · exact fun b hb => absurd (show b ∈ ([] : List Addr) from hb) (by simp)
  · exact ok
  · exact .of_eq hg
end
theorem walk_ofG {l : PySem.W.OpenLaw} {n k : Nat} {q : Program} {loose : List Str} {XP : (Str → Option Value) → Heap → Prop} {YP : World → Heap → Prop} {d : DefRec} {K : Params → PySem.W.Frag} {sp : PySem.W.Frag → Sp} {x : Str}
    (hn : l.most = some n) (hn2 : n ≤ sizeLine) (hdf : d.params.defaults = []) (hr : Room k callerA) (hY : ∀ (w : World) (h : Heap), YP w h → (K w.params).In h)
    (F : ∀ (w : World) (mg : Str → Option Value) (fa : Addr) (h : Heap), (K w.params).In h → h.Ns mainGlobals mg → mg d.name = some (.ref fa) →
      ∃ fd : FuncData, (∀ (s : Shared) (u : Value), BindsTo s fd ⟨[u], []⟩ [(x, u)]) ∧ ∀ base : Heap, FnG l.prog w (K w.params) mg base k fa fd [x] (sp (K w.params)))
    (hsp : ∀ (K : PySem.W.Frag) (H : Hp) (a : Addr) (ns : List Int), ns.length ≤ n → SqL K H a (ns.map V.int) → sp K [.ref a] H (fun v _ => v = .bl true) E0) :
    PySem.W.WalkO q loose XP YP l.row.toRowW d [] (fun f vs => PySem.call f vs) := by
  refine Att.attach_call hn hdf fun w s₀ s1 mg mb fa o pm cd doc a vs ns G Y ho hd hcd hmg hobj hints hlen hg => ?_
  have inK := hY w _ Y
  obtain ⟨fd, bd, hF⟩ := F w mg fa _ inK G.T.g hmg
  have rv := vals_ints hints
  have lenV := hints.length
  have hz : ns.length ≤ sizeLine := Nat.le_trans hlen hn2
  -- one way to track the script, and the call
  have core : ∀ H : Hp, HOk l.prog w H s1.heap → (∀ b u, H b = some u → b = a ∧ (K w.params).lookup a = none) → (∀ b u, H b = some u → ∃ ob zs, u = .frz ob (.lst zs)) → SqL (K w.params) H a (ns.map V.int) →
      codeAny (model l.prog w) callerA (.call (.ref fa) ⟨[.ref a], []⟩) (fun r s' => r = .ok (.ret (.bool true)) ∧ OldK s1.heap s'.heap ∧ s'.os = s1.os ∧ AllBare s'.gens) s1 := by
    intro H ok one fz hS
    have e0 := env_law inK G.T.g G.T.b G.T.builtins G.T.nolimit hg hobj ok one
    have ran := (hF (hidT s1.heap H)).run callerA [] s1 H ⟨[.ref a], []⟩ [.ref a] [.ref a] _ rfl hr e0 (bd s1 (.ref a)) (.cons rfl .nil) (hsp _ H a ns hlen hS)
    refine codeAny_mono ran fun r s' hq => ?_
    match r, hq with
    | .ok (.ret u), hq =>
      obtain ⟨v, H', os, bare, un, ok', r', rfl⟩ := hq
      obtain rfl : u = Value.bool true := r'
      refine ⟨rfl, OldK.of_keep fun b ob e => ?_, os, bare⟩
      cases q : H b with
      | none => exact un.keep b ob e q (by intro z; exact absurd (show b ∈ ([] : List Addr) from z) (by simp)) (by simp)
      | some u =>
        obtain ⟨ob2, zs, rfl⟩ := fz b u q
        obtain ⟨e1, _⟩ := ok b _ q
        obtain ⟨e2, _⟩ := ok' b _ (un.frzs b ob2 _ q)
        rw [e] at e1
        cases e1
        exact e2
  cases hk : (K w.params).lookup a with
  | some ob =>
    have e := inK a ob hk
    rw [hobj] at e
    cases e
    refine core (fun _ => none) (fun _ _ z => nomatch z) (fun _ _ z => nomatch z) (fun _ _ z => nomatch z) ?_
    exact .inr ⟨_, vs.toArray, _, hk, rfl, rfl, rfl, by rw [List.size_toArray, lenV]; exact hz, by simpa using rv⟩
  | none =>
    refine core (fun b => if b = a then some (.frz { cls := .type "list", data := .seq vs.toArray } (.lst (ns.map V.int))) else none) (fun b u z => ?_) (fun b u z => ?_) (fun b u z => ?_) (.inl (.inr ⟨{ cls := .type "list", data := .seq vs.toArray }, if_pos rfl⟩))
    all_goals
      by_cases hb : b = a
      case neg => exact nomatch (if_neg hb).symm.trans z
    · cases (if_pos hb).symm.trans z
      subst hb
      exact ⟨hobj, by rw [List.length_map]; exact hz, vs, _, rv, hobj⟩
    · exact ⟨hb, hk⟩
    · cases (if_pos hb).symm.trans z
      exact ⟨_, _, rfl⟩
end SkG
set_option Elab.async false
set_option linter.all false
set_option maxRecDepth 100000
set_option maxHeartbeats 2000000
namespace SkW
open PySem PySem.Spec PyProof.Rows L2 SkG SkM

/-! ### the text -/
def topS (i : Nat) : Stmt := PySem.Challenge.pw_suretrips_k02_whole_roads_at_places_and.main.body.getD i (.Pass ⟨0, 0, 0, 0⟩)
abbrev sFrom : Stmt := topS 1
abbrev sTo : Stmt := topS 2
abbrev sPlaces : Stmt := topS 3
abbrev sLeads : Stmt := topS 4
abbrev sDeck : Stmt := topS 6
abbrev sDraw : Stmt := topS 7
abbrev sPick : Stmt := topS 8
abbrev sShuf : Stmt := topS 9
abbrev sNet : Stmt := topS 10
abbrev sReached : Stmt := topS 11
abbrev sTold : Stmt := topS 12
abbrev sLTold : Stmt := topS 13
abbrev sRight : Stmt := topS 14
abbrev sLaw : Stmt := topS 15

/-! ### heaps -/
theorem same_upd {H : Hp} {p : Addr} {o : HO} (h : H p = none) : Same H (upd H p o) := fun b x e => by
  rw [upd_ne (ne_of_none e h)]
  exact e
theorem Same.at_ {H H' : Hp} (s : Same H H') {b : Addr} {o : HO} (e : H b = some o) : H' b = some o := s b o e
/-- all but d and g as it was -/
def Keeps (d g : Addr) (H H' : Hp) : Prop := ∀ b o, b ≠ d → b ≠ g → H b = some o → H' b = some o
theorem Keeps.refl (d g : Addr) (H : Hp) : Keeps d g H H := fun _ _ _ _ e => e
theorem Keeps.trans {d g : Addr} {H H1 H2 : Hp} (a : Keeps d g H H1) (b : Keeps d g H1 H2) : Keeps d g H H2 := fun c o n1 n2 e => b c o n1 n2 (a c o n1 n2 e)
theorem Keeps.of_same {d g : Addr} {H H' : Hp} (s : Same H H') : Keeps d g H H' := fun c o _ _ e => s c o e
theorem Keeps.set_d {d g : Addr} {H : Hp} {o : HO} : Keeps d g H (upd H d o) := fun c x n1 _ e => by rw [upd_ne n1]; exact e
theorem Keeps.set_g {d g : Addr} {H : Hp} {o : HO} : Keeps d g H (upd H g o) := fun c x _ n2 e => by rw [upd_ne n2]; exact e

/-! ### the deck -/
def deckKvs (g : Addr) (m t : Int) : List (Key × V) := [(Sum.inr "great", .ref g), (Sum.inr "mixed", .int m), (Sum.inr "turns", .int t)]
structure Deck (H : Hp) (d g : Addr) : Prop where
  ex : ∃ (gs : List Int) (m t : Int), H d = some (.dK (deckKvs g m t)) ∧ H g = some (.lst (gs.map V.int)) ∧ gs.length ≤ 64 ∧ 0 ≤ m ∧ m < 4294967296
theorem Deck.ne {H : Hp} {d g : Addr} (D : Deck H d g) : d ≠ g := by
  obtain ⟨gs, m, t, h1, h2, _⟩ := D.ex
  exact ne_of h1 h2 (by intro z; cases z)
theorem Deck.same {H H' : Hp} {d g : Addr} (D : Deck H d g) (s : Same H H') : Deck H' d g := by
  obtain ⟨gs, m, t, h1, h2, r⟩ := D.ex
  exact ⟨gs, m, t, s _ _ h1, s _ _ h2, r⟩
theorem Deck.tup_ne {H : Hp} {d g b : Addr} {xs : List V} (D : Deck H d g) (h : H b = some (.tup xs)) : b ≠ d ∧ b ≠ g := by
  obtain ⟨gs, m, t, h1, h2, _⟩ := D.ex
  exact ⟨ne_of h h1 (by intro z; cases z), ne_of h h2 (by intro z; cases z)⟩
/-- behind a draw -/
structure Drawn (d g : Addr) (H H' : Hp) : Prop where
  keeps : Keeps d g H H'
  deck : Deck H' d g
theorem Drawn.trans {d g : Addr} {H H1 H2 : Hp} (a : Drawn d g H H1) (b : Drawn d g H1 H2) : Drawn d g H H2 := ⟨a.keeps.trans b.keeps, b.deck⟩
theorem Drawn.then_same {d g : Addr} {H H1 H2 : Hp} (a : Drawn d g H H1) (s : Same H1 H2) : Drawn d g H H2 := ⟨a.keeps.trans (.of_same s), a.deck.same s⟩
theorem Drawn.tup {d g b : Addr} {H H' : Hp} {xs : List V} (D : Deck H d g) (a : Drawn d g H H') (h : H b = some (.tup xs)) : H' b = some (.tup xs) := by
  obtain ⟨n1, n2⟩ := D.tup_ne h
  exact a.keeps b _ n1 n2 h

/-! ### roads -/
/-- x is the pair r -/
def IsPr (H : Hp) (x : V) (r : Int × Int) : Prop := ∃ t, x = .ref t ∧ H t = some (.tup [.int r.1, .int r.2])
theorem IsPr.same {H H' : Hp} {x : V} {r : Int × Int} (h : IsPr H x r) (s : Same H H') : IsPr H' x r := by
  obtain ⟨t, e, h⟩ := h
  exact ⟨t, e, s _ _ h⟩
theorem IsPr.drawn {d g : Addr} {H H' : Hp} {x : V} {r : Int × Int} (h : IsPr H x r) (D : Deck H d g) (a : Drawn d g H H') : IsPr H' x r := by
  obtain ⟨t, e, h⟩ := h
  exact ⟨t, e, a.tup D h⟩
theorem IsPr.inj {H : Hp} {x : V} {r q : Int × Int} (h : IsPr H x r) (h' : IsPr H x q) : r = q := by
  obtain ⟨t, rfl, h⟩ := h
  obtain ⟨t', e, h'⟩ := h'
  cases e
  have e2 : ([V.int r.1, V.int r.2] : List V) = [V.int q.1, V.int q.2] := HO.tup.inj (Option.some.inj (h.symm.trans h'))
  have e3 : r.1 = q.1 ∧ r.2 = q.2 := by simpa using e2
  exact Prod.ext e3.1 e3.2
/-- the pair that x is -/
def prOf (H : Hp) (x : V) : Int × Int := match x with
  | .ref t => (match H t with
    | some (.tup [.int a, .int b]) => (a, b)
    | _ => (0, 0))
  | _ => (0, 0)
theorem IsPr.of {H : Hp} {x : V} {r : Int × Int} (h : IsPr H x r) : prOf H x = r := by
  obtain ⟨t, rfl, h⟩ := h
  unfold prOf
  simp only [h]
theorem IsPr.dp {K : PySem.W.Frag} {H : Hp} {x : V} {r : Int × Int} (h : IsPr H x r) : Dp K H x (.tuple [.int r.1, .int r.2]) := by
  obtain ⟨t, rfl, h⟩ := h
  exact .tup (SqT.of h) (.cons (.int _) (.cons (.int _) .nil))

/-- the items are the pairs -/
abbrev Prs (H : Hp) (xs : List V) (ps : List (Int × Int)) : Prop := Paired (IsPr H) xs ps
theorem Prs.get {H : Hp} : ∀ {xs : List V} {ps : List (Int × Int)} {i : Nat} {x : V}, Prs H xs ps → xs[i]? = some x → ∃ r, ps[i]? = some r ∧ IsPr H x r
  | _, _, _, _, .nil, e => by simp at e
  | _, _, 0, _, .cons r _, e => by simp at e; subst e; exact ⟨_, rfl, r⟩
  | _, _, i + 1, x, .cons _ t, e => Prs.get (i := i) (x := x) t (by simpa using e)
theorem Prs.got {H : Hp} : ∀ {xs : List V} {ps : List (Int × Int)} {i : Nat} {r : Int × Int}, Prs H xs ps → ps[i]? = some r → ∃ x, xs[i]? = some x ∧ IsPr H x r
  | _, _, _, _, .nil, e => by simp at e
  | _, _, 0, _, .cons r _, e => by simp at e; subst e; exact ⟨_, rfl, r⟩
  | _, _, i + 1, x, .cons _ t, e => Prs.got (i := i) (r := x) t (by simpa using e)
theorem Prs.mapH {H H' : Hp} (k : ∀ x r, IsPr H x r → IsPr H' x r) {xs : List V} {ps : List (Int × Int)} (h : Prs H xs ps) : Prs H' xs ps := Paired.mapP h k
theorem Prs.same {H H' : Hp} {xs : List V} {ps : List (Int × Int)} (h : Prs H xs ps) (s : Same H H') : Prs H' xs ps := h.mapH fun _ _ q => q.same s
theorem Prs.snoc {H : Hp} : ∀ {xs : List V} {ps : List (Int × Int)} {x : V} {r : Int × Int}, Prs H xs ps → IsPr H x r → Prs H (xs ++ [x]) (ps ++ [r])
  | _, _, _, _, .nil, q => .cons q .nil
  | _, _, _, _, .cons a t, q => .cons a (Prs.snoc t q)
theorem Prs.dps {K : PySem.W.Frag} {H : Hp} : ∀ {xs : List V} {ps : List (Int × Int)}, Prs H xs ps → DpAll K H xs (ps.map fun r => PyData.tuple [.int r.1, .int r.2])
  | _, _, .nil => .nil
  | _, _, .cons a t => .cons a.dp (Prs.dps t)
/-- some items that are pairs each, of which all hold -/
theorem Prs.ex {H : Hp} {φ : Int × Int → Prop} : ∀ {xs : List V}, (∀ x ∈ xs, ∃ r, IsPr H x r ∧ φ r) → ∃ ps, Prs H xs ps ∧ ∀ r ∈ ps, φ r
  | [], _ => ⟨[], .nil, fun _ h => nomatch h⟩
  | x :: xs, h => by
    obtain ⟨r, h1, h2⟩ := h x List.mem_cons_self
    obtain ⟨ps, h3, h4⟩ := Prs.ex (xs := xs) fun y hy => h y (List.mem_cons_of_mem _ hy)
    refine ⟨r :: ps, .cons h1 h3, fun q hq => ?_⟩
    rcases List.mem_cons.mp hq with e | hq
    · rw [e]; exact h2
    · exact h4 q hq
theorem Prs.mem {H : Hp} {xs : List V} {ps : List (Int × Int)} {x : V} (h : Prs H xs ps) (hx : x ∈ xs) : ∃ r ∈ ps, IsPr H x r := by
  obtain ⟨i, hi⟩ := List.mem_iff_getElem?.mp hx
  obtain ⟨r, h1, h2⟩ := h.get hi
  exact ⟨r, List.mem_of_getElem? h1, h2⟩

/-- the net at nt: so many places, the roads -/
structure NetAt (H : Hp) (nt tt : Addr) (many : Int) (xs : List V) (ps : List (Int × Int)) : Prop where
  top : H nt = some (.tup [.int many, .ref tt])
  roads : H tt = some (.tup xs)
  prs : Prs H xs ps
theorem NetAt.same {H H' : Hp} {nt tt : Addr} {many : Int} {xs : List V} {ps : List (Int × Int)} (n : NetAt H nt tt many xs ps) (s : Same H H') : NetAt H' nt tt many xs ps := ⟨s _ _ n.top, s _ _ n.roads, n.prs.same s⟩
theorem NetAt.drawn {H H' : Hp} {d g nt tt : Addr} {many : Int} {xs : List V} {ps : List (Int × Int)} (n : NetAt H nt tt many xs ps) (D : Deck H d g) (a : Drawn d g H H') : NetAt H' nt tt many xs ps :=
  ⟨a.tup D n.top, a.tup D n.roads, n.prs.mapH fun _ _ q => q.drawn D a⟩
/-- what the law's nets keep -/
structure Good (many : Int) (ps : List (Int × Int)) : Prop where
  m2 : 2 ≤ many
  m24 : many ≤ 24
  few : ps.length ≤ 60
  rise : ∀ r ∈ ps, 0 ≤ r.1 ∧ r.1 < r.2 ∧ r.2 < many
theorem Good.rising {many : Int} {ps : List (Int × Int)} (G : Good many ps) : Rising ps := fun r h => (G.rise r h).2.1
theorem small_line {n : Nat} (h : n ≤ 10000) : n < sizeLine := Nat.lt_of_le_of_lt h (by decide)
theorem small_line' {n : Nat} (h : n ≤ 10000) : n ≤ sizeLine := Nat.le_of_lt (small_line h)
theorem int_items {ns : List Int} {i : Nat} {y : V} (h : (ns.map V.int)[i]? = some y) : ∃ z, ns[i]? = some z ∧ y = V.int z := by
  rw [List.getElem?_map] at h
  cases e : ns[i]? with
  | none => rw [e] at h; cases h
  | some z => rw [e] at h; exact ⟨z, rfl, (Option.some.inj h).symm⟩
theorem flat_ints (ns : List Int) : (ns.map V.int).all flatV = true := by
  rw [List.all_map]
  exact List.all_eq_true.mpr fun _ _ => rfl
theorem inV_ints (k : Int) (ns : List Int) : inV (.int k) (ns.map V.int) = decide (k ∈ ns) := by
  unfold inV
  rw [List.any_map]
  by_cases h : k ∈ ns
  · rw [decide_eq_true h]
    exact List.any_eq_true.mpr ⟨k, h, by simp [eqV]⟩
  · rw [decide_eq_false h]
    refine List.any_eq_false.mpr fun z hz e => h ?_
    have e' : z = k := by simpa [eqV] using e
    rw [← e']
    exact hz
theorem dps_ints {K : PySem.W.Frag} {H : Hp} : ∀ ns : List Int, DpAll K H (ns.map V.int) (ns.map PyData.int)
  | [] => .nil
  | n :: ns => .cons (.int n) (dps_ints ns)
end SkW
set_option Elab.async false
set_option linter.all false
set_option maxRecDepth 100000
set_option maxHeartbeats 4000000
namespace SkW
open PySem PySem.Spec PyProof.Rows L2 SkG SkM
section
variable {P : Program} {w : World} {K : PySem.W.Frag} {mg : Str → Option Value} {base : Heap}

/-! ### roads_from, roads_to -/
def atFoot (p : Int) (r : Int × Int) : Bool := decide (r.1 = p)
def atHead (p : Int) (r : Int × Int) : Bool := decide (r.2 = p)
/-- the answer: the places of the roads that f takes, in a tuple that is new -/
def spRoads (f : Int → Int × Int → Bool) : Sp := fun vs H Q _ => ∃ (nt tt : Addr) (many p : Int) (xs : List V) (ps : List (Int × Int)), vs = [.ref nt, .int p] ∧ NetAt H nt tt many xs ps ∧ ps.length ≤ 60 ∧
  ∀ H' q, Same H H' → H' q = some (.tup ((hits (f p) ps ps.length).map V.int)) → Q (.ref q) H'
theorem v_int_eq (a b : Int) : decide (V.int a = V.int b) = decide (a = b) := by
  by_cases e : a = b
  · rw [decide_eq_true e, e]
    exact decide_eq_true rfl
  · rw [decide_eq_false e]
    exact decide_eq_false fun z => e (V.int.inj z)
theorem scFrom : FnScope ["net", "place", "road", "pair"] ["net", "place"] (defScope sFrom) := ⟨rfl, rfl, rfl, by decide +kernel, rfl, by decide +kernel, by decide +kernel⟩
theorem ok_from {f : Addr} {fd : FuncData} {k : Nat} (F : Fun K "roads_from" "roads_from" sFrom f fd) (me : mg "enumerate" = none) (mt : mg "tuple" = none) : FnOk P w K mg base CX0 (k + 1) f fd ["net", "place"] (spRoads atFoot) := by
  refine F.ok scFrom (fun vs H Q E h => ?_) (fun cdv A outer s H vs Q E hr h => ?_)
  · obtain ⟨nt, tt, many, p, xs, ps, rfl, _⟩ := h
    rfl
  · obtain ⟨nt, tt, many, p, xs, ps, rfl, N, hl, q⟩ := h
    refine ⟨_, pss_one (ps_ret (pe_callTy call_tuple_of (by rfl) mt (by decide +kernel) (pa_cons
      (pe_lc (own := [("road", 2), ("pair", 3)]) (g := gTup K 2 (gCons (gName 2) (gCons (gName 3) gNil))) (tt := tTest (tOp rEq (tOp (rIxT K) (tVar 3) (tC (.int 0))) (tVar 1))) (te := tVar 2) rfl scFrom.nd
        (pi_enumT (by rfl) me (pa_cons (pe_ix ix_tup (pv 0) pe_int (fun _ _ => rfl)) pa_nil))
        (blkOk_by (N := ["net", "place", "road", "pair"]) (sc := defScope sFrom) (by decide +kernel))
        (fun _ _ _ _ _ => pg_tup rfl (pgs_cons (pg_name (i := 2) scFrom.nd rfl (Or.inl rfl)) (pgs_cons (pg_name (i := 3) scFrom.nd rfl (Or.inl rfl)) pgs_nil)))
        (fun _ _ _ _ _ => pts_one (pt_cmpR op_eq (pe_ix ix_tup (pv 3) pe_int (fun _ _ => rfl)) (pv 1) (nomark _)))
        (fun _ _ _ _ _ => pv 2)) pa_nil))), ?_⟩
    refine ⟨.ref nt, rfl, nt, _, 1, .ref tt, rfl, rfl, SqT.of N.top, rfl, tt, xs, rfl, SqT.of N.roads, fun D hD => ?_⟩
    have lenE : xs.length = ps.length := Paired.length N.prs
    refine lc_it (walk_enumT (K := K) (a := tt) (xs := xs)) (fun i H' => Same H H' ∧ H' D = some (.lst ((hits (atFoot p) ps i).map V.int))) ⟨same_upd hD, upd_same⟩ (fun i H' _ h => SqT.of (h.1 _ _ N.roads)) ?_ ?_
    · rintro i y H1 H2 hi ⟨sm, hd⟩ ⟨T, x1, x2, rfl, nT, rfl, e1, e2⟩
      obtain rfl : V.int (i : Nat) = x1 := Option.some.inj e1
      obtain ⟨r, hr, t, rfl, ht⟩ := (N.prs.same sm).get e2
      have nTD : D ≠ T := ne_of_none hd nT
      have smT := same_upd (o := .tup [.int (i : Nat), .ref t]) nT
      have nx : hits (atFoot p) ps (i + 1) = hits (atFoot p) ps i ++ (if atFoot p r = true then [(i : Int)] else []) := hits_succ hr
      refine ⟨T, _, rfl, SqT.of upd_same, rfl, _, _, rfl, _, _, rfl, rfl, rfl, ?_⟩
      refine ⟨.ref t, rfl, t, _, 0, .int r.1, rfl, rfl, SqT.of (smT _ _ ht), rfl, .int p, rfl, rfl, _, rfl, ?_⟩
      rw [v_int_eq, show decide (r.1 = p) = atFoot p r from rfl]
      cases c : atFoot p r with
      | true =>
        refine iteT ?_
        rw [c, if_pos rfl] at nx
        refine ⟨.int i, rfl, (hits (atFoot p) ps i).map V.int, smT _ _ hd, ?_, ?_, ?_⟩
        · rw [List.length_map]
          have := hits_len (f := atFoot p) (ps := ps) i
          exact small_line (by omega)
        · intro b o e
          rw [upd_ne (show b ≠ D from fun z => by rw [z, hD] at e; cases e)]
          exact smT _ _ (sm _ _ e)
        · rw [upd_same, nx, List.map_append]
          rfl
      | false =>
        refine iteF ?_
        rw [c, if_neg Bool.false_ne_true, List.append_nil] at nx
        refine ⟨sm.trans smT, ?_⟩
        rw [nx]
        exact smT _ _ hd
    · rintro H1 ⟨sm, hd⟩
      refine ⟨D, _, rfl, .inl ⟨SqL.of hd, fun l hl => ?_⟩⟩
      refine q _ l (sm.trans (same_upd hl)) ?_
      rw [upd_same, lenE]
theorem scTo : FnScope ["net", "place", "road", "pair"] ["net", "place"] (defScope sTo) := ⟨rfl, rfl, rfl, by decide +kernel, rfl, by decide +kernel, by decide +kernel⟩
theorem ok_to {f : Addr} {fd : FuncData} {k : Nat} (F : Fun K "roads_to" "roads_to" sTo f fd) (me : mg "enumerate" = none) (mt : mg "tuple" = none) : FnOk P w K mg base CX0 (k + 1) f fd ["net", "place"] (spRoads atHead) := by
  refine F.ok scTo (fun vs H Q E h => ?_) (fun cdv A outer s H vs Q E hr h => ?_)
  · obtain ⟨nt, tt, many, p, xs, ps, rfl, _⟩ := h
    rfl
  · obtain ⟨nt, tt, many, p, xs, ps, rfl, N, hl, q⟩ := h
    refine ⟨_, pss_one (ps_ret (pe_callTy call_tuple_of (by rfl) mt (by decide +kernel) (pa_cons
      (pe_lc (own := [("road", 2), ("pair", 3)]) (g := gTup K 2 (gCons (gName 2) (gCons (gName 3) gNil))) (tt := tTest (tOp rEq (tOp (rIxT K) (tVar 3) (tC (.int 1))) (tVar 1))) (te := tVar 2) rfl scTo.nd
        (pi_enumT (by rfl) me (pa_cons (pe_ix ix_tup (pv 0) pe_int (fun _ _ => rfl)) pa_nil))
        (blkOk_by (N := ["net", "place", "road", "pair"]) (sc := defScope sTo) (by decide +kernel))
        (fun _ _ _ _ _ => pg_tup rfl (pgs_cons (pg_name (i := 2) scTo.nd rfl (Or.inl rfl)) (pgs_cons (pg_name (i := 3) scTo.nd rfl (Or.inl rfl)) pgs_nil)))
        (fun _ _ _ _ _ => pts_one (pt_cmpR op_eq (pe_ix ix_tup (pv 3) pe_int (fun _ _ => rfl)) (pv 1) (nomark _)))
        (fun _ _ _ _ _ => pv 2)) pa_nil))), ?_⟩
    refine ⟨.ref nt, rfl, nt, _, 1, .ref tt, rfl, rfl, SqT.of N.top, rfl, tt, xs, rfl, SqT.of N.roads, fun D hD => ?_⟩
    have lenE : xs.length = ps.length := Paired.length N.prs
    refine lc_it (walk_enumT (K := K) (a := tt) (xs := xs)) (fun i H' => Same H H' ∧ H' D = some (.lst ((hits (atHead p) ps i).map V.int))) ⟨same_upd hD, upd_same⟩ (fun i H' _ h => SqT.of (h.1 _ _ N.roads)) ?_ ?_
    · rintro i y H1 H2 hi ⟨sm, hd⟩ ⟨T, x1, x2, rfl, nT, rfl, e1, e2⟩
      obtain rfl : V.int (i : Nat) = x1 := Option.some.inj e1
      obtain ⟨r, hr, t, rfl, ht⟩ := (N.prs.same sm).get e2
      have nTD : D ≠ T := ne_of_none hd nT
      have smT := same_upd (o := .tup [.int (i : Nat), .ref t]) nT
      have nx : hits (atHead p) ps (i + 1) = hits (atHead p) ps i ++ (if atHead p r = true then [(i : Int)] else []) := hits_succ hr
      refine ⟨T, _, rfl, SqT.of upd_same, rfl, _, _, rfl, _, _, rfl, rfl, rfl, ?_⟩
      refine ⟨.ref t, rfl, t, _, 1, .int r.2, rfl, rfl, SqT.of (smT _ _ ht), rfl, .int p, rfl, rfl, _, rfl, ?_⟩
      rw [v_int_eq, show decide (r.2 = p) = atHead p r from rfl]
      cases c : atHead p r with
      | true =>
        refine iteT ?_
        rw [c, if_pos rfl] at nx
        refine ⟨.int i, rfl, (hits (atHead p) ps i).map V.int, smT _ _ hd, ?_, ?_, ?_⟩
        · rw [List.length_map]
          have := hits_len (f := atHead p) (ps := ps) i
          exact small_line (by omega)
        · intro b o e
          rw [upd_ne (show b ≠ D from fun z => by rw [z, hD] at e; cases e)]
          exact smT _ _ (sm _ _ e)
        · rw [upd_same, nx, List.map_append]
          rfl
      | false =>
        refine iteF ?_
        rw [c, if_neg Bool.false_ne_true, List.append_nil] at nx
        refine ⟨sm.trans smT, ?_⟩
        rw [nx]
        exact smT _ _ hd
    · rintro H1 ⟨sm, hd⟩
      refine ⟨D, _, rfl, .inl ⟨SqL.of hd, fun l hl => ?_⟩⟩
      refine q _ l (sm.trans (same_upd hl)) ?_
      rw [upd_same, lenE]
end
end SkW
set_option Elab.async false
set_option linter.all false
set_option maxRecDepth 100000
set_option maxHeartbeats 4000000
namespace SkW
open PySem PySem.Spec PyProof.Rows L2 SkG SkM
section
variable {P : Program} {w : World} {K : PySem.W.Frag} {mg : Str → Option Value} {base : Heap}

/-! ### places_from, leads -/
theorem putK_few (c : List (Key × V)) (k : Key) (x : V) : (putK c k x).length ≤ c.length + 1 := by
  unfold putK
  split
  · rw [List.length_map]; exact Nat.le_succ _
  · rw [List.length_append]; exact Nat.le_refl _
def spPlaces : Sp := fun vs H Q _ => ∃ (nt tt : Addr) (many p : Int) (xs : List V) (ps : List (Int × Int)), vs = [.ref nt, .int p] ∧ NetAt H nt tt many xs ps ∧ Rising ps ∧ ps.length ≤ 60 ∧
  ∀ (H' : Hp) (q : Addr) (kvs : List (Key × V)), Same H H' → H' q = some (.dK kvs) → (∀ k : Int, (valV kvs (Sum.inl k)).isSome = true ↔ Reach ps p k) → Q (.ref q) H'
theorem scPlaces : FnScope ["net", "place", "found", "a", "b"] ["net", "place"] (defScope sPlaces) := ⟨rfl, rfl, rfl, by decide +kernel, rfl, by decide +kernel, by decide +kernel⟩
theorem ok_places {f : Addr} {fd : FuncData} {k : Nat} (F : Fun K "places_from" "places_from" sPlaces f fd) (ms : mg "sorted" = none) : FnOk P w K mg base CX0 (k + 1) f fd ["net", "place"] spPlaces := by
  refine F.ok scPlaces (fun vs H Q E h => ?_) (fun cdv A outer s H vs Q E hr h => ?_)
  · obtain ⟨nt, tt, many, p, xs, ps, rfl, _⟩ := h
    rfl
  · obtain ⟨nt, tt, many, p, xs, ps, rfl, N, rise, few, q⟩ := h
    have hu := hu_of hr
    refine ⟨_, pss_cons (ps_set (i := 2) scPlaces.nd rfl (Or.inl rfl) (pe_disp (pps_cons (pv 1) pe_bl pps_nil) (by rfl) (by rfl) (fun z => by cases z) (by decide)))
      (pss_cons (ps_for PassesOwn.never rfl (pi_list (pe_callB call_sorted_tup (by rfl) ms (by decide +kernel) (pa_cons (pe_ix ix_tup (pv 0) pe_int (fun _ _ => rfl)) pa_nil)))
          (pg_tup rfl (pgs_cons (pg_name (i := 3) scPlaces.nd rfl (Or.inl rfl)) (pgs_cons (pg_name (i := 4) scPlaces.nd rfl (Or.inl rfl)) pgs_nil)))
        (pss_one (ps_if (pt_cmp (pc_din hu (pv 3) (pv 2))) (pss_one (ps_dput hu (pv 2) (pv 4) pe_bl rfl)) pss_nil)))
      (pss_one (ps_ret (pv 2)))), ?_⟩
    -- found = {place: True}
    intro f hf
    refine ⟨.int p, rfl, upd_same, [(Sum.inl p, .bl true)], rfl, by show 1 ≤ 15; decide, ?_⟩
    rw [upd_upd]
    have s1 : Same H (upd H f (.dK [(Sum.inl p, .bl true)])) := same_upd hf
    have N1 := N.same s1
    have isp : ∀ x ∈ xs, IsPr H x (prOf H x) := fun x hx => by
      obtain ⟨r, _, h⟩ := N.prs.mem hx
      rw [h.of]
      exact h
    -- sorted(net[1])
    refine ⟨.ref nt, rfl, nt, _, 1, .ref tt, rfl, rfl, SqT.of N1.top, rfl, tt, xs, prOf H, rfl, SqT.of N1.roads, fun x hx => (isp x hx).same s1, fun ys L perm srt hL => ?_⟩
    have s2 : Same H (upd (upd H f (.dK [(Sum.inl p, .bl true)])) L (.lst ys)) := s1.trans (same_upd hL)
    have nfL : f ≠ L := ne_of_none upd_same hL
    have mem2 : ∀ r, r ∈ ys.map (prOf H) ↔ r ∈ ps := fun r => by
      constructor
      · intro h
        obtain ⟨x, hx, e⟩ := List.mem_map.mp h
        obtain ⟨r', h1, h2⟩ := N.prs.mem (perm.mem_iff.mp hx)
        rw [← e, h2.of]
        exact h1
      · intro h
        obtain ⟨i, hi⟩ := List.mem_iff_getElem?.mp h
        obtain ⟨x, hx, h2⟩ := N.prs.got hi
        exact List.mem_map.mpr ⟨x, perm.mem_iff.mpr (List.mem_of_getElem? hx), h2.of⟩
    have rise2 : Rising (ys.map (prOf H)) := fun r h => rise r ((mem2 r).mp h)
    have srt2 : (ys.map (prOf H)).Pairwise fun r q => r.1 ≤ q.1 := List.pairwise_map.mpr srt
    have len2 : ys.length ≤ 60 := by rw [perm.length_eq, Paired.length N.prs]; exact few
    refine ⟨L, rfl, ⟨ys, SqL.of upd_same⟩, for_list (K := K) (a := L) (xs := ys) (fun i σ H2 => ∃ (kvs : List (Key × V)) (v3 v4 : Option V), σ = [some (.ref nt), some (.int p), some (.ref f), v3, v4] ∧ Same H H2 ∧ H2 L = some (.lst ys) ∧ H2 f = some (.dK kvs) ∧
        kvs.length ≤ i + 1 ∧ ∀ k : Int, (valV kvs (Sum.inl k)).isSome = true ↔ InB p ((ys.map (prOf H)).take i).reverse k)
      ⟨[(Sum.inl p, .bl true)], none, none, rfl, s2, upd_same, by rw [upd_ne nfL, upd_same]; rfl, Nat.le_refl _, fun k => ?_⟩ (fun i σ H2 _ ⟨_, _, _, _, _, h, _⟩ => SqL.of h) ?_ ?_⟩
    · show _ ↔ k = p
      by_cases e : k = p
      · rw [e]
        exact ⟨fun _ => rfl, fun _ => by rw [valV_pos rfl]; rfl⟩
      · refine ⟨fun h => ?_, fun h => absurd h e⟩
        rw [valV_neg (fun z => e (Sum.inl.inj z).symm)] at h
        cases h
    · rintro i x σ H2 hi ⟨kvs, v3, v4, rfl, sm, hL2, hf2, hl, iff_⟩
      have hx : x ∈ xs := perm.mem_iff.mp (List.mem_of_getElem? hi)
      obtain ⟨t, et, ht⟩ := (isp x hx).same sm
      generalize hr' : prOf H x = r at ht
      subst et
      have hti : (ys.map (prOf H))[i]? = some r := by rw [List.getElem?_map, hi, ← hr']; rfl
      have il : i < ys.length := (List.getElem?_eq_some_iff.mp hi).1
      refine ⟨t, _, rfl, SqT.of ht, rfl, _, _, rfl, _, _, rfl, rfl, ?_⟩
      refine ⟨.int r.1, rfl, .ref f, rfl, f, _, rfl, DGet.k (k := Sum.inl r.1) hf2, _, rfl, ?_⟩
      rw [rev_take_succ hti]
      cases e : valV kvs (Sum.inl r.1 : Key) with
      | none =>
        refine iteF ?_
        refine ⟨kvs, _, _, rfl, sm, hL2, hf2, by omega, fun k => (iff_ k).trans ⟨.inl, fun h => ?_⟩⟩
        rcases h with h | ⟨h, _⟩
        · exact h
        · have := (iff_ r.1).mpr h
          rw [e] at this
          cases this
      | some v =>
        refine iteT ?_
        refine ⟨.ref f, rfl, .int r.2, rfl, f, _, rfl, DPut.k (k := Sum.inl r.2) hf2 (small_line (by omega)), ?_⟩
        refine ⟨_, _, _, rfl, fun b o z => ?_, ?_, upd_same, Nat.le_trans (putK_few _ _ _) (by omega), fun k => ?_⟩
        · rw [upd_ne (show b ≠ f from fun z' => by rw [z', hf] at z; cases z)]
          exact sm _ _ z
        · rw [upd_ne nfL.symm]
          exact hL2
        · rw [valV_put]
          have h1 : InB p ((ys.map (prOf H)).take i).reverse r.1 := (iff_ r.1).mp (by rw [e]; rfl)
          by_cases ek : k = r.2
          · rw [if_pos (show (Sum.inl k : Key) = Sum.inl r.2 by rw [ek])]
            exact ⟨fun _ => .inr ⟨h1, ek⟩, fun _ => rfl⟩
          · rw [if_neg (show ¬ (Sum.inl k : Key) = Sum.inl r.2 from fun z => ek (Sum.inl.inj z))]
            refine (iff_ k).trans ⟨.inl, fun h => ?_⟩
            rcases h with h | ⟨_, h⟩
            · exact h
            · exact absurd h ek
    · rintro σ H2 ⟨kvs, v3, v4, rfl, sm, hL2, hf2, hl, iff_⟩
      refine ⟨.ref f, rfl, q H2 f kvs sm hf2 fun k => (iff_ k).trans ?_⟩
      rw [List.take_of_length_le (by rw [List.length_map]; exact Nat.le_refl _)]
      exact (inB_iff rise2 srt2 k).trans ⟨fun h => h.mono fun r hr => (mem2 r).mp hr, fun h => h.mono fun r hr => (mem2 r).mpr hr⟩

/-- leads: whether the other road's foot is reached from the head of the one -/
def spLeads : Sp := fun vs H Q _ => ∃ (nt tt : Addr) (many : Int) (one other : Nat) (xs : List V) (ps : List (Int × Int)) (r1 r2 : Int × Int), vs = [.ref nt, .int one, .int other] ∧ NetAt H nt tt many xs ps ∧ Rising ps ∧ ps.length ≤ 60 ∧ ps[one]? = some r1 ∧ ps[other]? = some r2 ∧
  ∀ (H' : Hp) (b : Bool), Same H H' → (b = true ↔ Reach ps r1.2 r2.1) → Q (.bl b) H'
theorem scLeads : FnScope ["net", "one", "other"] ["net", "one", "other"] (defScope sLeads) := ⟨rfl, rfl, rfl, by decide +kernel, rfl, by decide +kernel, by decide +kernel⟩
theorem ok_leads {f fP : Addr} {fd fdP : FuncData} (F : Fun K "leads" "leads" sLeads f fd) (FP : Fun K "places_from" "places_from" sPlaces fP fdP) (bP : Binds K fdP ["net", "place"] []) (gP : mg "places_from" = some (.ref fP)) (ms : mg "sorted" = none) :
    FnOk P w K mg base CX0 2 f fd ["net", "one", "other"] spLeads := by
  have GP : FnOk P w K mg base CX0 1 fP fdP ["net", "place"] spPlaces := ok_places FP ms
  refine F.ok scLeads (fun vs H Q E h => ?_) (fun cdv A outer s H vs Q E hr h => ?_)
  · obtain ⟨nt, tt, many, one, other, xs, ps, r1, r2, rfl, _⟩ := h
    rfl
  · obtain ⟨nt, tt, many, one, other, xs, ps, r1, r2, rfl, N, rise, few, h1, h2, q⟩ := h
    have hu := hu_of hr
    obtain ⟨x1, e1, t1, rfl, ht1⟩ := N.prs.got h1
    obtain ⟨x2, e2, t2, rfl, ht2⟩ := N.prs.got h2
    refine ⟨_, pss_one (ps_ret (pe_cmp (pc_din hu
      (pe_ix ix_tup (pe_ix ix_tup (pe_ix ix_tup (pv 0) pe_int (fun _ _ => rfl)) (pv 2) (fun _ _ => rfl)) pe_int (fun _ _ => rfl))
      (pe_call GP hr (by rfl) gP FP.kp bP .nil pass0 (pa_cons (pv 0) (pa_cons (pe_ix ix_tup (pe_ix ix_tup (pe_ix ix_tup (pv 0) pe_int (fun _ _ => rfl)) (pv 1) (fun _ _ => rfl)) pe_int (fun _ _ => rfl)) pa_nil)))) rfl)), ?_⟩
    refine ⟨.ref nt, rfl, nt, _, 1, .ref tt, rfl, rfl, SqT.of N.top, rfl, .int other, rfl, tt, xs, _, .ref t2, rfl, rfl, SqT.of N.roads, atI_nat e2, t2, _, 0, .int r2.1, rfl, rfl, SqT.of ht2, rfl, ?_⟩
    refine ⟨.ref nt, rfl, .ref nt, rfl, nt, _, 1, .ref tt, rfl, rfl, SqT.of N.top, rfl, .int one, rfl, tt, xs, _, .ref t1, rfl, rfl, SqT.of N.roads, atI_nat e1, t1, _, 1, .int r1.2, rfl, rfl, SqT.of ht1, rfl, ?_⟩
    refine ⟨nt, tt, many, r1.2, xs, ps, rfl, N, rise, few, fun H' d kvs sm hd iff_ => ?_⟩
    exact ⟨d, _, rfl, DGet.k (k := Sum.inl r2.1) hd, q H' _ sm (iff_ r2.1)⟩
end
end SkW
set_option Elab.async false
set_option linter.all false
set_option maxRecDepth 100000
set_option maxHeartbeats 2000000
namespace SkW
open PySem PySem.Spec PyProof.Rows L2

/-! ### what is told of ints, of pairs of ints, as data -/
def prD (r : Int × Int) : PyData := .tuple [.int r.1, .int r.2]
theorem ints_lay : ∀ ns : List Int, PyData.canLayAll0 (ns.map PyData.int) = true
  | [] => by simp [PyData.canLayAll0]
  | n :: ns => by simp [PyData.canLayAll0, PyData.canLay0, ints_lay ns]
theorem ints_flat : ∀ ns : List Int, PyData.depthAll (ns.map PyData.int) = 0
  | [] => by simp [PyData.depthAll]
  | n :: ns => by simp [PyData.depthAll, PyData.depth, ints_flat ns]
theorem ints_plain : ∀ ns : List Int, PyData.hasDictAll (ns.map PyData.int) = false
  | [] => by simp [PyData.hasDictAll]
  | n :: ns => by simp [PyData.hasDictAll, PyData.hasDict, ints_plain ns]
theorem prs_lay : ∀ ps : List (Int × Int), PyData.canLayAll0 (ps.map prD) = true
  | [] => by simp [PyData.canLayAll0]
  | r :: ps => by simp [PyData.canLayAll0, PyData.canLay0, prD, prs_lay ps]
theorem prs_depth : ∀ ps : List (Int × Int), PyData.depthAll (ps.map prD) ≤ 1
  | [] => by simp [PyData.depthAll]
  | r :: ps => by
    have := prs_depth ps
    simp [PyData.depthAll, PyData.depth, prD]
    exact Nat.max_le.mpr ⟨Nat.le_refl _, this⟩
theorem prs_plain : ∀ ps : List (Int × Int), PyData.hasDictAll (ps.map prD) = false
  | [] => by simp [PyData.hasDictAll]
  | r :: ps => by simp [PyData.hasDictAll, PyData.hasDict, prD, prs_plain ps]
theorem shaped_ints (ns : List Int) : SeqAt.shaped (.list (ns.map PyData.int)) = true := by
  unfold SeqAt.shaped
  simp [PyData.canLay0, ints_lay, PyData.depth, ints_flat]
theorem shaped_prs (ps : List (Int × Int)) : SeqAt.shaped (.list (ps.map prD)) = true := by
  have := prs_depth ps
  unfold SeqAt.shaped
  simp [PyData.canLay0, prs_lay, PyData.depth]
  omega
theorem shaped_nil : SeqAt.shaped (.list []) = true := shaped_ints []
theorem eqv_nil (ds : List PyData) : PyData.eqv (.list ds) (.list []) = ds.isEmpty := by
  cases ds <;> simp [PyData.eqv, PyData.eqvAll]

/-! ### how long they are when shown -/
theorem digits_few : ∀ n : Fin 100, ((toString ((n.val : Nat) : Int) : String) : Str).length ≤ 2 := by decide +kernel
theorem small_text {i : Int} (h0 : 0 ≤ i) (h1 : i < 100) : (PyData.shown (.int i)).length ≤ 2 := by
  obtain ⟨n, rfl⟩ : ∃ n : Nat, i = (n : Int) := ⟨i.toNat, by omega⟩
  have := digits_few ⟨n, by omega⟩
  simpa [PyData.shown] using this
theorem small_log {i : Int} (h0 : 0 ≤ i) (h1 : i < 100) : i.natAbs.log2 < 1920 := by
  rcases Nat.eq_zero_or_pos i.natAbs with e | e
  · rw [e]; decide
  · have : i.natAbs.log2 < 7 := (Nat.log2_lt (by omega)).mpr (by omega)
    omega
theorem small_shows {i : Int} (h0 : 0 ≤ i) (h1 : i < 100) : PyData.showable (.int i) = true := by
  simp [PyData.showable, small_log h0 h1]
theorem tup_len (ts : List Str) : (tupleText ts).length ≤ piled ts + 2 := fmt_text ts
theorem lst_len : ∀ ts : List Str, (listText ts).length ≤ piled ts + 2
  | [] => by decide +kernel
  | t :: r => by
    have h := textFrom_length_pos r 1 (("[" : Str) ++ (if (0 : Nat) > 0 then ", " else "" : String) ++ t) (Nat.succ_pos 0)
    have e : ((("[" : Str) ++ (if (0 : Nat) > 0 then ", " else "" : String) ++ t)).length = 1 + t.length := by
      rw [strLen_append, strLen_append]
      rfl
    have hX : (listText (t :: r)).length = (textFrom 1 (("[" : Str) ++ (if (0 : Nat) > 0 then ", " else "" : String) ++ t) r).length + 1 := by
      show (textFrom 0 "[" (t :: r) ++ "]").length = _
      rw [strLen_append]
      rfl
    rw [hX, h, e, piled_cons]
    omega
def Few (i : Int) : Prop := 0 ≤ i ∧ i < 100
theorem ints_show : ∀ {ns : List Int}, (∀ i ∈ ns, Few i) → PyData.showableAll (ns.map PyData.int) = true
  | [], _ => by simp [PyData.showableAll]
  | n :: ns, h => by
    have h1 := h n List.mem_cons_self
    simp [PyData.showableAll, small_shows h1.1 h1.2, ints_show fun i hi => h i (List.mem_cons_of_mem _ hi)]
theorem ints_pile : ∀ {ns : List Int}, (∀ i ∈ ns, Few i) → piled (PyData.shownAll (ns.map PyData.int)) ≤ 4 * ns.length
  | [], _ => by simp [PyData.shownAll, piled_nil]
  | n :: ns, h => by
    have h1 := h n List.mem_cons_self
    have h2 := small_text h1.1 h1.2
    have h3 := ints_pile (ns := ns) fun i hi => h i (List.mem_cons_of_mem _ hi)
    rw [List.map_cons, PyData.shownAll, piled_cons, List.length_cons]
    omega
theorem ints_tup {ns : List Int} (h : ∀ i ∈ ns, Few i) : (PyData.shown (.tuple (ns.map PyData.int))).length ≤ 4 * ns.length + 2 := by
  have h1 := tup_len (PyData.shownAll (ns.map PyData.int))
  have h2 := ints_pile h
  have e : PyData.shown (.tuple (ns.map PyData.int)) = tupleText (PyData.shownAll (ns.map PyData.int)) := by simp [PyData.shown]
  rw [e]
  omega
theorem prs_show : ∀ {ps : List (Int × Int)}, (∀ r ∈ ps, Few r.1 ∧ Few r.2) → PyData.showableAll (ps.map prD) = true
  | [], _ => by simp [PyData.showableAll]
  | r :: ps, h => by
    have h1 := h r List.mem_cons_self
    simp [PyData.showableAll, prD, prs_show fun i hi => h i (List.mem_cons_of_mem _ hi), PyData.showable, small_log h1.1.1 h1.1.2, small_log h1.2.1 h1.2.2]
theorem prs_pile : ∀ {ps : List (Int × Int)}, (∀ r ∈ ps, Few r.1 ∧ Few r.2) → piled (PyData.shownAll (ps.map prD)) ≤ 12 * ps.length
  | [], _ => by simp [PyData.shownAll, piled_nil]
  | r :: ps, h => by
    have h1 := h r List.mem_cons_self
    have h2 := ints_tup (ns := [r.1, r.2]) (by simp [h1.1, h1.2])
    have h3 := prs_pile (ps := ps) fun i hi => h i (List.mem_cons_of_mem _ hi)
    have e : (PyData.shown (prD r)).length ≤ 10 := h2
    rw [List.map_cons, PyData.shownAll, piled_cons, List.length_cons]
    omega

/-! ### the two things whose repr is asked -/
def toldD (a b : List Int) : PyData := .list [.tuple (a.map PyData.int), .tuple (b.map PyData.int)]
theorem toldD_ok {a b : List Int} (ha : ∀ i ∈ a, Few i) (hb : ∀ i ∈ b, Few i) (la : a.length ≤ 60) (lb : b.length ≤ 60) :
    (toldD a b).showable = true ∧ (toldD a b).hasDict = false ∧ (toldD a b).depth ≤ 60 ∧ (toldD a b).shown.length ≤ sizeLine := by
  unfold toldD
  refine ⟨?_, ?_, ?_, ?_⟩
  · simp [PyData.showable, PyData.showableAll, ints_show ha, ints_show hb]
  · simp [PyData.hasDict, PyData.hasDictAll, ints_plain]
  · simp [PyData.depth, PyData.depthAll, ints_flat]
  · have h1 := ints_tup ha
    have h2 := ints_tup hb
    have h3 := lst_len [PyData.shown (.tuple (a.map PyData.int)), PyData.shown (.tuple (b.map PyData.int))]
    have e : PyData.shown (.list [.tuple (a.map PyData.int), .tuple (b.map PyData.int)]) = listText [PyData.shown (.tuple (a.map PyData.int)), PyData.shown (.tuple (b.map PyData.int))] := by
      rw [PyData.shown, PyData.shownAll, PyData.shownAll, PyData.shownAll]
    rw [piled_cons, piled_cons, piled_nil] at h3
    rw [e, sizeLine_eq]
    omega
def netD (many : Int) (ps : List (Int × Int)) : PyData := .tuple [.int many, .tuple (ps.map prD)]
theorem netD_ok {many : Int} {ps : List (Int × Int)} (hm : Few many) (hp : ∀ r ∈ ps, Few r.1 ∧ Few r.2) (lp : ps.length ≤ 60) :
    (netD many ps).showable = true ∧ (netD many ps).hasDict = false ∧ (netD many ps).depth ≤ 60 ∧ (netD many ps).shown.length ≤ sizeLine := by
  unfold netD
  refine ⟨?_, ?_, ?_, ?_⟩
  · simp [PyData.showable, PyData.showableAll, small_log hm.1 hm.2, prs_show hp]
  · simp [PyData.hasDict, PyData.hasDictAll, prs_plain]
  · have := prs_depth ps
    simp [PyData.depth, PyData.depthAll]
    omega
  · have h1 := small_text hm.1 hm.2
    have h2 := prs_pile hp
    have h3 := tup_len (PyData.shownAll (ps.map prD))
    have h4 := tup_len [PyData.shown (.int many), PyData.shown (.tuple (ps.map prD))]
    have e1 : PyData.shown (.tuple (ps.map prD)) = tupleText (PyData.shownAll (ps.map prD)) := by rw [PyData.shown]
    have e : PyData.shown (.tuple [.int many, .tuple (ps.map prD)]) = tupleText [PyData.shown (.int many), PyData.shown (.tuple (ps.map prD))] := by
      simp [PyData.shown, PyData.shownAll]
    rw [piled_cons, piled_cons, piled_nil, e1] at h4
    rw [e, sizeLine_eq, e1]
    omega
end SkW
set_option Elab.async false
set_option linter.all false
set_option maxRecDepth 100000
set_option maxHeartbeats 4000000
namespace SkW
open PySem PySem.Spec PyProof.Rows L2 SkG SkM

/-! ### the deck's dict -/
abbrev kG : Key := Sum.inr "great"
abbrev kM : Key := Sum.inr "mixed"
abbrev kT : Key := Sum.inr "turns"
theorem gm_ne : ¬ kG = kM := by decide +kernel
theorem gt_ne : ¬ kG = kT := by decide +kernel
theorem mt_ne : ¬ kM = kT := by decide +kernel
theorem deck_great (g : Addr) (m t : Int) : valV (deckKvs g m t) kG = some (.ref g) := valV_pos rfl
theorem deck_mixed (g : Addr) (m t : Int) : valV (deckKvs g m t) kM = some (.int m) := (valV_neg gm_ne).trans (valV_pos rfl)
theorem deck_turns (g : Addr) (m t : Int) : valV (deckKvs g m t) kT = some (.int t) := (valV_neg gt_ne).trans ((valV_neg mt_ne).trans (valV_pos rfl))
theorem put_at (kvs : List (Key × V)) (k : Key) (v : V) (h : (valV kvs k).isSome = true) : putK kvs k v = kvs.map fun kv => if kv.1 = k then (kv.1, v) else kv := by
  unfold putK
  rw [if_pos (by rw [valV_any, h])]
theorem put_mixed (g : Addr) (m t m' : Int) : putK (deckKvs g m t) kM (.int m') = deckKvs g m' t := by
  rw [put_at _ _ _ (by rw [deck_mixed]; rfl)]
  show [if kG = kM then _ else _, if kM = kM then _ else _, if kT = kM then _ else _] = _
  rw [if_neg gm_ne, if_pos rfl, if_neg (fun z => mt_ne z.symm)]
  rfl
theorem put_turns (g : Addr) (m t t' : Int) : putK (deckKvs g m t) kT (.int t') = deckKvs g m t' := by
  rw [put_at _ _ _ (by rw [deck_turns]; rfl)]
  show [if kG = kT then _ else _, if kM = kT then _ else _, if kT = kT then _ else _] = _
  rw [if_neg gt_ne, if_neg mt_ne, if_pos rfl]
  rfl
theorem deck_new (g : Addr) (m t : Int) : mergeK [] [(kG, .ref g), (kM, .int m), (kT, .int t)] = deckKvs g m t := by
  have e1 : putK ([] : List (Key × V)) kG (.ref g) = [(kG, .ref g)] := putK_new _ valV_nil
  have e2 : putK [(kG, V.ref g)] kM (.int m) = [(kG, .ref g), (kM, .int m)] := putK_new _ (valV_neg gm_ne)
  have e3 : putK [(kG, V.ref g), (kM, .int m)] kT (.int t) = [(kG, .ref g), (kM, .int m), (kT, .int t)] := putK_new _ ((valV_neg gt_ne).trans (valV_neg mt_ne))
  show putK (putK (putK [] kG (.ref g)) kM (.int m)) kT (.int t) = _
  rw [e1, e2, e3]
  rfl
theorem fmod_in (x : Int) {n : Int} (h : 0 < n) : 0 ≤ x.fmod n ∧ x.fmod n < n := by
  rw [Int.fmod_eq_emod_of_nonneg _ (Int.le_of_lt h)]
  exact ⟨Int.emod_nonneg _ (by omega), Int.emod_lt_of_pos _ h⟩

theorem cut_to (xs : List V) (k : Nat) : cutV xs none (some (k : Int)) = xs.take (min k xs.length) := by
  unfold cutV
  rw [HT.sIx_none, HT.sIx_nat, List.drop_zero, Nat.sub_zero]
theorem cut_ints (ns : List Int) (k : Nat) : cutV (ns.map V.int) none (some (k : Int)) = (ns.take (min k ns.length)).map V.int := by
  rw [cut_to, List.length_map, List.map_take]
section
variable {P : Program} {w : World} {K : PySem.W.Frag} {mg : Str → Option Value} {base : Heap}
/-! ### _law_deck -/
def spDeck (K : PySem.W.Frag) : Sp := fun vs H Q _ => ∃ (a : Addr) (ns : List Int), vs = [.ref a] ∧ SqL K H a (ns.map V.int) ∧ ns.length ≤ 63 ∧ ∀ (H' : Hp) (d g : Addr), Same H H' → Deck H' d g → Q (.ref d) H'
theorem scDeck : FnScope ["_law_script", "_law_deck_here", "_law_cell", "_law_whole"] ["_law_script"] (defScope sDeck) := ⟨rfl, rfl, rfl, by decide +kernel, rfl, by decide +kernel, by decide +kernel⟩
theorem ok_deck {f : Addr} {fd : FuncData} {k : Nat} (F : Fun K "_law_deck" "_law_deck" sDeck f fd) (ml : mg "len" = none) (ma : mg "abs" = none) (mi : mg "int" = none) : FnOk P w K mg base CX0 (k + 1) f fd ["_law_script"] (spDeck K) := by
  refine F.ok scDeck (fun vs H Q E h => ?_) (fun cdv A outer s H vs Q E hr h => ?_)
  · obtain ⟨a, ns, rfl, _⟩ := h
    rfl
  · obtain ⟨a, ns, rfl, hS, hlen, q⟩ := h
    have hu := hu_of hr
    refine ⟨_, pss_cons (ps_set (i := 1) scDeck.nd rfl (Or.inl rfl) (pe_disp (pps_cons pe_str (pe_lst pa_nil) (pps_cons pe_str (pe_op op_add pe_int (pe_callB call_len_seq (by rfl) ml PySem.boot_len (pa_cons (pe_slice sl_list (pv 0) po_none (po_some pe_int)) pa_nil))) (pps_cons pe_str pe_int pps_nil)))
        (by rfl) (by rfl) (fun z => by cases z) (by decide)))
      (pss_cons (ps_for PassesOwn.never rfl (pi_list (pe_slice sl_list (pv 0) po_none (po_some pe_int))) (pg_name (i := 2) scDeck.nd rfl (Or.inl rfl))
        (pss_cons (ps_set (i := 3) scDeck.nd rfl (Or.inl rfl) (pe_op op_add (pe_op op_mul pe_int (pe_callB call_abs (by rfl) ma (by decide +kernel) (pa_cons (pv 2) pa_nil))) (pe_callTy call_int1 (by rfl) mi (by decide +kernel) (pa_cons (pe_cmpR op_lt (pv 2) pe_int (nomark _)) pa_nil))))
        (pss_cons (ps_if (pt_cmpR op_ge (pv 3) (pe_op op_pow pe_int pe_int) (nomark _))
          (pss_one (ps_expr (pe_bm PySem.F.plainAttrs_list PySem.F.slot_list_append PySem.F.type_list_append mt_append (pe_dget hu (pv 1) pe_str (fun _ _ => rfl)) (pa_cons (pv 3) pa_nil)))) pss_nil)
        (pss_one (ps_dput hu (pv 1) pe_str (pe_op op_modN (pe_callTy call_int1 (by rfl) mi (by decide +kernel) (pa_cons (pe_op op_add (pe_op op_add (pe_op op_mul (pe_dget hu (pv 1) pe_str (fun _ _ => rfl)) pe_int) (pv 3)) pe_int) pa_nil)) pe_int) rfl)))))
      (pss_one (ps_ret (pv 1)))), ?_⟩
    intro d hd
    refine ⟨Nat.zero_le _, fun g hg => ?_⟩
    have ndg : d ≠ g := ne_of_none upd_same hg
    have ng : H g = none := by
      rw [upd_ne ndg.symm] at hg
      exact hg
    have s1 : Same H (upd (upd H d (.dK [])) g (.lst [])) := (same_upd hd).trans (same_upd hg)
    have ndel : ∀ {b : Addr} {o : HO}, H b = some o → b ≠ d := fun e => ne_of_none e hd
    refine ⟨.ref a, rfl, 63, rfl, a, ns.map V.int, rfl, s1.seq hS, fun c hc => ?_⟩
    have ndc : d ≠ c := ne_of_none (show (upd (upd H d (.dK [])) g (.lst [])) d = some (.dK []) by rw [upd_ne ndg, upd_same]) hc
    have ngc : g ≠ c := ne_of_none upd_same hc
    refine ⟨c, _, rfl, .inl (SqL.of upd_same), _, _, rfl, rfl, ?_⟩
    refine ⟨by rw [upd_ne ndc, upd_ne ndg, upd_same], [(kG, .ref g), (kM, .int _), (kT, .int 0)], rfl, by show 3 ≤ 15; decide, ?_⟩
    rw [deck_new]
    have e63 : cutV (ns.map V.int) none (some 63) = (ns.take (min 63 ns.length)).map V.int := cut_ints ns 63
    rw [e63]
    have l63 : (ns.take (min 63 ns.length)).length ≤ 63 := by
      rw [List.length_take]
      omega
    generalize ns.take (min 63 ns.length) = cs at l63 e63
    have s2 : Same H (upd (upd (upd (upd H d (.dK [])) g (.lst [])) c (.lst (cs.map V.int))) d (.dK (deckKvs g (1283 + ((cs.map V.int).length : Int)) 0))) := fun b o e => by
      rw [upd_ne (ndel e), upd_ne (show b ≠ c from fun z => by rw [z] at e; rw [s1 _ _ e] at hc; cases hc)]
      exact s1 _ _ e
    have g2 : (upd (upd (upd (upd H d (.dK [])) g (.lst [])) c (.lst (cs.map V.int))) d (.dK (deckKvs g (1283 + ((cs.map V.int).length : Int)) 0))) g = some (.lst ([] : List V)) := by
      rw [upd_ne ndg.symm, upd_ne ngc, upd_same]
    -- for cell in script[:63]
    refine ⟨.ref a, rfl, 63, rfl, a, ns.map V.int, rfl, s2.seq hS, fun c2 hc2 => ?_⟩
    rw [e63]
    have ndc2 : d ≠ c2 := ne_of_none upd_same hc2
    have ngc2 : g ≠ c2 := ne_of_none g2 hc2
    refine ⟨c2, rfl, ⟨_, SqL.of upd_same⟩, for_list (K := K) (a := c2) (xs := cs.map V.int) (fun i σ H2 => ∃ (gs : List Int) (m : Int) (v2 v3 : Option V), σ = [some (.ref a), some (.ref d), v2, v3] ∧ Same H H2 ∧ H2 c2 = some (.lst (cs.map V.int)) ∧
        H2 d = some (.dK (deckKvs g m 0)) ∧ H2 g = some (.lst (gs.map V.int)) ∧ gs.length ≤ i ∧ 0 ≤ m ∧ m < 4294967296)
      ⟨[], _, none, none, rfl, s2.trans (same_upd hc2), upd_same, by rw [upd_ne ndc2, upd_same], by rw [upd_ne ngc2]; exact g2, Nat.le_refl _, by rw [List.length_map]; omega, by rw [List.length_map]; omega⟩
      (fun i σ H2 _ ⟨_, _, _, _, _, _, h, _⟩ => SqL.of h) ?_ ?_⟩
    · rintro i x σ H2 hi ⟨gs, m, v2, v3, rfl, sm, hc3, hd2, hg2, hl, m0, m1⟩
      obtain ⟨z, _, rfl⟩ := int_items hi
      have il : i < cs.length := by
        have := (List.getElem?_eq_some_iff.mp hi).1
        rw [List.length_map] at this
        exact this
      -- whole = 2 * abs(cell) + int(cell < 0)
      refine ⟨.int z, rfl, z, rfl, _, _, rfl, rfl, .inl ⟨by decide, by decide⟩, .int z, rfl, _, _, rfl, rfl, .inr ⟨_, rfl, _, _, rfl, rfl, ?_⟩⟩
      -- the rest of the turn: mixed is put
      have rest : ∀ (wh : Int) (gs' : List Int) (H3 : Hp), Same H H3 → H3 c2 = some (.lst (cs.map V.int)) → H3 d = some (.dK (deckKvs g m 0)) → H3 g = some (.lst (gs'.map V.int)) → gs'.length ≤ i + 1 →
          (∃ (gs : List Int) (m' : Int) (v2 v3 : Option V), ([some (.ref a), some (.ref d), some (.int z), some (.int wh)] : L2.St) = [some (.ref a), some (.ref d), v2, v3] ∧ Same H (upd H3 d (.dK (deckKvs g ((m * 75161 + wh + 11).fmod 4294967291) 0))) ∧
            (upd H3 d (.dK (deckKvs g ((m * 75161 + wh + 11).fmod 4294967291) 0))) c2 = some (.lst (cs.map V.int)) ∧ (upd H3 d (.dK (deckKvs g ((m * 75161 + wh + 11).fmod 4294967291) 0))) d = some (.dK (deckKvs g m' 0)) ∧
            (upd H3 d (.dK (deckKvs g ((m * 75161 + wh + 11).fmod 4294967291) 0))) g = some (.lst (gs.map V.int)) ∧ gs.length ≤ i + 1 ∧ 0 ≤ m' ∧ m' < 4294967296) := fun wh gs' H3 sm3 a1 a2 a3 a4 => by
        have fm := fmod_in (m * 75161 + wh + 11) (n := 4294967291) (by decide)
        refine ⟨gs', _, _, _, rfl, fun b o e => by rw [upd_ne (ndel e)]; exact sm3 _ _ e, by rw [upd_ne ndc2.symm]; exact a1, upd_same, by rw [upd_ne ndg.symm]; exact a3, a4, fm.1, by omega⟩
      refine ⟨_, rfl, 10, 16, rfl, rfl, ⟨by decide, by decide, by decide⟩, _, _, rfl, rfl, _, rfl, ?_⟩
      refine ite2 (fun _ => ?_) (fun _ => ?_)
      · refine ⟨.ref d, rfl, d, .ref g, rfl, ?_, .inl ⟨rfl, _, SqL.of hg2⟩, _, rfl, g, _, _, rfl, rfl, hg2, ?_, ?_⟩
        · rw [← deck_great g m 0]
          exact DGet.k (k := kG) hd2
        · rw [List.length_map]
          exact small_line (by omega)
        · have hd3 : ∀ l, (upd H2 g (.lst l)) d = some (.dK (deckKvs g m 0)) := fun l => by rw [upd_ne ndg]; exact hd2
          refine ⟨.ref d, rfl, d, .int m, rfl, ?_, m, 75161, rfl, rfl, .inl ⟨by omega, by omega⟩, _, rfl, _, _, rfl, rfl, _, _, rfl, rfl, .inl ⟨_, rfl, _, _, rfl, rfl, (by show (4294967291 : Int) ≠ 0; decide), .ref d, rfl, d, _, rfl, DPut.k (k := kM) (hd3 _) (by show 3 < sizeLine; decide), ?_⟩⟩
          · rw [← deck_mixed g m 0]
            exact DGet.k (k := kM) (hd3 _)
          · rw [put_mixed]
            refine rest _ (gs ++ [_]) _ (fun b o e => ?_) (by rw [upd_ne ngc2.symm]; exact hc3) (hd3 _) (by rw [upd_same, List.map_append]; rfl) (by rw [List.length_append]; show gs.length + 1 ≤ i + 1; omega)
            rw [upd_ne (ne_of_none e ng)]
            exact sm _ _ e
      · refine ⟨.ref d, rfl, d, .int m, rfl, ?_, m, 75161, rfl, rfl, .inl ⟨by omega, by omega⟩, _, rfl, _, _, rfl, rfl, _, _, rfl, rfl, .inl ⟨_, rfl, _, _, rfl, rfl, (by show (4294967291 : Int) ≠ 0; decide), .ref d, rfl, d, _, rfl, DPut.k (k := kM) hd2 (by show 3 < sizeLine; decide), ?_⟩⟩
        · rw [← deck_mixed g m 0]
          exact DGet.k (k := kM) hd2
        · rw [put_mixed]
          exact rest _ gs _ sm hc3 hd2 hg2 (by omega)
    · rintro σ H2 ⟨gs, m, v2, v3, rfl, sm, hc3, hd2, hg2, hl, m0, m1⟩
      rw [List.length_map] at hl
      exact ⟨.ref d, rfl, q H2 d g sm ⟨gs, m, 0, hd2, hg2, by omega, m0, m1⟩⟩
end
end SkW
set_option Elab.async false
set_option linter.all false
set_option maxRecDepth 100000
set_option maxHeartbeats 4000000
namespace SkW
open PySem PySem.Spec PyProof.Rows L2 SkG SkM
section
variable {P : Program} {w : World} {K : PySem.W.Frag} {mg : Str → Option Value} {base : Heap}
/-! ### _law_draw -/
def spDraw : Sp := fun vs H Q _ => ∃ (d g : Addr) (n : Int), vs = [.ref d, .int n] ∧ Deck H d g ∧ n ≤ 100000 ∧ ∀ (v : Int) (H' : Hp), Drawn d g H H' → 0 ≤ v → (1 ≤ n → v < n) → Q (.int v) H'
theorem scDraw : FnScope ["_law_deck_here", "_law_many", "_law_whole", "_law_number"] ["_law_deck_here", "_law_many"] (defScope sDraw) := ⟨rfl, rfl, rfl, by decide +kernel, rfl, by decide +kernel, by decide +kernel⟩
theorem ok_draw {f : Addr} {fd : FuncData} {k : Nat} (F : Fun K "_law_draw" "_law_draw" sDraw f fd) (mi : mg "int" = none) : FnOk P w K mg base CX0 (k + 1) f fd ["_law_deck_here", "_law_many"] spDraw := by
  refine F.ok scDraw (fun vs H Q E h => ?_) (fun cdv A outer s H vs Q E hr h => ?_)
  · obtain ⟨d, g, n, rfl, _⟩ := h
    rfl
  · obtain ⟨d, g, n, rfl, D, hn, q⟩ := h
    have hu := hu_of hr
    have ndg := D.ne
    obtain ⟨gs, m, t, hd, hg, lg, m0, m1⟩ := D.ex
    refine ⟨_, pss_cons (ps_if (pt_cmpR op_lt (pv 1) pe_int (nomark _)) (pss_one (ps_ret pe_int)) pss_nil)
      (pss_cons (ps_if (pt_cmpR (op_neD hr.units) (pe_dget hu (pv 0) pe_str (fun _ _ => rfl)) (pe_lst pa_nil) (nomark _))
        (pss_cons (ps_set (i := 2) scDraw.nd rfl (Or.inl rfl) (pe_bm0 PySem.F.plainAttrs_list PySem.F.slot_list_pop PySem.F.type_list_pop mt_pop (pe_dget hu (pv 0) pe_str (fun _ _ => rfl))))
        (pss_cons (ps_if (pt_cmpR op_ge (pv 2) (pv 1) (nomark _))
          (pss_one (ps_expr (pe_bm PySem.F.plainAttrs_list PySem.F.slot_list_append PySem.F.type_list_append mt_append (pe_dget hu (pv 0) pe_str (fun _ _ => rfl)) (pa_cons (pe_op op_fdivN (pv 2) (pv 1)) pa_nil)))) pss_nil)
        (pss_one (ps_ret (pe_op op_modN (pe_callTy call_int1 (by rfl) mi (by decide +kernel) (pa_cons (pv 2) pa_nil)) (pv 1)))))) pss_nil)
      (pss_cons (ps_dput hu (pv 0) pe_str (pe_op op_add (pe_dget hu (pv 0) pe_str (fun _ _ => rfl)) pe_int) rfl)
      (pss_cons (ps_set (i := 3) scDraw.nd rfl (Or.inl rfl) (pe_op op_modN (pe_callTy call_int1 (by rfl) mi (by decide +kernel) (pa_cons (pe_op op_add (pe_dget hu (pv 0) pe_str (fun _ _ => rfl)) (pe_op op_mul pe_int (pe_dget hu (pv 0) pe_str (fun _ _ => rfl)))) pa_nil)) pe_int))
      (pss_cons (ps_set (i := 3) scDraw.nd rfl (Or.inl rfl) (pe_op op_modN (pe_callTy call_int1 (by rfl) mi (by decide +kernel) (pa_cons (pe_op op_add (pe_op op_add (pe_op op_mul (pv 3) (pv 3)) (pe_op op_mul pe_int (pe_dget hu (pv 0) pe_str (fun _ _ => rfl)))) pe_int) pa_nil)) pe_int))
      (pss_cons (ps_set (i := 3) scDraw.nd rfl (Or.inl rfl) (pe_op op_modN (pe_callTy call_int1 (by rfl) mi (by decide +kernel) (pa_cons (pe_op op_add (pe_op op_mul (pv 3) (pv 3)) (pe_op op_mul (pe_dget hu (pv 0) pe_str (fun _ _ => rfl)) pe_int)) pa_nil)) pe_int))
      (pss_one (ps_ret (pe_op op_modN (pe_callTy call_int1 (by rfl) mi (by decide +kernel) (pa_cons (pe_op op_fdivN (pv 3) pe_int) pa_nil)) (pv 1))))))))), ?_⟩
    have look : ∀ {H2 : Hp} {g2 : Addr} {m2 t2 : Int}, H2 d = some (.dK (deckKvs g2 m2 t2)) → DGet H2 d (.str "great") (some (.ref g2)) ∧ DGet H2 d (.str "mixed") (some (.int m2)) ∧ DGet H2 d (.str "turns") (some (.int t2)) := fun {H2 g2 m2 t2} e => by
      refine ⟨?_, ?_, ?_⟩
      · rw [← deck_great g2 m2 t2]
        exact DGet.k (k := kG) e
      · rw [← deck_mixed g2 m2 t2]
        exact DGet.k (k := kM) e
      · rw [← deck_turns g2 m2 t2]
        exact DGet.k (k := kT) e
    -- if many < 2: return 0
    refine ⟨.int n, rfl, n, 2, rfl, rfl, _, rfl, ?_⟩
    by_cases h2 : n < 2
    · rw [decide_eq_true h2]
      refine iteT ?_
      exact q 0 H ⟨.refl _ _ _, D⟩ (Int.le_refl _) fun h => by omega
    rw [decide_eq_false h2]
    refine iteF ?_
    -- if deck['great'] != []
    refine ⟨.ref d, rfl, d, _, rfl, (look hd).1, Nat.zero_le _, fun e he => ?_⟩
    have sE : Same H (upd H e (.lst [])) := same_upd he
    have hd1 := sE _ _ hd
    have hg1 := sE _ _ hg
    refine ⟨.list (gs.map PyData.int), .list [], .lst (SqL.of hg1) (dps_ints gs), .lst (SqL.of upd_same) .nil, shaped_ints gs, shaped_nil, _, rfl, ?_⟩
    rw [eqv_nil]
    rcases List.eq_nil_or_concat gs with rfl | ⟨l, y, rfl⟩
    · -- no great ones: turns, then the numbers
      refine iteF ?_
      refine ⟨.ref d, rfl, d, .int t, rfl, (look hd1).2.2, t, 1, rfl, rfl, .ref d, rfl, d, _, rfl, DPut.k (k := kT) hd1 (by show 3 < sizeLine; decide), ?_⟩
      rw [put_turns]
      have hd2 : (upd (upd H e (.lst [])) d (.dK (deckKvs g m (t + 1)))) d = some (.dK (deckKvs g m (t + 1))) := upd_same
      refine ⟨.ref d, rfl, d, .int m, rfl, (look hd2).2.1, .ref d, rfl, d, .int (t + 1), rfl, (look hd2).2.2, 2654435761, t + 1, rfl, rfl, .inl ⟨by decide, by decide⟩, m, _, rfl, rfl, .inl ⟨_, rfl, _, 4294967279, rfl, rfl, (by show (4294967279 : Int) ≠ 0; decide), ?_⟩⟩
      have f1 := fmod_in (m + 2654435761 * (t + 1)) (n := 4294967279) (by decide)
      refine ⟨_, rfl, _, rfl, _, _, rfl, rfl, .inl ⟨by omega, by omega⟩, .ref d, rfl, d, .int (t + 1), rfl, (look hd2).2.2, 40503, t + 1, rfl, rfl, .inl ⟨by decide, by decide⟩, _, _, rfl, rfl, _, 19, rfl, rfl, .inl ⟨_, rfl, _, 4294967231, rfl, rfl, (by show (4294967231 : Int) ≠ 0; decide), ?_⟩⟩
      have f2 := fun x => fmod_in x (n := 4294967231) (by decide)
      refine ⟨_, rfl, _, rfl, _, _, rfl, rfl, .inl ⟨by have := f2 ((m + 2654435761 * (t + 1)).fmod 4294967279 * (m + 2654435761 * (t + 1)).fmod 4294967279 + 40503 * (t + 1) + 19); omega, by have := f2 ((m + 2654435761 * (t + 1)).fmod 4294967279 * (m + 2654435761 * (t + 1)).fmod 4294967279 + 40503 * (t + 1) + 19); omega⟩,
        .ref d, rfl, d, .int m, rfl, (look hd2).2.1, m, 7, rfl, rfl, .inl ⟨by omega, by omega⟩, _, _, rfl, rfl, .inl ⟨_, rfl, _, 4294967197, rfl, rfl, (by show (4294967197 : Int) ≠ 0; decide), ?_⟩⟩
      refine ⟨_, rfl, _, 64, rfl, rfl, ⟨by decide, by decide⟩, .inl ⟨_, rfl, .int n, rfl, _, n, rfl, rfl, (by show n ≠ 0; omega), ?_⟩⟩
      have f3 := fun x => fmod_in x (n := n) (by omega)
      exact q _ _ ⟨fun b o n1 n2 z => by rw [upd_ne n1]; exact sE _ _ z, ⟨[], m, t + 1, hd2, by rw [upd_ne ndg.symm]; exact hg1, Nat.zero_le _, m0, m1⟩⟩ (f3 _).1 fun _ => (f3 _).2
    · -- a great one
      have lgl : l.length + 1 ≤ 64 := by rw [List.concat_eq_append, List.length_append] at lg; exact lg
      rw [List.concat_eq_append] at hg1 hg ⊢
      have ne : (((l ++ [y]).map PyData.int).isEmpty) = false := by simp
      rw [ne]
      refine iteT ?_
      -- whole = deck['great'].pop()
      have hlast : ((l ++ [y]).map V.int)[((l ++ [y]).map V.int).length - 1]? = some (.int y) := by simp
      have hdrop : ((l ++ [y]).map V.int).dropLast = l.map V.int := by simp
      refine ⟨.ref d, rfl, d, _, rfl, (look hd1).1, .inl ⟨rfl, _, SqL.of hg1⟩, g, _, _, rfl, rfl, hg1, hlast, ?_⟩
      rw [hdrop]
      have hd2 : (upd (upd H e (.lst [])) g (.lst (l.map V.int))) d = some (.dK (deckKvs g m t)) := by rw [upd_ne ndg]; exact hd1
      have hg2 : (upd (upd H e (.lst [])) g (.lst (l.map V.int))) g = some (.lst (l.map V.int)) := upd_same
      have k2 : Keeps d g H (upd (upd H e (.lst [])) g (.lst (l.map V.int))) := fun b o n1 n2 z => by rw [upd_ne n2]; exact sE _ _ z
      have f3 := fun x => fmod_in x (n := n) (by omega)
      -- if whole >= many: great.append(whole // many)
      refine ⟨.int y, rfl, .int n, rfl, y, n, rfl, rfl, _, rfl, ?_⟩
      refine ite2 (fun _ => ?_) (fun _ => ?_)
      · refine ⟨.ref d, rfl, d, _, rfl, (look hd2).1, .inl ⟨rfl, _, SqL.of hg2⟩, .int y, rfl, .int n, rfl, y, n, rfl, rfl, ⟨by show n ≠ 0; omega, by show n.natAbs < _; omega⟩, g, _, _, rfl, rfl, hg2, ?_, ?_⟩
        · rw [List.length_map]
          exact small_line (by omega)
        · refine ⟨.int y, rfl, .inl ⟨y, rfl, .int n, rfl, y, n, rfl, rfl, (by show n ≠ 0; omega), ?_⟩⟩
          refine q _ _ ⟨fun b o n1 n2 z => by rw [upd_ne n2]; exact k2 b o n1 n2 z, ⟨l ++ [y.fdiv n], m, t, by rw [upd_ne ndg]; exact hd2, by rw [upd_same, List.map_append]; rfl, by rw [List.length_append]; exact lgl, m0, m1⟩⟩ (f3 _).1 fun _ => (f3 _).2
      · refine ⟨.int y, rfl, .inl ⟨y, rfl, .int n, rfl, y, n, rfl, rfl, (by show n ≠ 0; omega), ?_⟩⟩
        exact q _ _ ⟨k2, ⟨l, m, t, hd2, hg2, by omega, m0, m1⟩⟩ (f3 _).1 fun _ => (f3 _).2

/-! ### _law_pick -/
def spPick (K : PySem.W.Frag) : Sp := fun vs H Q _ => ∃ (d g l : Addr) (xs : List V), vs = [.ref d, .ref l] ∧ Deck H d g ∧ H l = some (.lst xs) ∧ l ≠ g ∧ 1 ≤ xs.length ∧ xs.length ≤ 100000 ∧
  ∀ (v : V) (H' : Hp), Drawn d g H H' → v ∈ xs → Q v H'
theorem scPick : FnScope ["_law_deck_here", "_law_items"] ["_law_deck_here", "_law_items"] (defScope sPick) := ⟨rfl, rfl, rfl, by decide +kernel, rfl, by decide +kernel, by decide +kernel⟩
theorem ok_pick {f fD : Addr} {fd fdD : FuncData} (F : Fun K "_law_pick" "_law_pick" sPick f fd) (FD : Fun K "_law_draw" "_law_draw" sDraw fD fdD) (bD : Binds K fdD ["_law_deck_here", "_law_many"] []) (gD : mg "_law_draw" = some (.ref fD)) (mi : mg "int" = none) (ml : mg "len" = none) :
    FnOk P w K mg base CX0 2 f fd ["_law_deck_here", "_law_items"] (spPick K) := by
  have GD : FnOk P w K mg base CX0 1 fD fdD ["_law_deck_here", "_law_many"] spDraw := ok_draw FD mi
  refine F.ok scPick (fun vs H Q E h => ?_) (fun cdv A outer s H vs Q E hr h => ?_)
  · obtain ⟨d, g, l, xs, rfl, _⟩ := h
    rfl
  · obtain ⟨d, g, l, xs, rfl, D, hl, nlg, h1, h2, q⟩ := h
    refine ⟨_, pss_one (ps_ret (pe_ix ix_list (pv 1) (pe_call GD hr (by rfl) gD FD.kp bD .nil pass0 (pa_cons (pv 0) (pa_cons (pe_callB call_len_seq (by rfl) ml PySem.boot_len (pa_cons (pv 1) pa_nil)) pa_nil))) (fun _ _ => rfl))), ?_⟩
    refine ⟨.ref l, rfl, .ref d, rfl, .ref l, rfl, l, xs, rfl, .inl (SqL.of hl), d, g, _, rfl, D, by omega, fun v H' dr v0 v1 => ?_⟩
    have nld : l ≠ d := by
      obtain ⟨gs, m, t, hd, _⟩ := D.ex
      exact ne_of hl hd (by intro z; cases z)
    obtain ⟨j, rfl⟩ : ∃ j : Nat, v = (j : Int) := ⟨v.toNat, by omega⟩
    have hj : j < xs.length := by
      have := v1 (by omega)
      omega
    refine ⟨l, xs, _, xs[j], rfl, rfl, SqL.of (dr.keeps _ _ nld nlg hl), atI_nat (List.getElem?_eq_getElem hj), q _ _ dr (List.getElem_mem hj)⟩
end
end SkW
set_option Elab.async false
set_option linter.all false
set_option maxRecDepth 100000
set_option maxHeartbeats 4000000
namespace SkW
open PySem PySem.Spec PyProof.Rows L2 SkG SkM
section
variable {P : Program} {w : World} {K : PySem.W.Frag} {mg : Str → Option Value} {base : Heap}
/-! ### _law_shuffled -/
theorem Deck.lst_ne {H : Hp} {d g b : Addr} {xs : List V} (D : Deck H d g) (h : H b = some (.lst xs)) : b ≠ d := by
  obtain ⟨gs, m, t, h1, _⟩ := D.ex
  exact ne_of h h1 (by intro z; cases z)
theorem Deck.new_ne {H : Hp} {d g b : Addr} (D : Deck H d g) (h : H b = none) : b ≠ d ∧ b ≠ g := by
  obtain ⟨gs, m, t, h1, h2, _⟩ := D.ex
  exact ⟨(ne_of_none h1 h).symm, (ne_of_none h2 h).symm⟩
def spShuf (K : PySem.W.Frag) : Sp := fun vs H Q _ => ∃ (d g l : Addr) (xs : List V), vs = [.ref d, .ref l] ∧ Deck H d g ∧ H l = some (.lst xs) ∧ xs.length ≤ 4000 ∧ (∀ x ∈ xs, ∃ r, IsPr H x r) ∧
  ∀ (ys : List V) (H' : Hp) (p : Addr), Drawn d g H H' → H p = none → H' p = some (.lst ys) → ys.length = xs.length → (∀ y ∈ ys, y ∈ xs) → Q (.ref p) H'
theorem scShuf : FnScope ["_law_deck_here", "_law_items", "_law_left", "_law_rest"] ["_law_deck_here", "_law_items"] (defScope sShuf) := ⟨rfl, rfl, rfl, by decide +kernel, rfl, by decide +kernel, by decide +kernel⟩
theorem ok_shuf {f fD : Addr} {fd fdD : FuncData} (F : Fun K "_law_shuffled" "_law_shuffled" sShuf f fd) (FD : Fun K "_law_draw" "_law_draw" sDraw fD fdD) (bD : Binds K fdD ["_law_deck_here", "_law_many"] []) (gD : mg "_law_draw" = some (.ref fD)) (mi : mg "int" = none) (ml : mg "len" = none) (mli : mg "list" = none) :
    FnOk P w K mg base CX0 2 f fd ["_law_deck_here", "_law_items"] (spShuf K) := by
  have GD : FnOk P w K mg base CX0 1 fD fdD ["_law_deck_here", "_law_many"] spDraw := ok_draw FD mi
  refine F.ok scShuf (fun vs H Q E h => ?_) (fun cdv A outer s H vs Q E hr h => ?_)
  · obtain ⟨d, g, l, xs, rfl, _⟩ := h
    rfl
  · obtain ⟨d, g, l, xs, rfl, D, hl, few, prs, q⟩ := h
    refine ⟨_, pss_cons (ps_par (i := 2) (j := 3) (by rfl) scShuf.nd rfl rfl (by decide) rfl rfl (pa_cons (pe_callTy call_list_of (by rfl) mli (by decide +kernel) (pa_cons (pv 1) pa_nil)) (pa_cons (pe_lst pa_nil) pa_nil)) (by rfl))
      (pss_cons (ps_while PassesOwn.never (pt_cmpR (op_neD hr.units) (pv 2) (pe_lst pa_nil) (nomark _))
        (pss_one (ps_expr (pe_bm PySem.F.plainAttrs_list PySem.F.slot_list_append PySem.F.type_list_append mt_append (pv 3) (pa_cons
          (pe_bm PySem.F.plainAttrs_list PySem.F.slot_list_pop PySem.F.type_list_pop mt_popAt (pv 2) (pa_cons
            (pe_call GD hr (by rfl) gD FD.kp bD .nil pass0 (pa_cons (pv 0) (pa_cons (pe_callB call_len_seq (by rfl) ml PySem.boot_len (pa_cons (pv 2) pa_nil)) pa_nil))) pa_nil)) pa_nil)))))
      (pss_one (ps_ret (pv 3)))), ?_⟩
    refine ⟨.ref l, rfl, l, xs, rfl, .inl (SqL.of hl), fun L hL => ⟨Nat.zero_le _, fun R hR => ⟨_, _, rfl, ?_⟩⟩⟩
    have nLR : L ≠ R := ne_of_none upd_same hR
    have hR0 : H R = none := by rw [upd_ne nLR.symm] at hR; exact hR
    obtain ⟨nLd, nLg⟩ := D.new_ne hL
    obtain ⟨nRd, nRg⟩ := D.new_ne hR0
    have s0 : Same H (upd (upd H L (.lst xs)) R (.lst [])) := (same_upd hL).trans (same_upd hR)
    refine ⟨fun m σ H2 => ∃ ls rs : List V, σ = [some (.ref d), some (.ref l), some (.ref L), some (.ref R)] ∧ m = ls.length ∧ Drawn d g H H2 ∧ H2 L = some (.lst ls) ∧ H2 R = some (.lst rs) ∧ ls.length + rs.length = xs.length ∧ (∀ y ∈ ls, y ∈ xs) ∧ ∀ y ∈ rs, y ∈ xs,
      ⟨_, xs, [], rfl, rfl, ⟨.of_same s0, D.same s0⟩, by rw [upd_ne nLR, upd_same], upd_same, rfl, fun _ h => h, fun _ h => nomatch h⟩, ?_⟩
    rintro m σ H2 ⟨ls, rs, rfl, rfl, dr, hL2, hR2, hlen, i1, i2⟩
    obtain ⟨qs, pq, _⟩ := Prs.ex (H := H2) (φ := fun _ => True) (xs := ls) fun y hy => by
      obtain ⟨r, h⟩ := prs y (i1 y hy)
      exact ⟨r, h.drawn D dr, trivial⟩
    refine ⟨.ref L, rfl, Nat.zero_le _, fun e he => ?_⟩
    have sE : Same H2 (upd H2 e (.lst [])) := same_upd he
    have hL3 := sE _ _ hL2
    have hR3 := sE _ _ hR2
    refine ⟨.list (qs.map prD), .list [], .lst (SqL.of hL3) (pq.same sE).dps, .lst (SqL.of upd_same) .nil, shaped_prs qs, shaped_nil, _, rfl, ?_⟩
    rw [eqv_nil]
    cases ls with
    | nil =>
      cases pq
      refine iteF ?_
      refine ⟨.ref R, rfl, q rs _ R (dr.then_same sE) hR0 hR3 ?_ i2⟩
      rw [← hlen]
      exact (Nat.zero_add _).symm
    | cons y0 ls =>
      cases pq with
      | @cons a b as bs h t =>
        refine iteT ⟨_, fun σ' H' h => h, ?_⟩
        refine ⟨.ref R, rfl, .inl ⟨rfl, _, SqL.of hR3⟩, .ref L, rfl, .inl ⟨rfl, _, SqL.of hL3⟩, .ref d, rfl, .ref L, rfl, L, _, rfl, .inl (SqL.of hL3), d, g, _, rfl, dr.deck.same sE, ?_, fun v H3 d3 v0 v1 => ?_⟩
        · rw [List.length_cons] at hlen ⊢
          omega
        · have v2 := v1 (by rw [List.length_cons]; omega)
          obtain ⟨j, rfl⟩ : ∃ j : Nat, v = (j : Int) := ⟨v.toNat, by omega⟩
          have hj : j < (y0 :: ls).length := by omega
          have sq : seqIndex? (j : Int) (y0 :: ls).length = some j := by
            have := seqIndex_of (k := (j : Int)) (n := (y0 :: ls).length) (by omega) (by omega)
            rw [this]
            rfl
          have hL4 := d3.keeps L _ nLd nLg hL3
          have hR4 := d3.keeps R _ nRd nRg hR3
          have hlen' : ls.length + 1 + rs.length = xs.length := hlen
          refine ⟨L, _, j, j, (y0 :: ls)[j], rfl, rfl, hL4, by omega, by rw [List.length_cons] at hj; omega, sq, List.getElem?_eq_getElem hj, R, rs, _, rfl, rfl, ?_, small_line (by omega), ?_⟩
          · rw [upd_ne nLR.symm]
            exact hR4
          · refine ⟨((y0 :: ls).eraseIdx j).length, ?_, (y0 :: ls).eraseIdx j, rs ++ [(y0 :: ls)[j]], rfl, rfl, ?_, ?_, upd_same, ?_, ?_, ?_⟩
            · rw [List.length_eraseIdx, if_pos hj, List.length_cons]
              omega
            · have dn := (dr.then_same sE).trans d3
              exact ⟨fun b o n1 n2 z => by
                rw [upd_ne (ne_of_none z hR0), upd_ne (ne_of_none z hL)]
                exact dn.keeps b o n1 n2 z, by
                obtain ⟨gs, m, t, h1, h2, r⟩ := dn.deck.ex
                exact ⟨gs, m, t, by rw [upd_ne nRd.symm, upd_ne nLd.symm]; exact h1, by rw [upd_ne nRg.symm, upd_ne nLg.symm]; exact h2, r⟩⟩
            · rw [upd_ne nLR, upd_same]
            · rw [List.length_eraseIdx, if_pos hj, List.length_append, List.length_cons]
              show ls.length + 1 - 1 + (rs.length + 1) = _
              omega
            · exact fun y hy => i1 y (List.mem_of_mem_eraseIdx hy)
            · intro y hy
              rcases List.mem_append.mp hy with z | z
              · exact i2 y z
              · rw [List.mem_singleton.mp z]
                exact i1 _ (List.getElem_mem hj)
end
end SkW
set_option Elab.async false
set_option linter.all false
set_option maxRecDepth 100000
set_option maxHeartbeats 8000000
namespace SkW
open PySem PySem.Spec PyProof.Rows L2 SkG SkM
theorem Drawn.put {d g p : Addr} {H H2 : Hp} {o : HO} (D : Deck H d g) (a : Drawn d g H H2) (h : H p = none) : Drawn d g H (upd H2 p o) := by
  obtain ⟨n1, n2⟩ := D.new_ne h
  refine ⟨fun b u m1 m2 z => ?_, ?_⟩
  · rw [upd_ne (ne_of_none z h)]
    exact a.keeps b u m1 m2 z
  · obtain ⟨gs, m, t, h1, h2, r⟩ := a.deck.ex
    exact ⟨gs, m, t, by rw [upd_ne n1.symm]; exact h1, by rw [upd_ne n2.symm]; exact h2, r⟩
theorem Drawn.refl {d g : Addr} {H : Hp} (D : Deck H d g) : Drawn d g H H := ⟨.refl _ _ _, D⟩
theorem Drawn.new {d g p : Addr} {H H2 : Hp} {o : HO} (a : Drawn d g H H2) (h : H2 p = none) : Drawn d g H (upd H2 p o) := a.then_same (same_upd h)
theorem Drawn.free {d g p : Addr} {H H2 : Hp} (a : Drawn d g H H2) (h : H2 p = none) : H p = none := by
  cases e : H p with
  | none => rfl
  | some o =>
    obtain ⟨n1, n2⟩ := a.deck.new_ne h
    rw [a.keeps p o n1 n2 e] at h
    cases h
/-- every item is a pair that rises within many -/
def Rows (H : Hp) (many : Int) (xs : List V) : Prop := ∀ x ∈ xs, ∃ r, IsPr H x r ∧ (0 ≤ r.1 ∧ r.1 < r.2 ∧ r.2 < many)
theorem Rows.same {H H' : Hp} {many : Int} {xs : List V} (h : Rows H many xs) (s : Same H H') : Rows H' many xs := fun x hx => by
  obtain ⟨r, h1, h2⟩ := h x hx
  exact ⟨r, h1.same s, h2⟩
theorem Rows.drawn {H H' : Hp} {d g : Addr} {many : Int} {xs : List V} (h : Rows H many xs) (D : Deck H d g) (s : Drawn d g H H') : Rows H' many xs := fun x hx => by
  obtain ⟨r, h1, h2⟩ := h x hx
  exact ⟨r, h1.drawn D s, h2⟩
theorem Rows.snoc {H : Hp} {many : Int} {xs : List V} {x : V} (h : Rows H many xs) (hx : ∃ r, IsPr H x r ∧ (0 ≤ r.1 ∧ r.1 < r.2 ∧ r.2 < many)) : Rows H many (xs ++ [x]) := fun y hy => by
  rcases List.mem_append.mp hy with z | z
  · exact h y z
  · rw [List.mem_singleton.mp z]
    exact hx
/-- a tracked list that is changed leaves pairs as they are -/
theorem IsPr.put {H : Hp} {x : V} {r : Int × Int} {p : Addr} {xs ys : List V} (h : IsPr H x r) (e : H p = some (.lst xs)) : IsPr (upd H p (.lst ys)) x r := by
  obtain ⟨t, rfl, h⟩ := h
  exact ⟨t, rfl, by rw [upd_ne (ne_of h e (by intro z; cases z))]; exact h⟩
theorem Rows.put {H : Hp} {many : Int} {zs : List V} {p : Addr} {xs ys : List V} (h : Rows H many zs) (e : H p = some (.lst xs)) : Rows (upd H p (.lst ys)) many zs := fun x hx => by
  obtain ⟨r, h1, h2⟩ := h x hx
  exact ⟨r, h1.put e, h2⟩
theorem cut_from1 (xs : List V) : cutV xs (some 1) none = xs.drop 1 := by
  unfold cutV
  rw [show HT.sIx xs.length 0 (some 1) = min 1 xs.length from HT.sIx_nat xs.length 0 1, HT.sIx_none]
  cases xs with
  | nil => rfl
  | cons x r =>
    rw [show min 1 (x :: r).length = 1 by
      rw [List.length_cons]
      omega]
    show (List.take ((x :: r).length - 1) r) = r
    rw [List.length_cons, Nat.add_sub_cancel]
    exact List.take_length
section
variable {P : Program} {w : World} {K : PySem.W.Frag} {mg : Str → Option Value} {base : Heap}
/-! ### _law_net -/
def spNet : Sp := fun vs H Q _ => ∃ (d g : Addr) (many more : Int), vs = [.ref d, .int many, .int more] ∧ Deck H d g ∧ 2 ≤ many ∧ many ≤ 24 ∧ 0 ≤ more ∧ more ≤ 37 ∧
  ∀ (H' : Hp) (nt tt : Addr) (xs : List V) (ps : List (Int × Int)), Drawn d g H H' → NetAt H' nt tt many xs ps → Good many ps → Q (.ref nt) H'
abbrev nN : List Str := ["_law_deck_here", "_law_many", "_law_more", "_law_inner", "_law_spine", "_law_pairs", "_law_first", "_law_second", "_law_turn", "_law_foot", "_law_head", "_law_place"]
theorem scNet : FnScope nN ["_law_deck_here", "_law_many", "_law_more"] (defScope sNet) := ⟨rfl, rfl, rfl, by decide +kernel, rfl, by decide +kernel, by decide +kernel⟩
theorem ok_net {f fD fP fS : Addr} {fd fdD fdP fdS : FuncData} (F : Fun K "_law_net" "_law_net" sNet f fd)
    (FD : Fun K "_law_draw" "_law_draw" sDraw fD fdD) (bD : Binds K fdD ["_law_deck_here", "_law_many"] []) (gD : mg "_law_draw" = some (.ref fD))
    (FP : Fun K "_law_pick" "_law_pick" sPick fP fdP) (bP : Binds K fdP ["_law_deck_here", "_law_items"] []) (gP : mg "_law_pick" = some (.ref fP))
    (FS : Fun K "_law_shuffled" "_law_shuffled" sShuf fS fdS) (bS : Binds K fdS ["_law_deck_here", "_law_items"] []) (gS : mg "_law_shuffled" = some (.ref fS))
    (mi : mg "int" = none) (ml : mg "len" = none) (mli : mg "list" = none) (mr : mg "range" = none) (mz : mg "zip" = none) (mt : mg "tuple" = none) :
    FnOk P w K mg base CX0 3 f fd ["_law_deck_here", "_law_many", "_law_more"] spNet := by
  have GD : FnOk P w K mg base CX0 1 fD fdD ["_law_deck_here", "_law_many"] spDraw := ok_draw FD mi
  have GP : FnOk P w K mg base CX0 2 fP fdP ["_law_deck_here", "_law_items"] (spPick K) := ok_pick FP FD bD gD mi ml
  have GS : FnOk P w K mg base CX0 2 fS fdS ["_law_deck_here", "_law_items"] (spShuf K) := ok_shuf FS FD bD gD mi ml mli
  refine F.ok scNet (fun vs H Q E h => ?_) (fun cdv A outer s H vs Q E hr h => ?_)
  · obtain ⟨d, g, many, more, rfl, _⟩ := h
    rfl
  · obtain ⟨d, g, many, more, rfl, D, m2, m24, e0, e37, q⟩ := h
    have hr1 : Room 1 (A.deeper (envOfC "_law_net" (defScope sNet) s.heap.objs.size f cdv)) := hr.mono (by decide)
    refine ⟨_, pss_cons (ps_setLc (i := 3) (own := [("_law_place", 11)]) (g := gName 11) (tt := tTest (tOp rEq (tCall spDraw [] E0 (tCons (tVar 0) (tCons (tC (.int 2)) tNil))) (tC (.int 0)))) (te := tVar 11) rfl scNet.nd rfl rfl (sw_true rfl rfl rfl (by decide +kernel))
          (pi_range2 (by rfl) mr (pa_cons pe_int (pa_cons (pe_op op_sub (pv 1) pe_int) pa_nil))) (blkOk_by (N := nN) (sc := defScope sNet) (by decide +kernel))
          (fun _ _ _ _ _ => pg_name (i := 11) scNet.nd rfl (Or.inl rfl))
          (fun _ _ _ _ _ => pts_one (pt_cmpR op_eq (pe_call GD hr1 (by rfl) gD FD.kp bD .nil pass0 (pa_cons (pv 0) (pa_cons pe_int pa_nil))) pe_int (nomark _)))
          (fun _ _ _ _ _ => pv 11))
      (pss_cons (ps_par (i := 4) (j := 5) (by rfl) scNet.nd rfl rfl (by decide) rfl rfl (pa_cons (pe_op op_cat (pe_op op_cat (pe_lst (pa_cons pe_int pa_nil)) (pv 3)) (pe_lst (pa_cons (pe_op op_sub (pv 1) pe_int) pa_nil))) (pa_cons (pe_lst pa_nil) pa_nil)) (by rfl))
      (pss_cons (ps_for PassesOwn.never rfl (pi_zip (by rfl) mz (pa_cons (pv 4) (pa_cons (pe_slice sl_list (pv 4) (po_some pe_int) po_none) pa_nil)))
          (pg_tup rfl (pgs_cons (pg_name (i := 6) scNet.nd rfl (Or.inl rfl)) (pgs_cons (pg_name (i := 7) scNet.nd rfl (Or.inl rfl)) pgs_nil)))
        (pss_one (ps_expr (pe_bm PySem.F.plainAttrs_list PySem.F.slot_list_append PySem.F.type_list_append mt_append (pv 5) (pa_cons (pe_tup (pa_cons (pv 6) (pa_cons (pv 7) pa_nil))) pa_nil)))))
      (pss_cons (ps_for PassesOwn.never rfl (pi_range1 (by rfl) mr (pa_cons (pv 2) pa_nil)) (pg_name (i := 8) scNet.nd rfl (Or.inl rfl))
        (pss_cons (ps_set (i := 9) scNet.nd rfl (Or.inl rfl) (pe_call GD hr1 (by rfl) gD FD.kp bD .nil pass0 (pa_cons (pv 0) (pa_cons (pe_op op_sub (pv 1) pe_int) pa_nil))))
        (pss_cons (ps_set (i := 10) scNet.nd rfl (Or.inl rfl) (pe_op op_add (pe_op op_add (pv 9) pe_int) (pe_call GD hr1 (by rfl) gD FD.kp bD .nil pass0 (pa_cons (pv 0) (pa_cons (pe_op op_sub (pe_op op_sub (pv 1) pe_int) (pv 9)) pa_nil)))))
        (pss_one (ps_expr (pe_bm PySem.F.plainAttrs_list PySem.F.slot_list_append PySem.F.type_list_append mt_append (pv 5) (pa_cons
          (pe_ifExp (pt_cmpR op_eq (pe_call GD hr1 (by rfl) gD FD.kp bD .nil pass0 (pa_cons (pv 0) (pa_cons pe_int pa_nil))) pe_int (nomark _))
            (pe_call GP hr (by rfl) gP FP.kp bP .nil pass0 (pa_cons (pv 0) (pa_cons (pv 5) pa_nil)))
            (pe_tup (pa_cons (pv 9) (pa_cons (pv 10) pa_nil)))) pa_nil)))))))
      (pss_cons (ps_set (i := 5) scNet.nd rfl (Or.inl rfl) (pe_call GS hr (by rfl) gS FS.kp bS .nil pass0 (pa_cons (pv 0) (pa_cons (pv 5) pa_nil))))
      (pss_one (ps_ret (pe_tup (pa_cons (pv 1) (pa_cons (pe_callTy call_tuple_of (by rfl) mt (by decide +kernel) (pa_cons
        (pe_ifExp (PW.pt (pw_and (pt_cmpR op_gt (pe_callB call_len_seq (by rfl) ml PySem.boot_len (pa_cons (pv 5) pa_nil)) pe_int (nomark _)) (pw_and1 (pt_cmpR op_eq (pe_call GD hr1 (by rfl) gD FD.kp bD .nil pass0 (pa_cons (pv 0) (pa_cons pe_int pa_nil))) pe_int (nomark _)))))
          (pe_slice sl_list (pv 5) (po_some pe_int) po_none) (pv 5)) pa_nil)) pa_nil))))))))), ?_⟩
    -- what is handed back in the end
    have close : ∀ (H4 : Hp) (zs : List V), Drawn d g H H4 → Rows H4 many zs → zs.length ≤ 60 → ∀ TT, H4 TT = none → ∀ NT, (upd H4 TT (.tup zs)) NT = none → Q (.ref NT) (upd (upd H4 TT (.tup zs)) NT (.tup [.int many, .ref TT])) := by
      intro H4 zs dr rows len TT hT NT hN
      have sT := same_upd (o := .tup zs) hT
      have sN := same_upd (o := .tup [.int many, .ref TT]) hN
      obtain ⟨ps, prs, rise⟩ := Prs.ex rows
      refine q _ NT TT zs ps ((dr.then_same sT).then_same sN) ⟨upd_same, sN _ _ upd_same, (prs.same sT).same sN⟩ ⟨m2, m24, ?_, rise⟩
      rw [← Paired.length prs]
      exact len
    -- inner
    refine ⟨.int many, rfl, many, 1, rfl, rfl, 1, many - 1, rfl, ⟨by decide, by decide, by omega, by omega⟩, fun I hI => ?_⟩
    obtain ⟨nId, nIg⟩ := D.new_ne hI
    refine lc_range (lo := 1) (n := (many - 1 - 1).toNat) (fun i H' => ∃ ns : List Int, Drawn d g H H' ∧ H' I = some (.lst (ns.map V.int)) ∧ ns.length ≤ i ∧ ns.Pairwise (· < ·) ∧ ∀ x ∈ ns, 1 ≤ x ∧ x < 1 + (i : Int))
      ⟨[], (Drawn.refl D).new hI, upd_same, Nat.le_refl _, .nil, fun _ h => nomatch h⟩ ?_ ?_
    · rintro i H1 hi ⟨ns, dr, hI1, hl, srt, bd⟩
      refine ⟨rfl, .ref d, rfl, d, g, 2, rfl, dr.deck, by decide, fun v H2 d2 v0 v1 => ⟨rfl, _, rfl, ?_⟩⟩
      have dr2 := dr.trans d2
      have hI2 := d2.keeps I _ nId nIg hI1
      refine ite2 (fun _ => ?_) (fun _ => ?_)
      · refine ⟨.int (1 + i), rfl, _, hI2, ?_, ns ++ [1 + (i : Int)], dr2.put D hI, ?_, ?_, ?_, ?_⟩
        · rw [List.length_map]
          exact small_line (by omega)
        · rw [upd_same, List.map_append]
          rfl
        · rw [List.length_append]
          exact Nat.succ_le_succ hl
        · refine List.pairwise_append.mpr ⟨srt, List.pairwise_singleton _ _, fun x hx y hy => ?_⟩
          rw [List.mem_singleton.mp hy]
          exact (bd x hx).2
        · intro x hx
          rcases List.mem_append.mp hx with z | z
          · have := bd x z
            omega
          · rw [List.mem_singleton.mp z]
            omega
      · refine ⟨ns, dr2, hI2, by omega, srt, fun x hx => ?_⟩
        have := bd x hx
        omega
    rintro H1 ⟨ns, dr1, hI1, hl, srt, bd⟩
    -- spine, pairs
    refine ⟨by decide, fun A1 hA1 => ⟨.ref I, rfl, ?_⟩⟩
    have dA := dr1.new (o := .lst [V.int 0]) hA1
    have nIA : I ≠ A1 := ne_of_none hI1 hA1
    have hI2 : (upd H1 A1 (.lst [V.int 0])) I = some (.lst (ns.map V.int)) := by rw [upd_ne nIA]; exact hI1
    refine ⟨A1, I, _, _, rfl, rfl, upd_same, hI2, ?_, fun B hB => ?_⟩
    · rw [List.length_map]
      exact small_line' (by show 1 + ns.length ≤ 10000; omega)
    have dB := dA.new (o := .lst ([V.int 0] ++ ns.map V.int)) hB
    refine ⟨.int many, rfl, many, 1, rfl, rfl, by show 1 ≤ sizeLine; decide, fun C hC => ?_⟩
    have dC := dB.new (o := .lst [V.int (many - 1)]) hC
    have nBC : B ≠ C := ne_of_none upd_same hC
    refine ⟨B, C, _, _, rfl, rfl, by rw [upd_ne nBC, upd_same], upd_same, ?_, fun S hS => ?_⟩
    · rw [List.length_append, List.length_map]
      exact small_line' (by show 1 + ns.length + 1 ≤ 10000; omega)
    have esp : ([V.int 0] ++ ns.map V.int) ++ [V.int (many - 1)] = ([0] ++ ns ++ [many - 1]).map V.int := by simp
    rw [esp]
    generalize hsp : [0] ++ ns ++ [many - 1] = sp
    have splen : sp.length = ns.length + 2 := by rw [← hsp]; simp
    have spsrt : sp.Pairwise (· < ·) := by
      rw [← hsp]
      refine List.pairwise_append.mpr ⟨List.pairwise_append.mpr ⟨List.pairwise_singleton _ _, srt, fun x hx y hy => ?_⟩, List.pairwise_singleton _ _, fun x hx y hy => ?_⟩
      · rw [List.mem_singleton.mp hx]
        have := bd y hy
        omega
      · rw [List.mem_singleton.mp hy]
        rcases List.mem_append.mp hx with z | z
        · rw [List.mem_singleton.mp z]
          omega
        · have := bd x z
          omega
    have spbd : ∀ x ∈ sp, 0 ≤ x ∧ x < many := by
      rw [← hsp]
      intro x hx
      rcases List.mem_append.mp hx with hx | hx
      · rcases List.mem_append.mp hx with z | z
        · rw [List.mem_singleton.mp z]
          omega
        · have := bd x z
          omega
      · rw [List.mem_singleton.mp hx]
        omega
    have dS := dC.new (o := .lst (sp.map V.int)) hS
    refine ⟨Nat.zero_le _, fun L hL => ⟨_, _, rfl, ?_⟩⟩
    have dL := dS.new (o := .lst []) hL
    have nSL : S ≠ L := ne_of_none upd_same hL
    have hS0 : H S = none := dC.free hS
    have hL0 : H L = none := dS.free hL
    obtain ⟨nLd, nLg⟩ := D.new_ne hL0
    -- zip(spine, spine[1:])
    have hS1 : (upd (upd (upd (upd (upd H1 A1 (.lst [V.int 0])) B (.lst ([V.int 0] ++ ns.map V.int))) C (.lst [V.int (many - 1)])) S (.lst (sp.map V.int))) L (.lst [])) S = some (.lst (sp.map V.int)) := by
      rw [upd_ne nSL, upd_same]
    refine ⟨.ref S, rfl, .ref S, rfl, 1, rfl, S, _, rfl, SqL.of hS1, fun Z hZ => ?_⟩
    rw [cut_from1]
    have dZ := dL.new (o := .lst ((sp.map V.int).drop 1)) hZ
    have nSZ : S ≠ Z := ne_of_none hS1 hZ
    have nLZ : L ≠ Z := ne_of_none upd_same hZ
    have hZ0 : H Z = none := dL.free hZ
    refine ⟨S, Z, _, _, rfl, SqL.of (by rw [upd_ne nSZ]; exact hS1), SqL.of upd_same, for_it (walk_zip (K := K) (a := S) (b := Z) (xs := sp.map V.int) (ys := (sp.map V.int).drop 1) (n := sp.length - 1) (by rw [List.length_drop, List.length_map]; omega))
      (fun i σ H2 => ∃ (xs : List V) (v6 v7 : Option V), σ = [some (.ref d), some (.int many), some (.int more), some (.ref I), some (.ref S), some (.ref L), v6, v7, none, none, none, none] ∧ Drawn d g H H2 ∧ H2 S = some (.lst (sp.map V.int)) ∧
        H2 Z = some (.lst ((sp.map V.int).drop 1)) ∧ H2 L = some (.lst xs) ∧ xs.length = i ∧ Rows H2 many xs)
      ⟨[], none, none, rfl, dZ, by rw [upd_ne nSZ]; exact hS1, upd_same, by rw [upd_ne nLZ, upd_same], rfl, fun _ h => nomatch h⟩ (fun i σ H2 _ ⟨_, _, _, _, _, h1, h2, _⟩ => ⟨SqL.of h1, SqL.of h2⟩) ?_ ?_⟩
    · rintro i x σ H2 H3 hi ⟨xs, v6, v7, rfl, dr, hS2, hZ2, hL2, hlen, rows⟩ ⟨T, x1, x2, rfl, nT, rfl, e1, e2⟩
      obtain ⟨z1, g1, rfl⟩ := int_items e1
      have e2' : (sp.map V.int)[i + 1]? = some x2 := by
        have h := e2
        simp only [List.getElem?_drop] at h
        rw [Nat.add_comm]
        exact h
      obtain ⟨z2, g2, rfl⟩ := int_items e2'
      have lt12 : z1 < z2 := by
        obtain ⟨l1, q1⟩ := List.getElem?_eq_some_iff.mp g1
        obtain ⟨l2, q2⟩ := List.getElem?_eq_some_iff.mp g2
        rw [← q1, ← q2]
        exact List.pairwise_iff_getElem.mp spsrt i (i + 1) l1 l2 (Nat.lt_succ_self _)
      have b1 := spbd z1 (List.mem_of_getElem? g1)
      have b2 := spbd z2 (List.mem_of_getElem? g2)
      have sT := same_upd (o := .tup [V.int z1, V.int z2]) nT
      refine ⟨T, _, rfl, SqT.of upd_same, rfl, _, _, rfl, _, _, rfl, rfl, ?_⟩
      refine ⟨.ref L, rfl, .inl ⟨rfl, _, SqL.of (sT _ _ hL2)⟩, .int z1, rfl, .int z2, rfl, by show 2 ≤ sizeLine; decide, fun U hU => ?_⟩
      have sU := sT.trans (same_upd (o := .tup [V.int z1, V.int z2]) hU)
      refine ⟨L, xs, _, rfl, rfl, sU _ _ hL2, small_line (by omega), ?_⟩
      refine ⟨xs ++ [.ref U], _, _, rfl, (dr.then_same sU).put D hL0, ?_, ?_, upd_same, ?_, ?_⟩
      · rw [upd_ne nSL]
        exact sU _ _ hS2
      · rw [upd_ne nLZ.symm]
        exact sU _ _ hZ2
      · rw [List.length_append, hlen]
        rfl
      · refine Rows.put (xs := xs) ((rows.same sU).snoc ⟨(z1, z2), ⟨U, rfl, upd_same⟩, b1.1, lt12, b2.2⟩) (sU _ _ hL2)
    rintro σ H2 ⟨xs, v6, v7, rfl, dr, hS2, hZ2, hL2, hlen, rows⟩
    -- for turn in range(more)
    refine ⟨.int more, rfl, more, rfl, by omega, by omega, for_range (lo := 0) (n := more.toNat) (fun i σ H2 => ∃ (xs : List V) (v6 v7 v8 v9 v10 : Option V), σ = [some (.ref d), some (.int many), some (.int more), some (.ref I), some (.ref S), some (.ref L), v6, v7, v8, v9, v10, none] ∧
        Drawn d g H H2 ∧ H2 L = some (.lst xs) ∧ xs.length = sp.length - 1 + i ∧ Rows H2 many xs) ⟨xs, _, _, _, _, _, rfl, dr, hL2, hlen, rows⟩ ?_ ?_⟩
    · clear rows hlen hL2 hZ2 hS2 dr xs H2 v6 v7
      rintro i σ H2 hi ⟨xs, v6, v7, v8, v9, v10, rfl, dr, hL2, hlen, rows⟩
      have hlx : xs.length ≤ 100 := by omega
      refine ⟨.ref d, rfl, .int many, rfl, many, 1, rfl, rfl, d, g, _, rfl, dr.deck, by omega, fun v H3 d3 v0 v1 => ?_⟩
      have v2 := v1 (by omega)
      refine ⟨.int v, rfl, v, 1, rfl, rfl, .ref d, rfl, .int many, rfl, many, 1, rfl, rfl, .int v, rfl, _, _, rfl, rfl, d, g, _, rfl, d3.deck, by omega, fun u H4 d4 u0 u1 => ⟨_, _, rfl, rfl, ?_⟩⟩
      have u2 := u1 (by omega)
      have d34 := d3.trans d4
      have hL4 := d34.keeps L _ nLd nLg hL2
      have dr4 := dr.trans d34
      refine ⟨.ref L, rfl, .inl ⟨rfl, _, SqL.of hL4⟩, .ref d, rfl, d, g, 5, rfl, dr4.deck, by decide, fun z H5 d5 z0 z1 => ⟨rfl, _, rfl, ?_⟩⟩
      have d35 := d34.trans d5
      have dr5 := dr.trans d35
      have hL5 := d35.keeps L _ nLd nLg hL2
      have rows5 := rows.drawn dr.deck d35
      have spl2 : 2 ≤ sp.length := by omega
      refine ite2 (fun _ => ?_) (fun _ => ?_)
      · refine ⟨.ref d, rfl, .ref L, rfl, d, g, L, xs, rfl, dr5.deck, hL5, nLg, by omega, by omega, fun y H6 d6 hy => ?_⟩
        have hL6 := d6.keeps L _ nLd nLg hL5
        refine ⟨L, xs, y, rfl, rfl, hL6, small_line (by omega), xs ++ [y], _, _, _, _, _, rfl, (dr5.trans d6).put D hL0, upd_same, ?_, ?_⟩
        · rw [List.length_append, hlen]
          show _ + 1 = _
          omega
        · have rows6 := rows5.drawn dr5.deck d6
          exact (rows6.snoc (rows6 y hy)).put hL6
      · refine ⟨.int v, rfl, _, rfl, by show 2 ≤ sizeLine; decide, fun U hU => ?_⟩
        have sU := same_upd (o := .tup [V.int v, V.int (v + 1 + u)]) hU
        refine ⟨L, xs, _, rfl, rfl, sU _ _ hL5, small_line (by omega), xs ++ [.ref U], _, _, _, _, _, rfl, (dr5.then_same sU).put D hL0, upd_same, ?_, ?_⟩
        · rw [List.length_append, hlen]
          show _ + 1 = _
          omega
        · exact ((rows5.same sU).snoc ⟨(v, v + 1 + u), ⟨U, rfl, upd_same⟩, v0, by show v < v + 1 + u; omega, by show v + 1 + u < many; omega⟩).put (sU _ _ hL5)
    clear rows hlen hL2 hZ2 hS2 dr xs H2 v6 v7
    rintro σ H2 ⟨xs, v6, v7, v8, v9, v10, rfl, dr, hL2, hlen, rows⟩
    -- shuffled
    refine ⟨.ref d, rfl, .ref L, rfl, d, g, L, xs, rfl, dr.deck, hL2, by omega, fun x hx => ?_, fun ys H3 p d3 hp hp3 hly hmy => ?_⟩
    · obtain ⟨r, h, _⟩ := rows x hx
      exact ⟨r, h⟩
    have dr3 := dr.trans d3
    have rows3 : Rows H3 many ys := fun y hy => (rows.drawn dr.deck d3) y (hmy y hy)
    have hp0 := dr.free hp
    obtain ⟨npd, npg⟩ := D.new_ne hp0
    have ly : ys.length ≤ 60 := by omega
    -- the net
    refine ⟨.int many, rfl, .ref p, rfl, p, ys, rfl, .inl (SqL.of hp3), _, _, rfl, rfl, _, rfl, ?_⟩
    refine ite2 (fun _ => ?_) (fun _ => ?_)
    · refine ⟨.ref d, rfl, d, g, 6, rfl, dr3.deck, by decide, fun z H4 d4 z0 z1 => ⟨rfl, _, rfl, ?_⟩⟩
      have dr4 := dr3.trans d4
      have hp4 := d4.keeps p _ npd npg hp3
      have rows4 := rows3.drawn dr3.deck d4
      refine ite2 (fun _ => ?_) (fun _ => ?_)
      · refine ⟨.ref p, rfl, 1, rfl, p, ys, rfl, SqL.of hp4, fun W hW => ?_⟩
        rw [cut_from1]
        have sW := same_upd (o := .lst (ys.drop 1)) hW
        refine ⟨W, _, rfl, .inl ⟨SqL.of upd_same, fun TT hT => ⟨by show 2 ≤ sizeLine; decide, fun NT hN => ?_⟩⟩⟩
        refine close _ _ (dr4.then_same sW) (fun y hy => (rows4.same sW) y (List.mem_of_mem_drop hy)) ?_ TT hT NT hN
        rw [List.length_drop]
        omega
      · exact ⟨.ref p, rfl, p, ys, rfl, .inl ⟨SqL.of hp4, fun TT hT => ⟨by show 2 ≤ sizeLine; decide, fun NT hN => close _ _ dr4 rows4 ly TT hT NT hN⟩⟩⟩
    · exact iteF ⟨.ref p, rfl, p, ys, rfl, .inl ⟨SqL.of hp3, fun TT hT => ⟨by show 2 ≤ sizeLine; decide, fun NT hN => close _ _ dr3 rows3 ly TT hT NT hN⟩⟩⟩
end
end SkW
set_option Elab.async false
set_option linter.all false
set_option maxRecDepth 100000
set_option maxHeartbeats 8000000
namespace SkW
open PySem PySem.Spec PyProof.Rows L2 SkG SkM
section
variable {P : Program} {w : World} {K : PySem.W.Frag} {mg : Str → Option Value} {base : Heap}
/-! ### _law_reached -/
def spReached : Sp := fun vs H Q _ => ∃ (nt tt : Addr) (many p : Int) (xs : List V) (ps : List (Int × Int)), vs = [.ref nt, .int p] ∧ NetAt H nt tt many xs ps ∧ Good many ps ∧ 0 ≤ p ∧ p < many ∧
  ∀ (H' : Hp) (l : Addr) (ns : List Int), Same H H' → H l = none → H' l = some (.lst (ns.map V.int)) → (∀ k, k ∈ ns ↔ Reach ps p k) → Q (.ref l) H'
abbrev nR : List Str := ["_law_net_here", "_law_place", "_law_there", "_law_at", "_law_foot", "_law_head"]
theorem scReached : FnScope nR ["_law_net_here", "_law_place"] (defScope sReached) := ⟨rfl, rfl, rfl, by decide +kernel, rfl, by decide +kernel, by decide +kernel⟩
theorem ok_reached {f : Addr} {fd : FuncData} {k : Nat} (F : Fun K "_law_reached" "_law_reached" sReached f fd) (mr : mg "range" = none) (ms : mg "sorted" = none) (me : mg "set" = none) : FnOk P w K mg base CX0 (k + 1) f fd ["_law_net_here", "_law_place"] spReached := by
  refine F.ok scReached (fun vs H Q E h => ?_) (fun cdv A outer s H vs Q E hr h => ?_)
  · obtain ⟨nt, tt, many, p, xs, ps, rfl, _⟩ := h
    rfl
  · obtain ⟨nt, tt, many, p, xs, ps, rfl, N, G, p0, pm, q⟩ := h
    refine ⟨_, pss_cons (ps_set (i := 2) scReached.nd rfl (Or.inr rfl) (pe_lst (pa_cons (pv 1) pa_nil)))
      (pss_cons (ps_for PassesOwn.never rfl (pi_range2 (by rfl) mr (pa_cons (pv 1) (pa_cons (pe_ix ix_tup (pv 0) pe_int (fun _ _ => rfl)) pa_nil))) (pg_name (i := 3) scReached.nd rfl (Or.inr rfl))
        (pss_one (ps_if (pt_cmpR op_in_seq (pv 3) (pv 2) (by rfl))
          (pss_one (ps_set (i := 2) scReached.nd rfl (Or.inr rfl) (pe_op op_cat (pv 2)
            (pe_lc (own := [("_law_foot", 4), ("_law_head", 5)]) (g := gTup K 2 (gCons (gName 4) (gCons (gName 5) gNil))) (tt := tAnd (tTest (tOp rEq (tVar 4) (tVar 3))) (tTest (tOp (rIn K true) (tVar 5) (tVar 2)))) (te := tVar 5) rfl scReached.nd
              (pi_tup (pe_ix ix_tup (pv 0) pe_int (fun _ _ => rfl))) (blkOk_by (N := nR) (sc := defScope sReached) (by decide +kernel))
              (fun _ _ _ _ _ => pg_tup rfl (pgs_cons (pg_name (i := 4) scReached.nd rfl (Or.inl rfl)) (pgs_cons (pg_name (i := 5) scReached.nd rfl (Or.inl rfl)) pgs_nil)))
              (fun _ _ _ _ _ => pts_one (PW.pt (pw_and (pt_cmpR op_eq (pv 4) (pv 3) (nomark _)) (pw_and1 (pt_cmpR op_notIn_seq (pv 5) (pv 2) (by rfl))))))
              (fun _ _ _ _ _ => pv 5))))) pss_nil)))
      (pss_one (ps_ret (pe_callB (cr_sortedSet rfl) (by rfl) ms (by decide +kernel) (pa_cons (pe_callTy (call_setL rfl) (by rfl) me (by decide +kernel) (pa_cons (pv 2) pa_nil)) pa_nil))))), ?_⟩
    have few := G.few
    -- there = [place]
    refine ⟨.int p, rfl, by show 1 ≤ sizeLine; decide, fun T0 hT0 => ?_⟩
    have N0 := N.same (same_upd (o := .lst [V.int p]) hT0)
    -- for at in range(place, net[0])
    refine ⟨.int p, rfl, .ref nt, rfl, nt, _, 0, .int many, rfl, rfl, SqT.of N0.top, rfl, p, many, rfl, ⟨by have := G.m24; omega, by have := G.m24; omega, by have := G.m2; omega, by have := G.m24; omega⟩,
      for_range (lo := p) (n := (many - p).toNat) (fun i σ H2 => ∃ (T : Addr) (v3 : Option V), σ = [some (.ref nt), some (.int p), some (.ref T), v3, none, none] ∧ Same H H2 ∧ H2 T = some (.lst ((go ps p i).map V.int)))
        ⟨T0, none, rfl, same_upd hT0, upd_same⟩ ?_ ?_⟩
    · rintro i σ H2 hi ⟨T, v3, rfl, sm, hT⟩
      have N2 := N.same sm
      refine ⟨.int (p + i), rfl, .ref T, rfl, T, _, rfl, .inl (SqL.of hT), rfl, flat_ints _, _, rfl, ?_⟩
      rw [inV_ints]
      have step : go ps p (i + 1) = if (p + (i : Int)) ∈ go ps p i then go ps p i ++ newHeads ps (go ps p i) (p + (i : Int)) ps.length else go ps p i := rfl
      have lenS := go_len_le ps p i
      generalize go ps p i = S at hT step lenS
      by_cases hin : (p + (i : Int)) ∈ S
      · rw [if_pos hin] at step
        show if decide ((p + (i : Int)) ∈ S) = true then _ else _
        rw [decide_eq_true hin]
        refine iteT ?_
        refine ⟨.ref T, rfl, .ref nt, rfl, nt, _, 1, .ref tt, rfl, rfl, SqT.of N2.top, rfl, tt, rfl, ⟨xs, SqT.of N2.roads⟩, fun D hD => ?_⟩
        have nTD : T ≠ D := ne_of_none hT hD
        refine lc_tup (K := K) (a := tt) (xs := xs) (fun j H3 => Same H2 H3 ∧ H3 D = some (.lst ((newHeads ps S (p + (i : Int)) j).map V.int))) ⟨same_upd hD, upd_same⟩ (fun j H3 _ h => SqT.of (h.1 _ _ N2.roads)) ?_ ?_
        · rintro j x H3 hj ⟨sm3, hD3⟩
          obtain ⟨r, hr, t, rfl, ht⟩ := (N2.prs.same sm3).get hj
          have nx := newHeads_succ (S := S) (a := p + (i : Int)) hr
          have hT3 := sm3 _ _ hT
          have lj : j < ps.length := (List.getElem?_eq_some_iff.mp hr).1
          have lh := newHeads_len (ps := ps) (S := S) (a := p + (i : Int)) (n := j)
          refine ⟨t, _, rfl, SqT.of ht, rfl, _, _, rfl, _, _, rfl, rfl, rfl, ?_⟩
          have keep : (∀ o, Same H2 (upd H3 D o)) := fun o b u e => by
            rw [upd_ne (show b ≠ D from fun z => by rw [z, hD] at e; cases e)]
            exact sm3 _ _ e
          refine ⟨.int r.1, rfl, .int (p + i), rfl, rfl, _, rfl, ?_⟩
          by_cases c1 : r.1 = p + (i : Int)
          · rw [decide_eq_true (show V.int r.1 = V.int (p + (i : Int)) by rw [c1])]
            refine iteT ?_
            refine ⟨.int r.2, rfl, .ref T, rfl, T, _, rfl, .inl (SqL.of hT3), rfl, flat_ints _, _, rfl, ?_⟩
            rw [inV_ints]
            by_cases c2 : r.2 ∈ S
            · rw [if_neg (fun z => z.2 c2), List.append_nil] at nx
              rw [decide_eq_true c2]
              refine iteF ⟨sm3, ?_⟩
              rw [nx]
              exact hD3
            · rw [if_pos ⟨c1, c2⟩] at nx
              rw [decide_eq_false c2]
              refine iteT ?_
              refine ⟨.int r.2, rfl, _, hD3, ?_, keep _, ?_⟩
              · rw [List.length_map]
                exact small_line (by omega)
              · rw [upd_same, nx, List.map_append]
                rfl
          · rw [if_neg (fun z => c1 z.1), List.append_nil] at nx
            rw [decide_eq_false (fun z => c1 (V.int.inj z))]
            refine iteF ?_
            refine iteF ⟨sm3, ?_⟩
            rw [nx]
            exact hD3
        · rintro H3 ⟨sm3, hD3⟩
          have lh := newHeads_len (ps := ps) (S := S) (a := p + (i : Int)) (n := xs.length)
          have lx : xs.length = ps.length := Paired.length N.prs
          refine ⟨T, D, _, _, rfl, rfl, sm3 _ _ hT, hD3, ?_, fun T2 hT2 => ?_⟩
          · rw [List.length_map, List.length_map]
            exact small_line' (by omega)
          · refine ⟨T2, _, rfl, (sm.trans sm3).trans (same_upd hT2), ?_⟩
            rw [upd_same, step, lx, List.map_append]
      · rw [if_neg hin] at step
        show if decide ((p + (i : Int)) ∈ S) = true then _ else _
        rw [decide_eq_false hin]
        refine iteF ⟨T, _, rfl, sm, ?_⟩
        rw [step]
        exact hT
    · rintro σ H2 ⟨T, v3, rfl, sm, hT⟩
      have lenS := go_len_le ps p (many - p).toNat
      refine ⟨.ref T, rfl, T, _, rfl, SqL.of hT, by omega, fun s c hc hs => ?_⟩
      refine ⟨s, _, c, rfl, upd_same, by omega, fun ns l srt mem len hl => ?_⟩
      refine q _ l ns ((sm.trans (same_upd hs)).trans (same_upd hl)) ((sm.trans (same_upd hs)).free hl) upd_same fun k => ?_
      rw [mem k, decide_eq_true_iff]
      exact mem_go G.rising (fun r hr => by have := (G.rise r hr).2.2; omega) k
end
end SkW
set_option Elab.async false
set_option linter.all false
set_option maxRecDepth 100000
set_option maxHeartbeats 8000000
namespace SkW
open PySem PySem.Spec PyProof.Rows L2 SkG SkM

/-! ### calls by keywords that name the parameters backwards -/
def gR {α : Type} : List α → List α → List α
  | [], ws => ws.reverse
  | _ :: _, _ => []
theorem vals_rev : ∀ {zs : List V} {ws : List Value}, Vals zs ws → Vals zs.reverse ws.reverse
  | _, _, .nil => .nil
  | _, _, .cons r t => by
    rw [List.reverse_cons, List.reverse_cons]
    exact (vals_rev t).append (.cons r .nil)
theorem gR_rel {vs zs : List V} {us ws : List Value} (r : Vals vs us) (r2 : Vals zs ws) : Vals (gR vs zs) (gR us ws) := by
  cases r with
  | nil => exact vals_rev r2
  | cons _ _ => exact .nil
section
variable {P : Program} {w : World} {K : PySem.W.Frag} {mg : Str → Option Value} {base : Heap}
theorem kbinds2 {x : Str} {st : Stmt} {f : Addr} {fd : FuncData} (F : Fun K x x st f fd)
    (h : ∀ (kV doc pm : Value) (an : Option Addr) (cdv ct a b : Value), bindArgs (PySem.W.fnOf x x (defArgs st) (defBody st) (defScope st) .none kV doc pm an cdv ct) ⟨[], [("place", a), ("net", b)]⟩ = pure [(Str.ofString "net", b), (Str.ofString "place", a)]) :
    KBinds K fd ["net", "place"] ["place", "net"] gR gR := by
  obtain ⟨oc, od, kV, doc, pm, an, cdv, ct, osl, rfl, lk, hcd⟩ := F.ex
  refine ⟨fun s us ws _ hl => ?_, gR_rel⟩
  match us, ws, hl with
  | [], [a, b], _ => exact .of_eq (h kV doc pm an cdv ct a b)
  | [], [], hl => cases hl
  | [], [_], hl => cases hl
  | [], _ :: _ :: _ :: _, hl => exact absurd (show _ = 2 from hl) (by simp [gR])
  | _ :: _, _, hl => cases hl
theorem kbinds3 {x : Str} {st : Stmt} {f : Addr} {fd : FuncData} (F : Fun K x x st f fd)
    (h : ∀ (kV doc pm : Value) (an : Option Addr) (cdv ct a b c : Value), bindArgs (PySem.W.fnOf x x (defArgs st) (defBody st) (defScope st) .none kV doc pm an cdv ct) ⟨[], [("other", a), ("one", b), ("net", c)]⟩ = pure [(Str.ofString "net", c), (Str.ofString "one", b), (Str.ofString "other", a)]) :
    KBinds K fd ["net", "one", "other"] ["other", "one", "net"] gR gR := by
  obtain ⟨oc, od, kV, doc, pm, an, cdv, ct, osl, rfl, lk, hcd⟩ := F.ex
  refine ⟨fun s us ws _ hl => ?_, gR_rel⟩
  match us, ws, hl with
  | [], [a, b, c], _ => exact .of_eq (h kV doc pm an cdv ct a b c)
  | [], [], hl => cases hl
  | [], [_], hl => cases hl
  | [], [_, _], hl => cases hl
  | [], _ :: _ :: _ :: _ :: _, hl => exact absurd (show _ = 3 from hl) (by simp [gR])
  | _ :: _, _, hl => cases hl
theorem kb_from {f : Addr} {fd : FuncData} (F : Fun K "roads_from" "roads_from" sFrom f fd) : KBinds K fd ["net", "place"] ["place", "net"] gR gR := kbinds2 F fun _ _ _ _ _ _ _ _ => rfl
theorem kb_to {f : Addr} {fd : FuncData} (F : Fun K "roads_to" "roads_to" sTo f fd) : KBinds K fd ["net", "place"] ["place", "net"] gR gR := kbinds2 F fun _ _ _ _ _ _ _ _ => rfl
theorem kb_leads {f : Addr} {fd : FuncData} (F : Fun K "leads" "leads" sLeads f fd) : KBinds K fd ["net", "one", "other"] ["other", "one", "net"] gR gR := kbinds3 F fun _ _ _ _ _ _ _ _ _ => rfl

/-! ### _law_leads_told -/
/-- what is reached from each place -/
def There (H : Hp) (th : Addr) (many : Int) (ps : List (Int × Int)) : Prop := ∃ ls : List V, H th = some (.lst ls) ∧ ∀ p : Nat, (p : Int) < many → ∃ (l : Addr) (ns : List Int), ls[p]? = some (.ref l) ∧ H l = some (.lst (ns.map V.int)) ∧ ∀ k, k ∈ ns ↔ Reach ps p k
theorem There.same {H H' : Hp} {th : Addr} {many : Int} {ps : List (Int × Int)} (t : There H th many ps) (s : Same H H') : There H' th many ps := by
  obtain ⟨ls, h1, h2⟩ := t
  refine ⟨ls, s _ _ h1, fun p hp => ?_⟩
  obtain ⟨l, ns, a, b, c⟩ := h2 p hp
  exact ⟨l, ns, a, s _ _ b, c⟩
def spLTold : Sp := fun vs H Q _ => ∃ (nt tt th : Addr) (many : Int) (one other : Nat) (b : Bool) (xs : List V) (ps : List (Int × Int)) (r1 r2 : Int × Int), vs = [.ref nt, .ref th, .int one, .int other, .bl b] ∧ NetAt H nt tt many xs ps ∧ Good many ps ∧ There H th many ps ∧
  ps[one]? = some r1 ∧ ps[other]? = some r2 ∧ ∀ H', Same H H' → Q (.bl true) H'
abbrev nLT : List Str := ["_law_net_here", "_law_there", "_law_one", "_law_other", "_law_is_named", "_law_due", "_law_told"]
theorem scLTold : FnScope nLT ["_law_net_here", "_law_there", "_law_one", "_law_other", "_law_is_named"] (defScope sLTold) := ⟨rfl, rfl, rfl, by decide +kernel, rfl, by decide +kernel, by decide +kernel⟩
theorem ok_ltold {f fL fP : Addr} {fd fdL fdP : FuncData} (F : Fun K "_law_leads_told" "_law_leads_told" sLTold f fd) (FL : Fun K "leads" "leads" sLeads fL fdL) (bL : Binds K fdL ["net", "one", "other"] []) (gL : mg "leads" = some (.ref fL))
    (FP : Fun K "places_from" "places_from" sPlaces fP fdP) (bP : Binds K fdP ["net", "place"] []) (gP : mg "places_from" = some (.ref fP)) (ms : mg "sorted" = none) (mre : mg "repr" = none) :
    FnOk P w K mg base CX0 3 f fd ["_law_net_here", "_law_there", "_law_one", "_law_other", "_law_is_named"] spLTold := by
  have GL : FnOk P w K mg base CX0 2 fL fdL ["net", "one", "other"] spLeads := ok_leads FL FP bP gP ms
  refine F.ok scLTold (fun vs H Q E h => ?_) (fun cdv A outer s H vs Q E hr h => ?_)
  · obtain ⟨nt, tt, th, many, one, other, b, xs, ps, r1, r2, rfl, _⟩ := h
    rfl
  · obtain ⟨nt, tt, th, many, one, other, b, xs, ps, r1, r2, rfl, N, G, T, h1, h2, q⟩ := h
    obtain ⟨x1, e1, t1, rfl, ht1⟩ := N.prs.got h1
    obtain ⟨x2, e2, t2, rfl, ht2⟩ := N.prs.got h2
    refine ⟨_, pss_cons (ps_set (i := 5) scLTold.nd rfl (Or.inl rfl) (pe_cmpR op_in_seq
        (pe_ix ix_tup (pe_ix ix_tup (pe_ix ix_tup (pv 0) pe_int (fun _ _ => rfl)) (pv 3) (fun _ _ => rfl)) pe_int (fun _ _ => rfl))
        (pe_ix ix_list (pv 1) (pe_ix ix_tup (pe_ix ix_tup (pe_ix ix_tup (pv 0) pe_int (fun _ _ => rfl)) (pv 2) (fun _ _ => rfl)) pe_int (fun _ _ => rfl)) (fun _ _ => rfl)) (by rfl)))
      (pss_cons (ps_set (i := 6) scLTold.nd rfl (Or.inl rfl) (pe_ifExp (pt_val (pv 4))
        (pe_callK0 GL hr (by rfl) gL FL.kp (kb_leads FL) pass0 (pk_cons (pv 3) (pk_cons (pv 2) (pk_cons (pv 0) pk_nil))))
        (pe_call GL hr (by rfl) gL FL.kp bL .nil pass0 (pa_cons (pv 0) (pa_cons (pv 2) (pa_cons (pv 3) pa_nil))))))
      (pss_one (ps_ret (pe_cmpR op_eq (pe_callB call_repr_bool (by rfl) mre (by decide +kernel) (pa_cons (pv 6) pa_nil)) (pe_callB call_repr_bool (by rfl) mre (by decide +kernel) (pa_cons (pv 5) pa_nil)) (nomark _))))), ?_⟩
    obtain ⟨ls, hth, tab⟩ := T
    have rise1 := G.rise r1 (List.mem_of_getElem? h1)
    obtain ⟨l, ns, el, hl, iff_⟩ := tab r1.2.toNat (by omega)
    have ec : ((r1.2.toNat : Nat) : Int) = r1.2 := by omega
    rw [ec] at iff_
    refine ⟨.ref nt, rfl, nt, _, 1, .ref tt, rfl, rfl, SqT.of N.top, rfl, .int other, rfl, tt, xs, _, .ref t2, rfl, rfl, SqT.of N.roads, atI_nat e2, t2, _, 0, .int r2.1, rfl, rfl, SqT.of ht2, rfl, ?_⟩
    refine ⟨.ref th, rfl, .ref nt, rfl, nt, _, 1, .ref tt, rfl, rfl, SqT.of N.top, rfl, .int one, rfl, tt, xs, _, .ref t1, rfl, rfl, SqT.of N.roads, atI_nat e1, t1, _, 1, .int r1.2, rfl, rfl, SqT.of ht1, rfl, th, ls, _, .ref l, rfl, rfl, SqL.of hth, at_of ec.symm el, ?_⟩
    refine ⟨l, _, rfl, .inl (SqL.of hl), rfl, flat_ints _, ?_⟩
    -- both are the same truth
    have fin : ∀ (H' : Hp) (c : Bool), Same H H' → (c = true ↔ Reach ps r1.2 r2.1) → Q (.bl (decide (V.str (boolText c) = V.str (boolText (inV (.int r2.1) (ns.map V.int)))))) H' := fun H' c sm hc => by
      have e : inV (.int r2.1) (ns.map V.int) = c := by
        rw [inV_ints]
        by_cases z : r2.1 ∈ ns
        · rw [decide_eq_true z]
          exact (hc.mpr ((iff_ _).mp z)).symm
        · rw [decide_eq_false z]
          cases c with
          | false => rfl
          | true => exact absurd ((iff_ _).mpr (hc.mp rfl)) z
      rw [e, decide_eq_true rfl]
      exact q H' sm
    refine ⟨.bl b, rfl, b, rfl, ?_⟩
    cases b with
    | true =>
      refine iteT ?_
      refine ⟨.int other, rfl, .int one, rfl, .ref nt, rfl, nt, tt, many, one, other, xs, ps, r1, r2, rfl, N, G.rising, G.few, h1, h2, fun H' c sm hc => ?_⟩
      exact ⟨.bl c, rfl, c, rfl, .bl _, rfl, _, rfl, rfl, fin H' c sm hc⟩
    | false =>
      refine iteF ?_
      refine ⟨.ref nt, rfl, .int one, rfl, .int other, rfl, nt, tt, many, one, other, xs, ps, r1, r2, rfl, N, G.rising, G.few, h1, h2, fun H' c sm hc => ?_⟩
      exact ⟨.bl c, rfl, c, rfl, .bl _, rfl, _, rfl, rfl, fin H' c sm hc⟩
end
end SkW
set_option Elab.async false
set_option linter.all false
set_option maxRecDepth 100000
set_option maxHeartbeats 8000000
namespace SkW
open PySem PySem.Spec PyProof.Rows L2 SkG SkM
/-- the scope of the comprehension that a statement stores -/
def lcScope (s : Stmt) : Scope := match s with
  | .Assign _ (.ListComp _ _ sc _) _ => sc
  | _ => { kind := .function, names := [], isGenerator := false, isCoroutine := false }
def rTupOf (K : PySem.W.Frag) : List V → Hp → VK → Prop := fun xs H Q => ∃ p ys, xs = [.ref p] ∧ ((SqL K H p ys ∧ ∀ l, H l = none → Q (.ref l) (upd H l (.tup ys))) ∨ (SqT K H p ys ∧ Q (.ref p) H))
theorem call_tupOf {X : Cx} : CallR X (.type "tuple") (rTupOf X.K) := call_tuple_of
/-- tuple([road for road, pair in enumerate(net[1]) if pair[side] == place]) -/
abbrev teTold (K : PySem.W.Frag) : TE := tCB (rTupOf K) (tCons (tLc (iEnumT K (tCons (tOp (rIxT K) (tVar 0) (tC (.int 1))) tNil)) (gTup K 2 (gCons (gName 5) (gCons (gName 6) gNil))) (tTest (tOp rEq (tOp (rIxT K) (tVar 6) (tVar 7)) (tVar 1))) (tVar 5) [5, 6]) tNil)
section
variable {P : Program} {w : World} {K : PySem.W.Frag} {mg : Str → Option Value} {base : Heap}
/-! ### _law_are_roads_told -/
def spTold : Sp := fun vs H Q _ => ∃ (nt tt : Addr) (many p : Int) (b : Bool) (xs : List V) (ps : List (Int × Int)), vs = [.ref nt, .int p, .bl b] ∧ NetAt H nt tt many xs ps ∧ Good many ps ∧ ∀ H', Same H H' → Q (.bl true) H'
abbrev nT : List Str := ["_law_net_here", "_law_place", "_law_is_named", "_law_due", "_law_told", "_law_road", "_law_pair", "_law_side"]
theorem scTold : FnScope nT ["_law_net_here", "_law_place", "_law_is_named"] (defScope sTold) := ⟨rfl, rfl, rfl, by decide +kernel, rfl, by decide +kernel, by decide +kernel⟩
/-- one side of the due list -/
theorem te_told {nt tt : Addr} {many p : Int} {b : Bool} {xs : List V} {ps : List (Int × Int)} {i : Nat} {f : Int × Int → Bool} {H : Hp} {Q : VK} (N : NetAt H nt tt many xs ps) (few : ps.length ≤ 60) (hf : (i = 0 ∧ f = atFoot p) ∨ (i = 1 ∧ f = atHead p))
    (q : ∀ H' d1, Same H H' → H' d1 = some (.tup ((hits f ps ps.length).map V.int)) → Q (.ref d1) H') :
    teTold K [some (.ref nt), some (.int p), some (.bl b), none, none, none, none, some (.int i)] H Q := by
  refine ⟨.ref nt, rfl, nt, _, 1, .ref tt, rfl, rfl, SqT.of N.top, rfl, tt, xs, rfl, SqT.of N.roads, fun D hD => ?_⟩
  have lenE : xs.length = ps.length := Paired.length N.prs
  refine lc_it (walk_enumT (K := K) (a := tt) (xs := xs)) (fun j H' => Same H H' ∧ H' D = some (.lst ((hits f ps j).map V.int))) ⟨same_upd hD, upd_same⟩ (fun j H' _ h => SqT.of (h.1 _ _ N.roads)) ?_ ?_
  · rintro j y H1 H2 hj ⟨sm, hd⟩ ⟨T, x1, x2, rfl, nT, rfl, e1, e2⟩
    obtain rfl : V.int (j : Nat) = x1 := Option.some.inj e1
    obtain ⟨r, hr, t, rfl, ht⟩ := (N.prs.same sm).get e2
    have nTD : D ≠ T := ne_of_none hd nT
    have smT := same_upd (o := .tup [.int (j : Nat), .ref t]) nT
    have nx := hits_succ (f := f) hr
    have pick : ∃ z : Int, atI [V.int r.1, V.int r.2] (i : Int) = some (.int z) ∧ decide (V.int z = V.int p) = f r := by
      rcases hf with ⟨rfl, rfl⟩ | ⟨rfl, rfl⟩
      · exact ⟨r.1, rfl, v_int_eq _ _⟩
      · exact ⟨r.2, rfl, v_int_eq _ _⟩
    obtain ⟨z, hz, ez⟩ := pick
    refine ⟨T, _, rfl, SqT.of upd_same, rfl, _, _, rfl, _, _, rfl, rfl, rfl, ?_⟩
    refine ⟨.ref t, rfl, .int i, rfl, t, _, i, .int z, rfl, rfl, SqT.of (smT _ _ ht), hz, .int p, rfl, rfl, _, rfl, ?_⟩
    rw [ez]
    cases c : f r with
    | true =>
      refine iteT ?_
      rw [c, if_pos rfl] at nx
      refine ⟨.int j, rfl, (hits f ps j).map V.int, smT _ _ hd, ?_, ?_, ?_⟩
      · rw [List.length_map]
        have := hits_len (f := f) (ps := ps) j
        exact small_line (by omega)
      · intro b o e
        rw [upd_ne (show b ≠ D from fun z => by rw [z, hD] at e; cases e)]
        exact smT _ _ (sm _ _ e)
      · rw [upd_same, nx, List.map_append]
        rfl
    | false =>
      refine iteF ?_
      rw [c, if_neg Bool.false_ne_true, List.append_nil] at nx
      refine ⟨sm.trans smT, ?_⟩
      rw [nx]
      exact smT _ _ hd
  · rintro H1 ⟨sm, hd⟩
    refine ⟨D, _, rfl, .inl ⟨SqL.of hd, fun l hl => ?_⟩⟩
    refine q _ l (sm.trans (same_upd hl)) ?_
    rw [upd_same, lenE]
theorem ok_told {f fF fT : Addr} {fd fdF fdT : FuncData} (F : Fun K "_law_are_roads_told" "_law_are_roads_told" sTold f fd)
    (FF : Fun K "roads_from" "roads_from" sFrom fF fdF) (bF : Binds K fdF ["net", "place"] []) (gF : mg "roads_from" = some (.ref fF))
    (FT : Fun K "roads_to" "roads_to" sTo fT fdT) (bT : Binds K fdT ["net", "place"] []) (gT : mg "roads_to" = some (.ref fT))
    (me : mg "enumerate" = none) (mt : mg "tuple" = none) (mre : mg "repr" = none) :
    FnG P w K mg base (1 + 1) f fd ["_law_net_here", "_law_place", "_law_is_named"] spTold := by
  have GF : FnOk P w K mg base CX0 1 fF fdF ["net", "place"] (spRoads atFoot) := ok_from FF me mt
  have GT : FnOk P w K mg base CX0 1 fT fdT ["net", "place"] (spRoads atHead) := ok_to FT me mt
  refine fun_okG F scTold (fun vs H Q E h => ?_) (fun cdv A outer s H vs Q gd hr h => ?_)
  · obtain ⟨nt, tt, many, p, b, xs, ps, rfl, _⟩ := h
    rfl
  · obtain ⟨nt, tt, many, p, b, xs, ps, rfl, N, G, q⟩ := h
    have gd' : (A.deeper (envOfC "_law_are_roads_told" (defScope sTold) s.heap.objs.size f cdv)).guards = some [] := gd
    refine ⟨_, pss_cons (ps_setLc (i := 3) (own := [("_law_side", 7)]) (g := gName 7) (tt := tYes) (te := teTold K) rfl scTold.nd rfl rfl (sw_true rfl rfl rfl (by decide +kernel))
          (pi_tup (pe_tup (pa_cons pe_int (pa_cons pe_int pa_nil)))) (blkOk_by (N := nT) (sc := defScope sTold) (by decide +kernel))
          (fun _ _ _ _ _ => pg_name (i := 7) scTold.nd rfl (Or.inr rfl))
          (fun _ _ _ _ _ => pts_nil)
          (fun _ _ _ _ _ => pe_callTy call_tupOf (by rfl) mt (by decide +kernel) (pa_cons
            (pe_lc (own := [("_law_road", 5), ("_law_pair", 6)]) (g := gTup K 2 (gCons (gName 5) (gCons (gName 6) gNil))) (tt := tTest (tOp rEq (tOp (rIxT K) (tVar 6) (tVar 7)) (tVar 1))) (te := tVar 5) rfl scTold.nd
              (pi_enumT (by rfl) me (pa_cons (pe_ix ix_tup (pv 0) pe_int (fun _ _ => rfl)) pa_nil))
              (blkOk_by (N := nT) (sc := relS (lcScope ((defBody sTold).getD 0 (.Pass ⟨0, 0, 0, 0⟩))) (defScope sTold)) (by decide +kernel))
              (fun _ _ _ _ _ => pg_tup rfl (pgs_cons (pg_name (i := 5) scTold.nd rfl (Or.inl rfl)) (pgs_cons (pg_name (i := 6) scTold.nd rfl (Or.inl rfl)) pgs_nil)))
              (fun _ _ _ _ _ => pts_one (pt_cmpR op_eq (pe_ix ix_tup (pv 6) (pv 7) (fun _ _ => rfl)) (pv 1) (nomark _)))
              (fun _ _ _ _ _ => pv 5)) pa_nil)))
      (pss_cons (ps_if (pt_val (pv 2))
        (pss_one (ps_set (i := 4) scTold.nd rfl (Or.inl rfl) (pe_lst (pa_cons (pe_callK0 GF hr (by rfl) gF FF.kp (kb_from FF) pass0 (pk_cons (pv 1) (pk_cons (pv 0) pk_nil))) (pa_cons (pe_callK0 GT hr (by rfl) gT FT.kp (kb_to FT) pass0 (pk_cons (pv 1) (pk_cons (pv 0) pk_nil))) pa_nil)))))
        (pss_one (ps_set (i := 4) scTold.nd rfl (Or.inl rfl) (pe_lst (pa_cons (pe_call GF hr (by rfl) gF FF.kp bF .nil pass0 (pa_cons (pv 0) (pa_cons (pv 1) pa_nil))) (pa_cons (pe_call GT hr (by rfl) gT FT.kp bT .nil pass0 (pa_cons (pv 0) (pa_cons (pv 1) pa_nil))) pa_nil))))))
      (pss_one (ps_ret (pe_and (pe_cmpR op_eq (pe_callB (call_repr_data gd' hr.units) (by rfl) mre (by decide +kernel) (pa_cons (pv 4) pa_nil)) (pe_callB (call_repr_data gd' hr.units) (by rfl) mre (by decide +kernel) (pa_cons (pv 3) pa_nil)) (nomark _))
        (pe_one (pe_cmpR op_eq (pe_callB (call_repr_data gd' hr.units) (by rfl) mre (by decide +kernel) (pa_cons (pe_lst (pa_cons (pe_call GF hr (by rfl) gF FF.kp bF .nil pass0 (pa_cons (pv 0) (pa_cons (pv 1) pa_nil))) (pa_cons (pe_call GT hr (by rfl) gT FT.kp bT .nil pass0 (pa_cons (pv 0) (pa_cons (pv 1) pa_nil))) pa_nil))) pa_nil))
          (pe_callB (call_repr_data gd' hr.units) (by rfl) mre (by decide +kernel) (pa_cons (pv 3) pa_nil)) (nomark _))))))), ?_⟩
    have few := G.few
    -- the data
    have fa : ∀ i ∈ hits (atFoot p) ps ps.length, Few i := fun i hi => by
      have := hits_mem hi
      exact ⟨this.1, by omega⟩
    have fb : ∀ i ∈ hits (atHead p) ps ps.length, Few i := fun i hi => by
      have := hits_mem hi
      exact ⟨this.1, by omega⟩
    have la : (hits (atFoot p) ps ps.length).length ≤ 60 := Nat.le_trans (hits_len _) few
    have lb : (hits (atHead p) ps ps.length).length ≤ 60 := Nat.le_trans (hits_len _) few
    obtain ⟨k1, k2, k3, k4⟩ := toldD_ok fa fb la lb
    have dp : ∀ {H5 : Hp} {L q1 q2 : Addr}, H5 L = some (.lst [.ref q1, .ref q2]) → H5 q1 = some (.tup ((hits (atFoot p) ps ps.length).map V.int)) → H5 q2 = some (.tup ((hits (atHead p) ps ps.length).map V.int)) →
        Dp K H5 (.ref L) (toldD (hits (atFoot p) ps ps.length) (hits (atHead p) ps ps.length)) := fun h1 h2 h3 => .lst (SqL.of h1) (.cons (.tup (SqT.of h2) (dps_ints _)) (.cons (.tup (SqT.of h3) (dps_ints _)) .nil))
    generalize hA : hits (atFoot p) ps ps.length = ia at dp k1 k2 k3 k4
    generalize hB : hits (atHead p) ps ps.length = ib at dp k1 k2 k3 k4
    -- due
    refine ⟨by show 2 ≤ sizeLine; decide, fun W hW => ⟨W, rfl, ⟨_, SqT.of upd_same⟩, fun D hD => ?_⟩⟩
    have sW := same_upd (o := .tup [V.int 0, V.int 1]) hW
    have nWD : W ≠ D := ne_of_none upd_same hD
    refine lc_tup (K := K) (a := W) (xs := [V.int 0, V.int 1]) (fun i H' => Same (upd H W (.tup [V.int 0, V.int 1])) H' ∧ ((i = 0 ∧ H' D = some (.lst [])) ∨ (i = 1 ∧ ∃ d1, H' D = some (.lst [.ref d1]) ∧ H' d1 = some (.tup (ia.map V.int))) ∨
        (i = 2 ∧ ∃ d1 d2, H' D = some (.lst [.ref d1, .ref d2]) ∧ H' d1 = some (.tup (ia.map V.int)) ∧ H' d2 = some (.tup (ib.map V.int)))))
      ⟨same_upd hD, .inl ⟨rfl, upd_same⟩⟩ (fun i H' _ h => SqT.of (h.1 _ _ upd_same)) ?_ ?_
    · rintro i x H3 hx ⟨sm, hcase⟩
      have keep : ∀ {H4 : Hp} {o : HO}, Same H3 H4 → Same (upd H W (.tup [V.int 0, V.int 1])) (upd H4 D o) := fun s4 b u e => by
        rw [upd_ne (show b ≠ D from fun z => by rw [z, hD] at e; cases e)]
        exact s4 _ _ (sm _ _ e)
      rcases hcase with ⟨rfl, hD3⟩ | ⟨rfl, d1, hD3, hd1⟩ | ⟨rfl, _⟩
      · obtain rfl : V.int 0 = x := Option.some.inj hx
        refine ⟨rfl, ?_⟩
        refine te_told (i := 0) (f := atFoot p) (N.same (sW.trans sm)) few (.inl ⟨rfl, rfl⟩) fun H4 d1 s4 h4 => ?_
        rw [hA] at h4
        refine ⟨[], s4 _ _ hD3, by show 0 < sizeLine; decide, keep s4, .inr (.inl ⟨rfl, d1, upd_same, ?_⟩)⟩
        rw [upd_ne (ne_of h4 (s4 _ _ hD3) (by intro z; cases z))]
        exact h4
      · obtain rfl : V.int 1 = x := Option.some.inj hx
        refine ⟨rfl, ?_⟩
        refine te_told (i := 1) (f := atHead p) (N.same (sW.trans sm)) few (.inr ⟨rfl, rfl⟩) fun H4 d2 s4 h4 => ?_
        rw [hB] at h4
        refine ⟨[.ref d1], s4 _ _ hD3, by show 1 < sizeLine; decide, keep s4, .inr (.inr ⟨rfl, d1, d2, upd_same, ?_, ?_⟩)⟩
        · rw [upd_ne (ne_of hd1 hD3 (by intro z; cases z))]
          exact s4 _ _ hd1
        · rw [upd_ne (ne_of h4 (s4 _ _ hD3) (by intro z; cases z))]
          exact h4
      · cases hx
    rintro H1 ⟨sm1, hcase⟩
    obtain ⟨d1, d2, hD1, hd1, hd2⟩ : ∃ d1 d2, H1 D = some (.lst [.ref d1, .ref d2]) ∧ H1 d1 = some (.tup (ia.map V.int)) ∧ H1 d2 = some (.tup (ib.map V.int)) := by
      rcases hcase with ⟨z, _⟩ | ⟨z, _⟩ | ⟨_, h⟩
      · cases z
      · cases z
      · exact h
    have s1 : Same H H1 := sW.trans sm1
    have N1 := N.same s1
    -- told, both ways
    refine ⟨.bl b, rfl, b, rfl, ?_⟩
    cases b with
    | true =>
      refine iteT ?_
      refine ⟨.int p, rfl, .ref nt, rfl, nt, tt, many, p, xs, ps, rfl, N1, few, fun H2 q1 s2 h1 => ⟨.int p, rfl, .ref nt, rfl, nt, tt, many, p, xs, ps, rfl, N1.same s2, few, fun H3 q2 s3 h2 => ⟨by show 2 ≤ sizeLine; decide, fun L hL => ?_⟩⟩⟩
      rw [hA] at h1
      rw [hB] at h2
      have sL := same_upd (o := .lst [V.ref q1, V.ref q2]) hL
      have s5 := (s2.trans s3).trans sL
      have due := dp (s5 _ _ hD1) (s5 _ _ hd1) (s5 _ _ hd2)
      have told := dp upd_same (sL _ _ (s3 _ _ h1)) (sL _ _ h2)
      refine ⟨.ref L, rfl, L, _, rfl, told, k1, k2, k3, k4, .ref D, rfl, D, _, rfl, due, k1, k2, k3, k4, rfl, _, rfl, ?_⟩
      rw [decide_eq_true rfl]
      refine iteT ?_
      refine ⟨.ref nt, rfl, .int p, rfl, nt, tt, many, p, xs, ps, rfl, N1.same s5, few, fun H6 q3 s6 h3 => ⟨.ref nt, rfl, .int p, rfl, nt, tt, many, p, xs, ps, rfl, (N1.same s5).same s6, few, fun H7 q4 s7 h4 => ⟨by show 2 ≤ sizeLine; decide, fun L2 hL2 => ?_⟩⟩⟩
      rw [hA] at h3
      rw [hB] at h4
      have sL2 := same_upd (o := .lst [V.ref q3, V.ref q4]) hL2
      have s8 := (s6.trans s7).trans sL2
      have s9 := s5.trans s8
      have due2 := dp (s9 _ _ hD1) (s9 _ _ hd1) (s9 _ _ hd2)
      have told2 := dp upd_same (sL2 _ _ (s7 _ _ h3)) (sL2 _ _ h4)
      refine ⟨L2, _, rfl, told2, k1, k2, k3, k4, .ref D, rfl, D, _, rfl, due2, k1, k2, k3, k4, rfl, ?_⟩
      rw [decide_eq_true rfl]
      exact q _ (s1.trans s9)
    | false =>
      refine iteF ?_
      refine ⟨.ref nt, rfl, .int p, rfl, nt, tt, many, p, xs, ps, rfl, N1, few, fun H2 q1 s2 h1 => ⟨.ref nt, rfl, .int p, rfl, nt, tt, many, p, xs, ps, rfl, N1.same s2, few, fun H3 q2 s3 h2 => ⟨by show 2 ≤ sizeLine; decide, fun L hL => ?_⟩⟩⟩
      rw [hA] at h1
      rw [hB] at h2
      have sL := same_upd (o := .lst [V.ref q1, V.ref q2]) hL
      have s5 := (s2.trans s3).trans sL
      have due := dp (s5 _ _ hD1) (s5 _ _ hd1) (s5 _ _ hd2)
      have told := dp upd_same (sL _ _ (s3 _ _ h1)) (sL _ _ h2)
      refine ⟨.ref L, rfl, L, _, rfl, told, k1, k2, k3, k4, .ref D, rfl, D, _, rfl, due, k1, k2, k3, k4, rfl, _, rfl, ?_⟩
      rw [decide_eq_true rfl]
      refine iteT ?_
      refine ⟨.ref nt, rfl, .int p, rfl, nt, tt, many, p, xs, ps, rfl, N1.same s5, few, fun H6 q3 s6 h3 => ⟨.ref nt, rfl, .int p, rfl, nt, tt, many, p, xs, ps, rfl, (N1.same s5).same s6, few, fun H7 q4 s7 h4 => ⟨by show 2 ≤ sizeLine; decide, fun L2 hL2 => ?_⟩⟩⟩
      rw [hA] at h3
      rw [hB] at h4
      have sL2 := same_upd (o := .lst [V.ref q3, V.ref q4]) hL2
      have s8 := (s6.trans s7).trans sL2
      have s9 := s5.trans s8
      have due2 := dp (s9 _ _ hD1) (s9 _ _ hd1) (s9 _ _ hd2)
      have told2 := dp upd_same (sL2 _ _ (s7 _ _ h3)) (sL2 _ _ h4)
      refine ⟨L2, _, rfl, told2, k1, k2, k3, k4, .ref D, rfl, D, _, rfl, due2, k1, k2, k3, k4, rfl, ?_⟩
      rw [decide_eq_true rfl]
      exact q _ (s1.trans s9)
end
end SkW
set_option Elab.async false
set_option linter.all false
set_option maxRecDepth 100000
set_option maxHeartbeats 8000000
namespace SkW
open PySem PySem.Spec PyProof.Rows L2 SkG SkM
/-- what is reached from each place, in lists that the deck has no part in -/
def ThereD (H : Hp) (g th : Addr) (many : Int) (ps : List (Int × Int)) : Prop := ∃ ls : List V, H th = some (.lst ls) ∧ th ≠ g ∧ ∀ p : Nat, (p : Int) < many → ∃ (l : Addr) (ns : List Int), ls[p]? = some (.ref l) ∧ l ≠ g ∧ H l = some (.lst (ns.map V.int)) ∧ ∀ k, k ∈ ns ↔ Reach ps p k
theorem ThereD.there {H : Hp} {g th : Addr} {many : Int} {ps : List (Int × Int)} (t : ThereD H g th many ps) : There H th many ps := by
  obtain ⟨ls, h1, _, h2⟩ := t
  refine ⟨ls, h1, fun p hp => ?_⟩
  obtain ⟨l, ns, a, _, b, c⟩ := h2 p hp
  exact ⟨l, ns, a, b, c⟩
theorem ThereD.same {H H' : Hp} {g th : Addr} {many : Int} {ps : List (Int × Int)} (t : ThereD H g th many ps) (s : Same H H') : ThereD H' g th many ps := by
  obtain ⟨ls, h1, n, h2⟩ := t
  refine ⟨ls, s _ _ h1, n, fun p hp => ?_⟩
  obtain ⟨l, ns, a, m, b, c⟩ := h2 p hp
  exact ⟨l, ns, a, m, s _ _ b, c⟩
theorem ThereD.drawn {H H' : Hp} {d g th : Addr} {many : Int} {ps : List (Int × Int)} (t : ThereD H g th many ps) (D : Deck H d g) (s : Drawn d g H H') : ThereD H' g th many ps := by
  obtain ⟨ls, h1, n, h2⟩ := t
  refine ⟨ls, s.keeps _ _ (D.lst_ne h1) n h1, n, fun p hp => ?_⟩
  obtain ⟨l, ns, a, m, b, c⟩ := h2 p hp
  exact ⟨l, ns, a, m, s.keeps _ _ (D.lst_ne b) m b, c⟩
/-- two places of roads -/
def IdxOk (n : Nat) (r : Int × Int) : Prop := ∃ a b : Nat, r = ((a : Int), (b : Int)) ∧ a < n ∧ b < n
theorem netDp {K : PySem.W.Frag} {H : Hp} {nt tt : Addr} {many : Int} {xs : List V} {ps : List (Int × Int)} (N : NetAt H nt tt many xs ps) : Dp K H (.ref nt) (netD many ps) :=
  .tup (SqT.of N.top) (.cons (.int many) (.cons (.tup (SqT.of N.roads) N.prs.dps) .nil))
theorem good_shows {many : Int} {ps : List (Int × Int)} (G : Good many ps) : (netD many ps).showable = true ∧ (netD many ps).hasDict = false ∧ (netD many ps).depth ≤ 60 ∧ (netD many ps).shown.length ≤ sizeLine := by
  have := G.m2
  have := G.m24
  refine netD_ok ⟨by omega, by omega⟩ (fun r hr => ?_) G.few
  have := G.rise r hr
  exact ⟨⟨by omega, by omega⟩, ⟨by omega, by omega⟩⟩
section
variable {P : Program} {w : World} {K : PySem.W.Frag} {mg : Str → Option Value} {base : Heap}
/-! ### _law_is_right -/
def spRight : Sp := fun vs H Q _ => ∃ (d g nt tt : Addr) (many : Int) (xs : List V) (ps : List (Int × Int)), vs = [.ref d, .ref nt] ∧ Deck H d g ∧ NetAt H nt tt many xs ps ∧ Good many ps ∧ ∀ H', Drawn d g H H' → Q (.bl true) H'
abbrev nRi : List Str := ["_law_deck_here", "_law_net_here", "_law_place", "_law_known", "_law_there", "_law_pairs", "_law_one", "_law_other", "_law_nth"]
theorem scRight : FnScope nRi ["_law_deck_here", "_law_net_here"] (defScope sRight) := ⟨rfl, rfl, rfl, by decide +kernel, rfl, by decide +kernel, by decide +kernel⟩
theorem ok_right {f fR fT fS fL : Addr} {fd fdR fdT fdS fdL : FuncData} (F : Fun K "_law_is_right" "_law_is_right" sRight f fd)
    (kR : PySem.W.keepIn K (.ref fR) = true) (bR : Binds K fdR ["_law_net_here", "_law_place"] []) (gR' : mg "_law_reached" = some (.ref fR)) (GR : FnOk P w K mg base CX0 1 fR fdR ["_law_net_here", "_law_place"] spReached)
    (kT : PySem.W.keepIn K (.ref fT) = true) (bT : Binds K fdT ["_law_net_here", "_law_place", "_law_is_named"] []) (gT : mg "_law_are_roads_told" = some (.ref fT)) (GT : FnG P w K mg base 2 fT fdT ["_law_net_here", "_law_place", "_law_is_named"] spTold)
    (kS : PySem.W.keepIn K (.ref fS) = true) (bS : Binds K fdS ["_law_deck_here", "_law_items"] []) (gS : mg "_law_shuffled" = some (.ref fS)) (GS : FnOk P w K mg base CX0 2 fS fdS ["_law_deck_here", "_law_items"] (spShuf K))
    (kL : PySem.W.keepIn K (.ref fL) = true) (bL : Binds K fdL ["_law_net_here", "_law_there", "_law_one", "_law_other", "_law_is_named"] []) (gL : mg "_law_leads_told" = some (.ref fL))
    (GL : FnOk P w K mg base CX0 3 fL fdL ["_law_net_here", "_law_there", "_law_one", "_law_other", "_law_is_named"] spLTold)
    (mre : mg "repr" = none) (mr : mg "range" = none) (ml : mg "len" = none) (me : mg "enumerate" = none) :
    FnG P w K mg base (3 + 1) f fd ["_law_deck_here", "_law_net_here"] spRight := by
  refine fun_okG F scRight (fun vs H Q E h => ?_) (fun cdv A outer s H vs Q gd hr h => ?_)
  · obtain ⟨d, g, nt, tt, many, xs, ps, rfl, _⟩ := h
    rfl
  · obtain ⟨d, g, nt, tt, many, xs, ps, rfl, D, N, G, q⟩ := h
    have gd' : (A.deeper (envOfC "_law_is_right" (defScope sRight) s.heap.objs.size f cdv)).guards = some [] := gd
    have hr1 : Room 1 (A.deeper (envOfC "_law_is_right" (defScope sRight) s.heap.objs.size f cdv)) := hr.mono (by decide)
    have hr2 : Room 2 (A.deeper (envOfC "_law_is_right" (defScope sRight) s.heap.objs.size f cdv)) := hr.mono (by decide)
    refine ⟨_, pss_cons (ps_par (i := 3) (j := 4) (by rfl) scRight.nd rfl rfl (by decide) rfl rfl (pa_cons (pe_callB (call_repr_data gd' hr.units) (by rfl) mre (by decide +kernel) (pa_cons (pv 1) pa_nil))
        (pa_cons (pe_lc (own := [("_law_place", 2)]) (g := gName 2) (tt := tYes) (te := tCall spReached [] E0 (tCons (tVar 1) (tCons (tVar 2) tNil))) rfl scRight.nd
          (pi_range1 (by rfl) mr (pa_cons (pe_ix ix_tup (pv 1) pe_int (fun _ _ => rfl)) pa_nil)) (blkOk_by (N := nRi) (sc := defScope sRight) (by decide +kernel))
          (fun _ _ _ _ _ => pg_name (i := 2) scRight.nd rfl (Or.inl rfl)) (fun _ _ _ _ _ => pts_nil)
          (fun _ _ _ _ _ => pe_call GR hr1 (by rfl) gR' kR bR .nil pass0 (pa_cons (pv 1) (pa_cons (pv 2) pa_nil)))) pa_nil)) (by rfl))
      (pss_cons (ps_for PassesOwn.never rfl (pi_range1 (by rfl) mr (pa_cons (pe_ix ix_tup (pv 1) pe_int (fun _ _ => rfl)) pa_nil)) (pg_name (i := 2) scRight.nd rfl (Or.inl rfl))
        (pss_one (ps_if (pt_not (pt_val (pe_callG gd' GT hr2 (by rfl) gT kT bT (pa_cons (pv 1) (pa_cons (pv 2) (pa_cons (pe_cmpR op_eq (pv 2) pe_int (nomark _)) pa_nil)))))) (pss_one (ps_ret pe_bl)) pss_nil)))
      (pss_cons (ps_set (i := 5) scRight.nd rfl (Or.inl rfl) (pe_lst pa_nil))
      (pss_cons (ps_for PassesOwn.never rfl (pi_range1 (by rfl) mr (pa_cons (pe_callB call_len_seq (by rfl) ml PySem.boot_len (pa_cons (pe_ix ix_tup (pv 1) pe_int (fun _ _ => rfl)) pa_nil)) pa_nil)) (pg_name (i := 6) scRight.nd rfl (Or.inr rfl))
        (pss_one (ps_set (i := 5) scRight.nd rfl (Or.inl rfl) (pe_op op_cat (pv 5) (pe_lc (own := [("_law_other", 7)]) (g := gName 7) (tt := tYes) (te := tTup (tCons (tVar 6) (tCons (tVar 7) tNil))) rfl scRight.nd
          (pi_range1 (by rfl) mr (pa_cons (pe_callB call_len_seq (by rfl) ml PySem.boot_len (pa_cons (pe_ix ix_tup (pv 1) pe_int (fun _ _ => rfl)) pa_nil)) pa_nil)) (blkOk_by (N := nRi) (sc := defScope sRight) (by decide +kernel))
          (fun _ _ _ _ _ => pg_name (i := 7) scRight.nd rfl (Or.inl rfl)) (fun _ _ _ _ _ => pts_nil)
          (fun _ _ _ _ _ => pe_tup (pa_cons (pv 6) (pa_cons (pv 7) pa_nil))))))))
      (pss_cons (ps_for PassesOwn.never rfl (pi_enum (by rfl) me (pa_cons (pe_slice sl_list (pe_call GS hr2 (by rfl) gS kS bS .nil pass0 (pa_cons (pv 0) (pa_cons (pv 5) pa_nil))) po_none (po_some pe_int)) pa_nil))
          (pg_tup rfl (pgs_cons (pg_name (i := 8) scRight.nd rfl (Or.inl rfl)) (pgs_cons (pg_tup rfl (pgs_cons (pg_name (i := 6) scRight.nd rfl (Or.inr rfl)) (pgs_cons (pg_name (i := 7) scRight.nd rfl (Or.inl rfl)) pgs_nil))) pgs_nil)))
        (pss_one (ps_if (pt_not (pt_val (pe_call GL hr (by rfl) gL kL bL .nil pass0 (pa_cons (pv 1) (pa_cons (pv 4) (pa_cons (pv 6) (pa_cons (pv 7) (pa_cons (pe_cmpR op_eq (pv 8) pe_int (nomark _)) pa_nil)))))))) (pss_one (ps_ret pe_bl)) pss_nil)))
      (pss_one (ps_ret (pe_cmpR op_eq (pe_callB (call_repr_data gd' hr.units) (by rfl) mre (by decide +kernel) (pa_cons (pv 1) pa_nil)) (pv 3) (nomark _)))))))), ?_⟩
    obtain ⟨k1, k2, k3, k4⟩ := good_shows G
    have gm2 := G.m2
    have gm24 := G.m24
    have few := G.few
    have lenE : xs.length = ps.length := Paired.length N.prs
    -- known, there
    refine ⟨.ref nt, rfl, nt, netD many ps, rfl, netDp N, k1, k2, k3, k4, .ref nt, rfl, nt, _, 0, .int many, rfl, rfl, SqT.of N.top, rfl, many, rfl, by omega, by omega, fun D1 hD1 => ?_⟩
    refine lc_range (lo := 0) (n := many.toNat) (fun i H' => ∃ ls : List V, Same H H' ∧ H' D1 = some (.lst ls) ∧ ls.length = i ∧ ∀ p : Nat, p < i → ∃ (l : Addr) (ns : List Int), ls[p]? = some (.ref l) ∧ l ≠ g ∧ H' l = some (.lst (ns.map V.int)) ∧ ∀ k, k ∈ ns ↔ Reach ps p k)
      ⟨[], same_upd hD1, upd_same, rfl, fun p hp => absurd hp (Nat.not_lt_zero _)⟩ ?_ ?_
    · rintro i H3 hi ⟨ls, s3, hD3, hlen, tab⟩
      refine ⟨rfl, ?_⟩
      refine ⟨.ref nt, rfl, .int (0 + i), rfl, nt, tt, many, 0 + i, xs, ps, rfl, N.same s3, G, by omega, by omega, fun H4 l ns s4 hn h4 iff_ => ?_⟩
      have nlD : l ≠ D1 := (ne_of_none hD3 hn).symm
      have nlg : l ≠ g := (D.new_ne (s3.free hn)).2
      refine ⟨ls, s4 _ _ hD3, small_line (by omega), ls ++ [.ref l], fun b o e => ?_, upd_same, ?_, fun p hp => ?_⟩
      · rw [upd_ne (ne_of_none e hD1)]
        exact s4 _ _ (s3 _ _ e)
      · rw [List.length_append, hlen]
        rfl
      · by_cases e : p < i
        · obtain ⟨l', ns', a, m, b, c⟩ := tab p e
          refine ⟨l', ns', ?_, m, ?_, c⟩
          · rw [List.getElem?_append_left (by omega)]
            exact a
          · have : l' ≠ D1 := by
              intro z
              rw [z, hD3] at b
              have e2 : ls = ns'.map V.int := HO.lst.inj (Option.some.inj b)
              rw [e2] at a
              obtain ⟨z2, _, e3⟩ := int_items a
              cases e3
            rw [upd_ne this]
            exact s4 _ _ b
        · have ep : p = i := by omega
          subst ep
          refine ⟨l, ns, ?_, nlg, ?_, fun k => ?_⟩
          · rw [List.getElem?_append_right (by omega), hlen, Nat.sub_self]
            rfl
          · rw [upd_ne nlD]
            exact h4
          · rw [iff_ k, Int.zero_add]
    rintro H1 ⟨ls, s1, hD, hlen, tab⟩
    have T1 : ThereD H1 g D1 many ps := ⟨ls, hD, (D.new_ne hD1).2, fun p hp => tab p (by omega)⟩
    have N1 := N.same s1
    refine ⟨_, _, rfl, ?_⟩
    -- the roads at each place
    refine ⟨.ref nt, rfl, nt, _, 0, .int many, rfl, rfl, SqT.of N1.top, rfl, many, rfl, by omega, by omega,
      for_range (lo := 0) (n := many.toNat) (fun i σ H2 => ∃ v2 : Option V, σ = [some (.ref d), some (.ref nt), v2, some (.str (netD many ps).shown), some (.ref D1), none, none, none, none] ∧ Same H1 H2) ⟨none, rfl, .refl _⟩ ?_ ?_⟩
    · rintro i σ H2 hi ⟨v2, rfl, s2⟩
      refine ⟨.ref nt, rfl, .int (0 + i), rfl, .int (0 + i), rfl, rfl, nt, tt, many, _, _, xs, ps, rfl, N1.same s2, G, fun H3 s3 => ⟨true, rfl, ?_⟩⟩
      exact iteF ⟨_, rfl, s2.trans s3⟩
    rintro σ H2 ⟨v2, rfl, s2⟩
    have N2 := N1.same s2
    -- pairs
    refine ⟨Nat.zero_le _, fun L0 hL0 => ?_⟩
    have sL0 := same_upd (o := .lst []) hL0
    have N3 := N2.same sL0
    refine ⟨.ref nt, rfl, nt, _, 1, .ref tt, rfl, rfl, SqT.of N3.top, rfl, tt, xs, rfl, .inr (SqT.of N3.roads), _, rfl, by omega, by omega,
      for_range (lo := 0) (n := ((xs.length : Nat) : Int).toNat) (fun i σ H3 => ∃ (L : Addr) (v2 v6 : Option V) (zs : List V), σ = [some (.ref d), some (.ref nt), v2, some (.str (netD many ps).shown), some (.ref D1), some (.ref L), v6, none, none] ∧ Same H2 H3 ∧
        H3 L = some (.lst zs) ∧ zs.length ≤ i * 60 ∧ ∀ z ∈ zs, ∃ r, IsPr H3 z r ∧ IdxOk xs.length r) ⟨L0, _, none, [], rfl, sL0, upd_same, Nat.zero_le _, fun _ h => nomatch h⟩ ?_ ?_⟩
    · rintro i σ H3 hi ⟨L, v2, v6, zs, rfl, s3, hL, hlz, prs⟩
      have hi' : i < xs.length := by omega
      have N4 := N2.same s3
      refine ⟨.ref L, rfl, .ref nt, rfl, nt, _, 1, .ref tt, rfl, rfl, SqT.of N4.top, rfl, tt, xs, rfl, .inr (SqT.of N4.roads), _, rfl, by omega, by omega, fun C hC => ?_⟩
      have nLC : L ≠ C := ne_of_none hL hC
      refine lc_range (lo := 0) (n := ((xs.length : Nat) : Int).toNat) (fun j H4 => ∃ ws : List V, Same H3 H4 ∧ H4 C = some (.lst ws) ∧ ws.length = j ∧ ∀ z ∈ ws, ∃ r, IsPr H4 z r ∧ IdxOk xs.length r)
        ⟨[], same_upd hC, upd_same, rfl, fun _ h => nomatch h⟩ ?_ ?_
      · rintro j H4 hj ⟨ws, s4, hC4, hlw, prw⟩
        refine ⟨rfl, ?_⟩
        refine ⟨.int (0 + i), rfl, .int (0 + j), rfl, by show 2 ≤ sizeLine; decide, fun U hU => ?_⟩
        have sU := same_upd (o := .tup [V.int (0 + (i : Int)), V.int (0 + (j : Int))]) hU
        refine ⟨ws, sU _ _ hC4, small_line (by omega), ws ++ [.ref U], fun b o e => ?_, upd_same, ?_, fun z hz => ?_⟩
        · rw [upd_ne (ne_of_none e hC)]
          exact sU _ _ (s4 _ _ e)
        · rw [List.length_append, hlw]
          rfl
        · rcases List.mem_append.mp hz with hz | hz
          · obtain ⟨r, h1, h2⟩ := prw z hz
            exact ⟨r, (h1.same sU).put (sU _ _ hC4), h2⟩
          · rw [List.mem_singleton.mp hz]
            refine ⟨(0 + (i : Int), 0 + (j : Int)), IsPr.put ⟨U, rfl, upd_same⟩ (sU _ _ hC4), i, j, by rw [Int.zero_add, Int.zero_add], hi', by omega⟩
      · rintro H4 ⟨ws, s4, hC4, hlw, prw⟩
        have hlw' : ws.length ≤ 60 := by omega
        refine ⟨L, C, _, _, rfl, rfl, s4 _ _ hL, hC4, small_line' (by omega), fun M hM => ?_⟩
        have sM := same_upd (o := .lst (zs ++ ws)) hM
        refine ⟨M, _, _, zs ++ ws, rfl, (s3.trans s4).trans sM, upd_same, ?_, fun z hz => ?_⟩
        · rw [List.length_append]
          omega
        · rcases List.mem_append.mp hz with hz | hz
          · obtain ⟨r, h1, h2⟩ := prs z hz
            exact ⟨r, (h1.same s4).same sM, h2⟩
          · obtain ⟨r, h1, h2⟩ := prw z hz
            exact ⟨r, h1.same sM, h2⟩
    rintro σ H3 ⟨L, v2', v6, zs, rfl, s3, hL, hlz, prs⟩
    have s13 := s1.trans (s2.trans s3)
    have D3 := D.same s13
    -- the shuffled ones, sixty at most
    refine ⟨.ref d, rfl, .ref L, rfl, d, g, L, zs, rfl, D3, hL, by omega, fun x hx => (prs x hx).imp fun r h => h.1, fun ys H4 p d4 hp hp4 hly hmy => ?_⟩
    have dr4 : Drawn d g H H4 := ⟨fun b o n1 n2 e => d4.keeps b o n1 n2 (s13 _ _ e), d4.deck⟩
    refine ⟨60, rfl, p, ys, rfl, SqL.of hp4, fun C hC => ?_⟩
    have e60 : cutV ys none (some 60) = ys.take (min 60 ys.length) := cut_to ys 60
    rw [e60]
    have csub : ∀ c ∈ ys.take (min 60 ys.length), c ∈ zs := fun c hc => hmy c (List.mem_of_mem_take hc)
    generalize ys.take (min 60 ys.length) = cs at csub
    have sC := same_upd (o := .lst cs) hC
    have dC := dr4.then_same sC
    have dC' : Drawn d g H3 (upd H4 C (.lst cs)) := d4.then_same sC
    have T4 : ThereD (upd H4 C (.lst cs)) g D1 many ps := (T1.same (s2.trans s3)).drawn D3 dC'
    have prc : ∀ c ∈ cs, ∃ r, IsPr (upd H4 C (.lst cs)) c r ∧ IdxOk xs.length r := fun c hc => by
      obtain ⟨r, h1, h2⟩ := prs c (csub c hc)
      exact ⟨r, h1.drawn D3 dC', h2⟩
    generalize hH4 : upd H4 C (.lst cs) = H5 at dC T4 prc
    have hC5 : H5 C = some (.lst cs) := by rw [← hH4]; exact upd_same
    have N5 := N.drawn D dC
    refine ⟨C, cs, rfl, SqL.of hC5, for_it (walk_enum (K := K) (a := C) (xs := cs)) (fun i σ H6 => ∃ (v2 v6 v7 v8 : Option V), σ = [some (.ref d), some (.ref nt), v2, some (.str (netD many ps).shown), some (.ref D1), some (.ref L), v6, v7, v8] ∧ Same H5 H6)
      ⟨_, _, _, _, rfl, .refl _⟩ (fun i σ H6 _ ⟨_, _, _, _, _, h⟩ => SqL.of (h _ _ hC5)) ?_ ?_⟩
    · rintro i x σ H6 H7 hi ⟨v2, v6, v7, v8, rfl, s6⟩ ⟨T, x1, x2, rfl, nT, rfl, e1, e2⟩
      obtain rfl : V.int (i : Nat) = x1 := Option.some.inj e1
      have sT := s6.trans (same_upd (o := .tup [V.int (i : Nat), x2]) nT)
      obtain ⟨r, ⟨t, rfl, ht⟩, a, b, rfl, ha, hb⟩ := prc x2 (List.mem_of_getElem? e2)
      obtain ⟨r1, h1⟩ : ∃ r1, ps[a]? = some r1 := ⟨ps[a]'(by omega), List.getElem?_eq_getElem _⟩
      obtain ⟨r2, h2⟩ : ∃ r2, ps[b]? = some r2 := ⟨ps[b]'(by omega), List.getElem?_eq_getElem _⟩
      refine ⟨T, _, rfl, SqT.of upd_same, rfl, _, _, rfl, _, _, rfl, t, _, rfl, SqT.of (sT _ _ ht), rfl, _, _, rfl, _, _, rfl, rfl, rfl, ?_⟩
      refine ⟨.ref nt, rfl, .ref D1, rfl, .int a, rfl, .int b, rfl, .int i, rfl, rfl, nt, tt, D1, many, a, b, _, xs, ps, r1, r2, rfl, N5.same sT, G, (T4.same sT).there, h1, h2, fun H8 s8 => ⟨true, rfl, ?_⟩⟩
      exact iteF ⟨_, _, _, _, rfl, sT.trans s8⟩
    rintro σ H6 ⟨v2, v6, v7, v8, rfl, s6⟩
    refine ⟨.ref nt, rfl, nt, netD many ps, rfl, netDp (N5.same s6), k1, k2, k3, k4, .str _, rfl, rfl, ?_⟩
    rw [decide_eq_true rfl]
    exact q _ (dC.then_same s6)
end
end SkW
set_option Elab.async false
set_option linter.all false
set_option maxRecDepth 100000
set_option maxHeartbeats 8000000
namespace SkW
open PySem PySem.Spec PyProof.Rows L2 SkG SkM
/-- what the script picks is an int within bounds -/
theorem picked {xs : List Int} {lo hi : Int} {v : V} (h : v ∈ xs.map V.int) (b : ∀ x ∈ xs, lo ≤ x ∧ x ≤ hi) : ∃ x, v = .int x ∧ lo ≤ x ∧ x ≤ hi := by
  obtain ⟨x, hx, rfl⟩ := List.mem_map.mp h
  exact ⟨x, rfl, b x hx⟩
section
variable {P : Program} {w : World} {K : PySem.W.Frag} {mg : Str → Option Value} {base : Heap}
/-! ### law -/
def spLaw (K : PySem.W.Frag) : Sp := fun vs H Q _ => ∃ (a : Addr) (ns : List Int), vs = [.ref a] ∧ SqL K H a (ns.map V.int) ∧ ns.length ≤ 63 ∧ ∀ H', Q (.bl true) H'
abbrev nLa : List Str := ["_law_script", "_law_deck_here", "_law_turn", "_law_net_here", "_law_there", "_law_road", "_law_other", "_law_place"]
theorem scLaw : FnScope nLa ["_law_script"] (defScope sLaw) := ⟨rfl, rfl, rfl, by decide +kernel, rfl, by decide +kernel, by decide +kernel⟩
theorem ok_law {f fK fW fP fN fI fR fL fT : Addr} {fd fdK fdW fdP fdN fdI fdR fdL fdT : FuncData} (F : Fun K "law" "law" sLaw f fd)
    (kK : PySem.W.keepIn K (.ref fK) = true) (bK : Binds K fdK ["_law_script"] []) (gK : mg "_law_deck" = some (.ref fK)) (GK : FnOk P w K mg base CX0 1 fK fdK ["_law_script"] (spDeck K))
    (kW : PySem.W.keepIn K (.ref fW) = true) (bW : Binds K fdW ["_law_deck_here", "_law_many"] []) (gW : mg "_law_draw" = some (.ref fW)) (GW : FnOk P w K mg base CX0 1 fW fdW ["_law_deck_here", "_law_many"] spDraw)
    (kP : PySem.W.keepIn K (.ref fP) = true) (bP : Binds K fdP ["_law_deck_here", "_law_items"] []) (gP : mg "_law_pick" = some (.ref fP)) (GP : FnOk P w K mg base CX0 2 fP fdP ["_law_deck_here", "_law_items"] (spPick K))
    (kN : PySem.W.keepIn K (.ref fN) = true) (bN : Binds K fdN ["_law_deck_here", "_law_many", "_law_more"] []) (gN : mg "_law_net" = some (.ref fN)) (GN : FnOk P w K mg base CX0 3 fN fdN ["_law_deck_here", "_law_many", "_law_more"] spNet)
    (kI : PySem.W.keepIn K (.ref fI) = true) (bI : Binds K fdI ["_law_deck_here", "_law_net_here"] []) (gI : mg "_law_is_right" = some (.ref fI)) (GI : FnG P w K mg base 4 fI fdI ["_law_deck_here", "_law_net_here"] spRight)
    (kR : PySem.W.keepIn K (.ref fR) = true) (bR : Binds K fdR ["_law_net_here", "_law_place"] []) (gR' : mg "_law_reached" = some (.ref fR)) (GR : FnOk P w K mg base CX0 1 fR fdR ["_law_net_here", "_law_place"] spReached)
    (kL : PySem.W.keepIn K (.ref fL) = true) (bL : Binds K fdL ["_law_net_here", "_law_there", "_law_one", "_law_other", "_law_is_named"] []) (gL : mg "_law_leads_told" = some (.ref fL))
    (GL : FnOk P w K mg base CX0 3 fL fdL ["_law_net_here", "_law_there", "_law_one", "_law_other", "_law_is_named"] spLTold)
    (kT : PySem.W.keepIn K (.ref fT) = true) (bT : Binds K fdT ["_law_net_here", "_law_place", "_law_is_named"] []) (gT : mg "_law_are_roads_told" = some (.ref fT)) (GT : FnG P w K mg base 2 fT fdT ["_law_net_here", "_law_place", "_law_is_named"] spTold)
    (mr : mg "range" = none) (ml : mg "len" = none) (mall : mg "all" = none) :
    FnG P w K mg base (4 + 1) f fd ["_law_script"] (spLaw K) := by
  refine fun_okG F scLaw (fun vs H Q E h => ?_) (fun cdv A outer s H vs Q gd hr h => ?_)
  · obtain ⟨a, ns, rfl, _⟩ := h
    rfl
  · obtain ⟨a, ns, rfl, ha, lns, q⟩ := h
    have gd' : (A.deeper (envOfC "law" (defScope sLaw) s.heap.objs.size f cdv)).guards = some [] := gd
    have hr1 : Room 1 (A.deeper (envOfC "law" (defScope sLaw) s.heap.objs.size f cdv)) := hr.mono (by decide)
    have hr2 : Room 2 (A.deeper (envOfC "law" (defScope sLaw) s.heap.objs.size f cdv)) := hr.mono (by decide)
    have hr3 : Room 3 (A.deeper (envOfC "law" (defScope sLaw) s.heap.objs.size f cdv)) := hr.mono (by decide)
    refine ⟨_, pss_cons (ps_set (i := 1) scLaw.nd rfl (Or.inl rfl) (pe_call GK hr1 (by rfl) gK kK bK .nil pass0 (pa_cons (pv 0) pa_nil)))
      (pss_cons (ps_for PassesOwn.never rfl (pi_range1 (by rfl) mr (pa_cons pe_int pa_nil)) (pg_name (i := 2) scLaw.nd rfl (Or.inl rfl))
        (pss_cons (ps_set (i := 3) scLaw.nd rfl (Or.inr rfl) (pe_call GN hr3 (by rfl) gN kN bN .nil pass0 (pa_cons (pv 1)
            (pa_cons (pe_call GP hr2 (by rfl) gP kP bP .nil pass0 (pa_cons (pv 1) (pa_cons (pe_lst (pa_cons pe_int (pa_cons pe_int (pa_cons pe_int (pa_cons pe_int (pa_cons pe_int (pa_cons pe_int pa_nil))))))) pa_nil)))
            (pa_cons (pe_call GP hr2 (by rfl) gP kP bP .nil pass0 (pa_cons (pv 1) (pa_cons (pe_lst (pa_cons pe_int (pa_cons pe_int (pa_cons pe_int (pa_cons pe_int (pa_cons pe_int pa_nil)))))) pa_nil))) pa_nil)))))
        (pss_one (ps_if (pt_not (pt_val (pe_callG gd' GI hr (by rfl) gI kI bI (pa_cons (pv 1) (pa_cons (pv 3) pa_nil))))) (pss_one (ps_ret pe_bl)) pss_nil))))
      (pss_cons (ps_if (pt_cmpR op_gt (pe_call GW hr1 (by rfl) gW kW bW .nil pass0 (pa_cons (pv 1) (pa_cons pe_int pa_nil))) pe_int (nomark _)) (pss_one (ps_ret pe_bl)) pss_nil)
      (pss_cons (ps_set (i := 3) scLaw.nd rfl (Or.inr rfl) (pe_call GN hr3 (by rfl) gN kN bN .nil pass0 (pa_cons (pv 1) (pa_cons pe_int (pa_cons pe_int pa_nil)))))
      (pss_cons (ps_par (i := 4) (j := 5) (by rfl) scLaw.nd rfl rfl (by decide) rfl rfl (pa_cons (pe_lc (own := [("_law_place", 7)]) (g := gName 7) (tt := tYes) (te := tCall spReached [] E0 (tCons (tVar 3) (tCons (tVar 7) tNil))) rfl scLaw.nd
          (pi_range1 (by rfl) mr (pa_cons pe_int pa_nil)) (blkOk_by (N := nLa) (sc := defScope sLaw) (by decide +kernel))
          (fun _ _ _ _ _ => pg_name (i := 7) scLaw.nd rfl (Or.inl rfl)) (fun _ _ _ _ _ => pts_nil)
          (fun _ _ _ _ _ => pe_call GR hr1 (by rfl) gR' kR bR .nil pass0 (pa_cons (pv 3) (pa_cons (pv 7) pa_nil))))
        (pa_cons (pe_call GW hr1 (by rfl) gW kW bW .nil pass0 (pa_cons (pv 1) (pa_cons (pe_callB call_len_seq (by rfl) ml PySem.boot_len (pa_cons (pe_ix ix_tup (pv 3) pe_int (fun _ _ => rfl)) pa_nil)) pa_nil))) pa_nil)) (by rfl))
      (pss_cons (ps_for PassesOwn.never rfl (pi_range1 (by rfl) mr (pa_cons (pe_callB call_len_seq (by rfl) ml PySem.boot_len (pa_cons (pe_ix ix_tup (pv 3) pe_int (fun _ _ => rfl)) pa_nil)) pa_nil)) (pg_name (i := 6) scLaw.nd rfl (Or.inl rfl))
        (pss_one (ps_if (PW.pt (pw_or (pt_not (pt_val (pe_call GL hr3 (by rfl) gL kL bL .nil pass0 (pa_cons (pv 3) (pa_cons (pv 4) (pa_cons (pv 5) (pa_cons (pv 6) (pa_cons pe_bl pa_nil))))))))
          (pw_or1 (pt_not (pt_val (pe_call GL hr3 (by rfl) gL kL bL .nil pass0 (pa_cons (pv 3) (pa_cons (pv 4) (pa_cons (pv 6) (pa_cons (pv 5) (pa_cons pe_bl pa_nil))))))))))) (pss_one (ps_ret pe_bl)) pss_nil)))
      (pss_one (ps_ret (pe_callB (cr_all rfl) (by rfl) mall (by decide +kernel) (pa_cons (pe_lc (own := [("_law_place", 7)]) (g := gName 7) (tt := tYes) (te := tCallG spTold (tCons (tVar 3) (tCons (tVar 7) (tCons (tC (.bl false)) tNil)))) rfl scLaw.nd
          (pi_range1 (by rfl) mr (pa_cons pe_int pa_nil)) (blkOk_by (N := nLa) (sc := defScope sLaw) (by decide +kernel))
          (fun _ _ _ _ _ => pg_name (i := 7) scLaw.nd rfl (Or.inl rfl)) (fun _ _ _ _ _ => pts_nil)
          (fun _ _ _ _ _ => pe_callG gd' GT hr2 (by rfl) gT kT bT (pa_cons (pv 3) (pa_cons (pv 7) (pa_cons pe_bl pa_nil))))) pa_nil))))))))), ?_⟩
    -- the deck
    refine ⟨.ref a, rfl, a, ns, rfl, ha, lns, fun H1 d g s1 D => ?_⟩
    -- six small nets
    refine ⟨6, rfl, by decide, by decide, for_range (lo := 0) (n := 6) (fun i σ H2 => ∃ v2 v3 : Option V, σ = [some (.ref a), some (.ref d), v2, v3, none, none, none, none] ∧ Deck H2 d g) ⟨none, none, rfl, D⟩ ?_ ?_⟩
    · rintro i σ H2 hi ⟨v2, v3, rfl, D2⟩
      refine ⟨.ref d, rfl, .ref d, rfl, by show 6 ≤ sizeLine; decide, fun L1 hL1 => ?_⟩
      have sL1 := same_upd (o := .lst [V.int 2, V.int 3, V.int 4, V.int 5, V.int 6, V.int 8]) hL1
      refine ⟨d, g, L1, _, rfl, D2.same sL1, upd_same, (D2.new_ne hL1).2, by show 1 ≤ 6; decide, by show 6 ≤ 100000; decide, fun v H3 d3 hv => ?_⟩
      obtain ⟨many, rfl, m2, m8⟩ := picked (xs := [2, 3, 4, 5, 6, 8]) (lo := 2) (hi := 8) hv (by decide)
      refine ⟨.ref d, rfl, by show 5 ≤ sizeLine; decide, fun L2 hL2 => ?_⟩
      have sL2 := same_upd (o := .lst [V.int 0, V.int 1, V.int 3, V.int 5, V.int 8]) hL2
      refine ⟨d, g, L2, _, rfl, d3.deck.same sL2, upd_same, (d3.deck.new_ne hL2).2, by show 1 ≤ 5; decide, by show 5 ≤ 100000; decide, fun v H4 d4 hv => ?_⟩
      obtain ⟨more, rfl, e0, e8⟩ := picked (xs := [0, 1, 3, 5, 8]) (lo := 0) (hi := 8) hv (by decide)
      refine ⟨d, g, many, more, rfl, d4.deck, m2, by omega, e0, by omega, fun H5 nt tt xs ps d5 N G => ?_⟩
      refine ⟨.ref d, rfl, .ref nt, rfl, d, g, nt, tt, many, xs, ps, rfl, d5.deck, N, G, fun H6 d6 => ⟨true, rfl, ?_⟩⟩
      exact iteF ⟨_, _, rfl, d6.deck⟩
    rintro σ H2 ⟨v2, v3, rfl, D2⟩
    refine ⟨.ref d, rfl, d, g, 8, rfl, D2, by decide, fun v H3 d3 v0 v1 => ⟨v, 0, rfl, rfl, _, rfl, ?_⟩⟩
    refine ite2 (fun _ => q _) (fun _ => ?_)
    -- the great net
    refine ⟨.ref d, rfl, d, g, 24, 37, rfl, d3.deck, by decide, by decide, by decide, by decide, fun H4 nt tt xs ps d4 N G => ?_⟩
    have D4 := d4.deck
    have few := G.few
    have lenE : xs.length = ps.length := Paired.length N.prs
    refine ⟨24, rfl, by decide, by decide, fun D1 hD1 => ?_⟩
    refine lc_range (lo := 0) (n := 24) (fun i H' => ∃ ls : List V, Same H4 H' ∧ H' D1 = some (.lst ls) ∧ ls.length = i ∧ ∀ p : Nat, p < i → ∃ (l : Addr) (ns : List Int), ls[p]? = some (.ref l) ∧ l ≠ g ∧ H' l = some (.lst (ns.map V.int)) ∧ ∀ k, k ∈ ns ↔ Reach ps p k)
      ⟨[], same_upd hD1, upd_same, rfl, fun p hp => absurd hp (Nat.not_lt_zero _)⟩ ?_ ?_
    · rintro i H5 hi ⟨ls, s5, hD5, hlen, tab⟩
      refine ⟨rfl, ?_⟩
      refine ⟨.ref nt, rfl, .int (0 + i), rfl, nt, tt, 24, 0 + i, xs, ps, rfl, N.same s5, G, by omega, by omega, fun H6 l ns s6 hn h6 iff_ => ?_⟩
      have nlD : l ≠ D1 := (ne_of_none hD5 hn).symm
      have nlg : l ≠ g := (D4.new_ne (s5.free hn)).2
      refine ⟨ls, s6 _ _ hD5, small_line (by omega), ls ++ [.ref l], fun b o e => ?_, upd_same, ?_, fun p hp => ?_⟩
      · rw [upd_ne (ne_of_none e hD1)]
        exact s6 _ _ (s5 _ _ e)
      · rw [List.length_append, hlen]
        rfl
      · by_cases e : p < i
        · obtain ⟨l', ns', a, m, b, c⟩ := tab p e
          refine ⟨l', ns', ?_, m, ?_, c⟩
          · rw [List.getElem?_append_left (by omega)]
            exact a
          · have : l' ≠ D1 := by
              intro z
              rw [z, hD5] at b
              have e2 : ls = ns'.map V.int := HO.lst.inj (Option.some.inj b)
              rw [e2] at a
              obtain ⟨z2, _, e3⟩ := int_items a
              cases e3
            rw [upd_ne this]
            exact s6 _ _ b
        · have ep : p = i := by omega
          subst ep
          refine ⟨l, ns, ?_, nlg, ?_, fun k => ?_⟩
          · rw [List.getElem?_append_right (by omega), hlen, Nat.sub_self]
            rfl
          · rw [upd_ne nlD]
            exact h6
          · rw [iff_ k, Int.zero_add]
    rintro H5 ⟨ls, s5, hD5, hlen, tab⟩
    have N5 := N.same s5
    have D5 := D4.same s5
    refine ⟨.ref d, rfl, .ref nt, rfl, nt, _, 1, .ref tt, rfl, rfl, SqT.of N5.top, rfl, tt, xs, rfl, .inr (SqT.of N5.roads), d, g, _, rfl, D5, by omega, fun v H6 d6 v0 v1 => ?_⟩
    obtain ⟨road, rfl⟩ : ∃ j : Nat, v = (j : Int) := ⟨v.toNat, by omega⟩
    have T5 : ThereD H5 g D1 24 ps := ⟨ls, hD5, (D4.new_ne hD1).2, fun p hp => tab p (by omega)⟩
    have T6 := T5.drawn D5 d6
    have N6 := N5.drawn D5 d6
    refine ⟨_, _, rfl, ?_⟩
    -- every road with the drawn one
    refine ⟨.ref nt, rfl, nt, _, 1, .ref tt, rfl, rfl, SqT.of N6.top, rfl, tt, xs, rfl, .inr (SqT.of N6.roads), _, rfl, by omega, by omega,
      for_range (lo := 0) (n := ((xs.length : Nat) : Int).toNat) (fun i σ H7 => ∃ v6 : Option V, σ = [some (.ref a), some (.ref d), v2, some (.ref nt), some (.ref D1), some (.int (road : Int)), v6, none] ∧ Same H6 H7) ⟨none, rfl, .refl _⟩ ?_ ?_⟩
    · rintro i σ H7 hi ⟨v6, rfl, s7⟩
      have hi' : i < xs.length := by omega
      have hr' : road < xs.length := by
        have := v1 (by omega)
        omega
      obtain ⟨r1, h1⟩ : ∃ r1, ps[road]? = some r1 := ⟨ps[road]'(by omega), List.getElem?_eq_getElem _⟩
      obtain ⟨r2, h2⟩ : ∃ r2, ps[i]? = some r2 := ⟨ps[i]'(by omega), List.getElem?_eq_getElem _⟩
      rw [Int.zero_add]
      refine ⟨.ref nt, rfl, .ref D1, rfl, .int road, rfl, .int i, rfl, nt, tt, D1, 24, road, i, false, xs, ps, r1, r2, rfl, N6.same s7, G, (T6.same s7).there, h1, h2, fun H8 s8 => ⟨true, rfl, ?_⟩⟩
      have s78 := s7.trans s8
      refine iteF ?_
      refine ⟨.ref nt, rfl, .ref D1, rfl, .int i, rfl, .int road, rfl, nt, tt, D1, 24, i, road, false, xs, ps, r2, r1, rfl, N6.same s78, G, (T6.same s78).there, h2, h1, fun H9 s9 => ⟨true, rfl, ?_⟩⟩
      exact iteF ⟨_, rfl, s78.trans s9⟩
    rintro σ H7 ⟨v6, rfl, s7⟩
    have N7 := N6.same s7
    -- the roads at each place
    refine ⟨24, rfl, by decide, by decide, fun D2 hD2 => ?_⟩
    refine lc_range (lo := 0) (n := 24) (fun i H' => Same H7 H' ∧ H' D2 = some (.lst (List.replicate i (.bl true)))) ⟨same_upd hD2, upd_same⟩ ?_ ?_
    · rintro i H8 hi ⟨s8, hD8⟩
      refine ⟨rfl, ?_⟩
      refine ⟨.ref nt, rfl, .int (0 + i), rfl, nt, tt, 24, 0 + i, false, xs, ps, rfl, N7.same s8, G, fun H9 s9 => ?_⟩
      refine ⟨_, s9 _ _ hD8, by rw [List.length_replicate]; exact small_line (by omega), fun b o e => ?_, ?_⟩
      · rw [upd_ne (ne_of_none e hD2)]
        exact s9 _ _ (s8 _ _ e)
      · rw [upd_same, List.replicate_succ']
    rintro H8 ⟨s8, hD8⟩
    exact ⟨D2, List.replicate 24 true, rfl, SqL.of (by rw [List.map_replicate]; exact hD8), q H8⟩
end
end SkW
set_option Elab.async false
set_option linter.all false
set_option maxRecDepth 100000
set_option maxHeartbeats 8000000
namespace SkW
open PySem PySem.Spec PyProof.Rows L2 SkG SkM
/-! ### what the top has written -/
theorem all_mk {P : Program} {w : World} {K : PySem.W.Frag} {h : Heap} {mg : Str → Option Value} {fa f1 f2 f3 f4 f5 f6 f7 f8 f9 f10 f11 f12 f13 f14 : Addr} (X : K.In h) (G : h.Ns mainGlobals mg) (hfa : mg "law" = some (.ref fa))
    {od1 an1 od2 an2 od3 an3 od4 an4 od5 an5 od6 an6 od7 an7 od8 an8 od9 an9 od10 an10 od11 an11 od12 an12 od13 an13 od14 an14 : Option Addr} {sl1 sl2 sl3 sl4 sl5 sl6 sl7 sl8 sl9 sl10 sl11 sl12 sl13 sl14 : Array (Option Value)} {oc1 kV1 dc1 pm1 cd1 ct1 oc2 kV2 dc2 pm2 cd2 ct2 oc3 kV3 dc3 pm3 cd3 ct3 oc4 kV4 dc4 pm4 cd4 ct4 oc5 kV5 dc5 pm5 cd5 ct5 oc6 kV6 dc6 pm6 cd6 ct6 oc7 kV7 dc7 pm7 cd7 ct7 oc8 kV8 dc8 pm8 cd8 ct8 oc9 kV9 dc9 pm9 cd9 ct9 oc10 kV10 dc10 pm10 cd10 ct10 oc11 kV11 dc11 pm11 cd11 ct11 oc12 kV12 dc12 pm12 cd12 ct12 oc13 kV13 dc13 pm13 cd13 ct13 oc14 kV14 dc14 pm14 cd14 ct14 : Value}
    (a1 : PySem.W.nsIn K mainGlobals "roads_from" = some (some (.ref f1))) (l1 : K.lookup f1 = some ⟨oc1, od1, .func (PySem.W.fnOf "roads_from" "roads_from" (defArgs sFrom) (defBody sFrom) (defScope sFrom) .none kV1 dc1 pm1 an1 cd1 ct1), sl1⟩) (c1 : PySem.W.codeIn K cd1 "roads_from" = true) (k1 : PySem.W.keepIn K (.ref f1) = true)
    (a2 : PySem.W.nsIn K mainGlobals "roads_to" = some (some (.ref f2))) (l2 : K.lookup f2 = some ⟨oc2, od2, .func (PySem.W.fnOf "roads_to" "roads_to" (defArgs sTo) (defBody sTo) (defScope sTo) .none kV2 dc2 pm2 an2 cd2 ct2), sl2⟩) (c2 : PySem.W.codeIn K cd2 "roads_to" = true) (k2 : PySem.W.keepIn K (.ref f2) = true)
    (a3 : PySem.W.nsIn K mainGlobals "places_from" = some (some (.ref f3))) (l3 : K.lookup f3 = some ⟨oc3, od3, .func (PySem.W.fnOf "places_from" "places_from" (defArgs sPlaces) (defBody sPlaces) (defScope sPlaces) .none kV3 dc3 pm3 an3 cd3 ct3), sl3⟩) (c3 : PySem.W.codeIn K cd3 "places_from" = true) (k3 : PySem.W.keepIn K (.ref f3) = true)
    (a4 : PySem.W.nsIn K mainGlobals "leads" = some (some (.ref f4))) (l4 : K.lookup f4 = some ⟨oc4, od4, .func (PySem.W.fnOf "leads" "leads" (defArgs sLeads) (defBody sLeads) (defScope sLeads) .none kV4 dc4 pm4 an4 cd4 ct4), sl4⟩) (c4 : PySem.W.codeIn K cd4 "leads" = true) (k4 : PySem.W.keepIn K (.ref f4) = true)
    (a5 : PySem.W.nsIn K mainGlobals "_law_deck" = some (some (.ref f5))) (l5 : K.lookup f5 = some ⟨oc5, od5, .func (PySem.W.fnOf "_law_deck" "_law_deck" (defArgs sDeck) (defBody sDeck) (defScope sDeck) .none kV5 dc5 pm5 an5 cd5 ct5), sl5⟩) (c5 : PySem.W.codeIn K cd5 "_law_deck" = true) (k5 : PySem.W.keepIn K (.ref f5) = true)
    (a6 : PySem.W.nsIn K mainGlobals "_law_draw" = some (some (.ref f6))) (l6 : K.lookup f6 = some ⟨oc6, od6, .func (PySem.W.fnOf "_law_draw" "_law_draw" (defArgs sDraw) (defBody sDraw) (defScope sDraw) .none kV6 dc6 pm6 an6 cd6 ct6), sl6⟩) (c6 : PySem.W.codeIn K cd6 "_law_draw" = true) (k6 : PySem.W.keepIn K (.ref f6) = true)
    (a7 : PySem.W.nsIn K mainGlobals "_law_pick" = some (some (.ref f7))) (l7 : K.lookup f7 = some ⟨oc7, od7, .func (PySem.W.fnOf "_law_pick" "_law_pick" (defArgs sPick) (defBody sPick) (defScope sPick) .none kV7 dc7 pm7 an7 cd7 ct7), sl7⟩) (c7 : PySem.W.codeIn K cd7 "_law_pick" = true) (k7 : PySem.W.keepIn K (.ref f7) = true)
    (a8 : PySem.W.nsIn K mainGlobals "_law_shuffled" = some (some (.ref f8))) (l8 : K.lookup f8 = some ⟨oc8, od8, .func (PySem.W.fnOf "_law_shuffled" "_law_shuffled" (defArgs sShuf) (defBody sShuf) (defScope sShuf) .none kV8 dc8 pm8 an8 cd8 ct8), sl8⟩) (c8 : PySem.W.codeIn K cd8 "_law_shuffled" = true) (k8 : PySem.W.keepIn K (.ref f8) = true)
    (a9 : PySem.W.nsIn K mainGlobals "_law_net" = some (some (.ref f9))) (l9 : K.lookup f9 = some ⟨oc9, od9, .func (PySem.W.fnOf "_law_net" "_law_net" (defArgs sNet) (defBody sNet) (defScope sNet) .none kV9 dc9 pm9 an9 cd9 ct9), sl9⟩) (c9 : PySem.W.codeIn K cd9 "_law_net" = true) (k9 : PySem.W.keepIn K (.ref f9) = true)
    (a10 : PySem.W.nsIn K mainGlobals "_law_reached" = some (some (.ref f10))) (l10 : K.lookup f10 = some ⟨oc10, od10, .func (PySem.W.fnOf "_law_reached" "_law_reached" (defArgs sReached) (defBody sReached) (defScope sReached) .none kV10 dc10 pm10 an10 cd10 ct10), sl10⟩) (c10 : PySem.W.codeIn K cd10 "_law_reached" = true) (k10 : PySem.W.keepIn K (.ref f10) = true)
    (a11 : PySem.W.nsIn K mainGlobals "_law_are_roads_told" = some (some (.ref f11))) (l11 : K.lookup f11 = some ⟨oc11, od11, .func (PySem.W.fnOf "_law_are_roads_told" "_law_are_roads_told" (defArgs sTold) (defBody sTold) (defScope sTold) .none kV11 dc11 pm11 an11 cd11 ct11), sl11⟩) (c11 : PySem.W.codeIn K cd11 "_law_are_roads_told" = true) (k11 : PySem.W.keepIn K (.ref f11) = true)
    (a12 : PySem.W.nsIn K mainGlobals "_law_leads_told" = some (some (.ref f12))) (l12 : K.lookup f12 = some ⟨oc12, od12, .func (PySem.W.fnOf "_law_leads_told" "_law_leads_told" (defArgs sLTold) (defBody sLTold) (defScope sLTold) .none kV12 dc12 pm12 an12 cd12 ct12), sl12⟩) (c12 : PySem.W.codeIn K cd12 "_law_leads_told" = true) (k12 : PySem.W.keepIn K (.ref f12) = true)
    (a13 : PySem.W.nsIn K mainGlobals "_law_is_right" = some (some (.ref f13))) (l13 : K.lookup f13 = some ⟨oc13, od13, .func (PySem.W.fnOf "_law_is_right" "_law_is_right" (defArgs sRight) (defBody sRight) (defScope sRight) .none kV13 dc13 pm13 an13 cd13 ct13), sl13⟩) (c13 : PySem.W.codeIn K cd13 "_law_is_right" = true) (k13 : PySem.W.keepIn K (.ref f13) = true)
    (a14 : PySem.W.nsIn K mainGlobals "law" = some (some (.ref f14))) (l14 : K.lookup f14 = some ⟨oc14, od14, .func (PySem.W.fnOf "law" "law" (defArgs sLaw) (defBody sLaw) (defScope sLaw) .none kV14 dc14 pm14 an14 cd14 ct14), sl14⟩) (c14 : PySem.W.codeIn K cd14 "law" = true) (k14 : PySem.W.keepIn K (.ref f14) = true)
    (z_enumerate : PySem.W.nsIn K mainGlobals "enumerate" = some none) (z_tuple : PySem.W.nsIn K mainGlobals "tuple" = some none) (z_sorted : PySem.W.nsIn K mainGlobals "sorted" = some none) (z_len : PySem.W.nsIn K mainGlobals "len" = some none) (z_abs : PySem.W.nsIn K mainGlobals "abs" = some none) (z_int : PySem.W.nsIn K mainGlobals "int" = some none) (z_list : PySem.W.nsIn K mainGlobals "list" = some none) (z_range : PySem.W.nsIn K mainGlobals "range" = some none) (z_zip : PySem.W.nsIn K mainGlobals "zip" = some none) (z_set : PySem.W.nsIn K mainGlobals "set" = some none) (z_repr : PySem.W.nsIn K mainGlobals "repr" = some none) (z_all : PySem.W.nsIn K mainGlobals "all" = some none) :
    ∃ fd : FuncData, (∀ (s : Shared) (u : Value), BindsTo s fd ⟨[u], []⟩ [("_law_script", u)]) ∧ ∀ base : Heap, FnG P w K mg base (4 + 1) fa fd ["_law_script"] (spLaw K) := by
  have e := hfa.symm.trans (PySem.W.mg_of X G a14)
  cases e
  have F1 := fun_mk (st := sFrom) l1 c1 k1
  have g1 := PySem.W.mg_of X G a1
  have b1 := F1.binds (ps := ["net", "place"]) fun _ _ _ _ _ _ us hl => match us, hl with | [_, _], _ => rfl
  have F2 := fun_mk (st := sTo) l2 c2 k2
  have g2 := PySem.W.mg_of X G a2
  have b2 := F2.binds (ps := ["net", "place"]) fun _ _ _ _ _ _ us hl => match us, hl with | [_, _], _ => rfl
  have F3 := fun_mk (st := sPlaces) l3 c3 k3
  have g3 := PySem.W.mg_of X G a3
  have b3 := F3.binds (ps := ["net", "place"]) fun _ _ _ _ _ _ us hl => match us, hl with | [_, _], _ => rfl
  have F4 := fun_mk (st := sLeads) l4 c4 k4
  have g4 := PySem.W.mg_of X G a4
  have b4 := F4.binds (ps := ["net", "one", "other"]) fun _ _ _ _ _ _ us hl => match us, hl with | [_, _, _], _ => rfl
  have F5 := fun_mk (st := sDeck) l5 c5 k5
  have g5 := PySem.W.mg_of X G a5
  have b5 := F5.binds (ps := ["_law_script"]) fun _ _ _ _ _ _ us hl => match us, hl with | [_], _ => rfl
  have F6 := fun_mk (st := sDraw) l6 c6 k6
  have g6 := PySem.W.mg_of X G a6
  have b6 := F6.binds (ps := ["_law_deck_here", "_law_many"]) fun _ _ _ _ _ _ us hl => match us, hl with | [_, _], _ => rfl
  have F7 := fun_mk (st := sPick) l7 c7 k7
  have g7 := PySem.W.mg_of X G a7
  have b7 := F7.binds (ps := ["_law_deck_here", "_law_items"]) fun _ _ _ _ _ _ us hl => match us, hl with | [_, _], _ => rfl
  have F8 := fun_mk (st := sShuf) l8 c8 k8
  have g8 := PySem.W.mg_of X G a8
  have b8 := F8.binds (ps := ["_law_deck_here", "_law_items"]) fun _ _ _ _ _ _ us hl => match us, hl with | [_, _], _ => rfl
  have F9 := fun_mk (st := sNet) l9 c9 k9
  have g9 := PySem.W.mg_of X G a9
  have b9 := F9.binds (ps := ["_law_deck_here", "_law_many", "_law_more"]) fun _ _ _ _ _ _ us hl => match us, hl with | [_, _, _], _ => rfl
  have F10 := fun_mk (st := sReached) l10 c10 k10
  have g10 := PySem.W.mg_of X G a10
  have b10 := F10.binds (ps := ["_law_net_here", "_law_place"]) fun _ _ _ _ _ _ us hl => match us, hl with | [_, _], _ => rfl
  have F11 := fun_mk (st := sTold) l11 c11 k11
  have g11 := PySem.W.mg_of X G a11
  have b11 := F11.binds (ps := ["_law_net_here", "_law_place", "_law_is_named"]) fun _ _ _ _ _ _ us hl => match us, hl with | [_, _, _], _ => rfl
  have F12 := fun_mk (st := sLTold) l12 c12 k12
  have g12 := PySem.W.mg_of X G a12
  have b12 := F12.binds (ps := ["_law_net_here", "_law_there", "_law_one", "_law_other", "_law_is_named"]) fun _ _ _ _ _ _ us hl => match us, hl with | [_, _, _, _, _], _ => rfl
  have F13 := fun_mk (st := sRight) l13 c13 k13
  have g13 := PySem.W.mg_of X G a13
  have b13 := F13.binds (ps := ["_law_deck_here", "_law_net_here"]) fun _ _ _ _ _ _ us hl => match us, hl with | [_, _], _ => rfl
  have F14 := fun_mk (st := sLaw) l14 c14 k14
  have g14 := PySem.W.mg_of X G a14
  have m_enumerate : mg "enumerate" = none := PySem.W.mg_none_of X G z_enumerate
  have m_tuple : mg "tuple" = none := PySem.W.mg_none_of X G z_tuple
  have m_sorted : mg "sorted" = none := PySem.W.mg_none_of X G z_sorted
  have m_len : mg "len" = none := PySem.W.mg_none_of X G z_len
  have m_abs : mg "abs" = none := PySem.W.mg_none_of X G z_abs
  have m_int : mg "int" = none := PySem.W.mg_none_of X G z_int
  have m_list : mg "list" = none := PySem.W.mg_none_of X G z_list
  have m_range : mg "range" = none := PySem.W.mg_none_of X G z_range
  have m_zip : mg "zip" = none := PySem.W.mg_none_of X G z_zip
  have m_set : mg "set" = none := PySem.W.mg_none_of X G z_set
  have m_repr : mg "repr" = none := PySem.W.mg_none_of X G z_repr
  have m_all : mg "all" = none := PySem.W.mg_none_of X G z_all
  refine ⟨PySem.W.fnOf "law" "law" (defArgs sLaw) (defBody sLaw) (defScope sLaw) .none kV14 dc14 pm14 an14 cd14 ct14, fun s u => .of_eq rfl, fun base => ?_⟩
  have G5 : FnOk P w K mg base CX0 1 f5 (PySem.W.fnOf "_law_deck" "_law_deck" (defArgs sDeck) (defBody sDeck) (defScope sDeck) .none kV5 dc5 pm5 an5 cd5 ct5) ["_law_script"] (spDeck K) := ok_deck F5 m_len m_abs m_int
  have G6 : FnOk P w K mg base CX0 1 f6 (PySem.W.fnOf "_law_draw" "_law_draw" (defArgs sDraw) (defBody sDraw) (defScope sDraw) .none kV6 dc6 pm6 an6 cd6 ct6) ["_law_deck_here", "_law_many"] spDraw := ok_draw F6 m_int
  have G7 : FnOk P w K mg base CX0 2 f7 (PySem.W.fnOf "_law_pick" "_law_pick" (defArgs sPick) (defBody sPick) (defScope sPick) .none kV7 dc7 pm7 an7 cd7 ct7) ["_law_deck_here", "_law_items"] (spPick K) := ok_pick F7 F6 b6 g6 m_int m_len
  have G8 : FnOk P w K mg base CX0 2 f8 (PySem.W.fnOf "_law_shuffled" "_law_shuffled" (defArgs sShuf) (defBody sShuf) (defScope sShuf) .none kV8 dc8 pm8 an8 cd8 ct8) ["_law_deck_here", "_law_items"] (spShuf K) := ok_shuf F8 F6 b6 g6 m_int m_len m_list
  have G9 : FnOk P w K mg base CX0 3 f9 (PySem.W.fnOf "_law_net" "_law_net" (defArgs sNet) (defBody sNet) (defScope sNet) .none kV9 dc9 pm9 an9 cd9 ct9) ["_law_deck_here", "_law_many", "_law_more"] spNet := ok_net F9 F6 b6 g6 F7 b7 g7 F8 b8 g8 m_int m_len m_list m_range m_zip m_tuple
  have G10 : FnOk P w K mg base CX0 1 f10 (PySem.W.fnOf "_law_reached" "_law_reached" (defArgs sReached) (defBody sReached) (defScope sReached) .none kV10 dc10 pm10 an10 cd10 ct10) ["_law_net_here", "_law_place"] spReached := ok_reached F10 m_range m_sorted m_set
  have G11 : FnG P w K mg base 2 f11 (PySem.W.fnOf "_law_are_roads_told" "_law_are_roads_told" (defArgs sTold) (defBody sTold) (defScope sTold) .none kV11 dc11 pm11 an11 cd11 ct11) ["_law_net_here", "_law_place", "_law_is_named"] spTold := ok_told F11 F1 b1 g1 F2 b2 g2 m_enumerate m_tuple m_repr
  have G12 : FnOk P w K mg base CX0 3 f12 (PySem.W.fnOf "_law_leads_told" "_law_leads_told" (defArgs sLTold) (defBody sLTold) (defScope sLTold) .none kV12 dc12 pm12 an12 cd12 ct12) ["_law_net_here", "_law_there", "_law_one", "_law_other", "_law_is_named"] spLTold := ok_ltold F12 F4 b4 g4 F3 b3 g3 m_sorted m_repr
  have G13 : FnG P w K mg base 4 f13 (PySem.W.fnOf "_law_is_right" "_law_is_right" (defArgs sRight) (defBody sRight) (defScope sRight) .none kV13 dc13 pm13 an13 cd13 ct13) ["_law_deck_here", "_law_net_here"] spRight := ok_right F13 k10 b10 g10 G10 k11 b11 g11 G11 k8 b8 g8 G8 k12 b12 g12 G12 m_repr m_range m_len m_enumerate
  exact ok_law F14 k5 b5 g5 G5 k6 b6 g6 G6 k7 b7 g7 G7 k9 b9 g9 G9 k13 b13 g13 G13 k10 b10 g10 G10 k12 b12 g12 G12 k11 b11 g11 G11 m_range m_len m_all
end SkW
open PySem PySem.W PyProof.Rows
set_option maxRecDepth 100000 in
set_option maxHeartbeats 0 in
theorem PySem.Challenge.cw_suretrips_k02_whole_roads_at_places_and_holds : PySem.Challenge.rw_suretrips_k02_whole_roads_at_places_and.Holds := by
  w_on; o_law; k_head; (case hw => w_witness2)
  k_fill
  refine SkG.walk_ofG (l := PySem.Challenge.rw_suretrips_k02_whole_roads_at_places_and) (n := 63) (k := 4 + 1) (x := "_law_script") (sp := SkW.spLaw) rfl (by decide) rfl ⟨rfl, by decide, by decide⟩ (fun w h Y => PySem.W.kIn_of Y) ?F (fun _ _ a ns hl hS => ⟨a, ns, rfl, hS, hl, fun _ => rfl⟩)
  case F =>
    intro w mg fa h KX G hmg
    refine' SkW.all_mk KX G hmg ?a1 ?l1 ?c1 ?k1 ?a2 ?l2 ?c2 ?k2 ?a3 ?l3 ?c3 ?k3 ?a4 ?l4 ?c4 ?k4 ?a5 ?l5 ?c5 ?k5 ?a6 ?l6 ?c6 ?k6 ?a7 ?l7 ?c7 ?k7 ?a8 ?l8 ?c8 ?k8 ?a9 ?l9 ?c9 ?k9 ?a10 ?l10 ?c10 ?k10 ?a11 ?l11 ?c11 ?k11 ?a12 ?l12 ?c12 ?k12 ?a13 ?l13 ?c13 ?k13 ?a14 ?l14 ?c14 ?k14 ?z_enumerate ?z_tuple ?z_sorted ?z_len ?z_abs ?z_int ?z_list ?z_range ?z_zip ?z_set ?z_repr ?z_all
    (case a1 => k_is)
    (case l1 => k_is)
    (case c1 => k_is)
    (case k1 => k_is)
    (case a2 => k_is)
    (case l2 => k_is)
    (case c2 => k_is)
    (case k2 => k_is)
    (case a3 => k_is)
    (case l3 => k_is)
    (case c3 => k_is)
    (case k3 => k_is)
    (case a4 => k_is)
    (case l4 => k_is)
    (case c4 => k_is)
    (case k4 => k_is)
    (case a5 => k_is)
    (case l5 => k_is)
    (case c5 => k_is)
    (case k5 => k_is)
    (case a6 => k_is)
    (case l6 => k_is)
    (case c6 => k_is)
    (case k6 => k_is)
    (case a7 => k_is)
    (case l7 => k_is)
    (case c7 => k_is)
    (case k7 => k_is)
    (case a8 => k_is)
    (case l8 => k_is)
    (case c8 => k_is)
    (case k8 => k_is)
    (case a9 => k_is)
    (case l9 => k_is)
    (case c9 => k_is)
    (case k9 => k_is)
    (case a10 => k_is)
    (case l10 => k_is)
    (case c10 => k_is)
    (case k10 => k_is)
    (case a11 => k_is)
    (case l11 => k_is)
    (case c11 => k_is)
    (case k11 => k_is)
    (case a12 => k_is)
    (case l12 => k_is)
    (case c12 => k_is)
    (case k12 => k_is)
    (case a13 => k_is)
    (case l13 => k_is)
    (case c13 => k_is)
    (case k13 => k_is)
    (case a14 => k_is)
    (case l14 => k_is)
    (case c14 => k_is)
    (case k14 => k_is)
    (case z_enumerate => k_is)
    (case z_tuple => k_is)
    (case z_sorted => k_is)
    (case z_len => k_is)
    (case z_abs => k_is)
    (case z_int => k_is)
    (case z_list => k_is)
    (case z_range => k_is)
    (case z_zip => k_is)
    (case z_set => k_is)
    (case z_repr => k_is)
    (case z_all => k_is)
