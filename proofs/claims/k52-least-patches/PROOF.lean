import PyProof.Rows.All
import Wide.All
import OpenK.AllK
import Wide.FinOn
import HandS.ForMost
import HandS.Style
import HandS.Walk
import HandS.IsInst
import KE.GoesMore
import KE.GoesEnum
import HandS.Wide
import PySem.Challenge.RW_piecetexts_k52_whole_least_patches
set_option Elab.async false
set_option linter.all false
set_option maxRecDepth 100000
set_option maxHeartbeats 8000000
namespace Pm
/-! The plain law: longest common beginning, least patch, over lists of any items. -/
universe u
variable {α : Type u} [DecidableEq α]

def lcp : List α → List α → Nat
  | a :: x, b :: y => if a = b then lcp x y + 1 else 0
  | [], _ => 0
  | _ :: _, [] => 0

theorem lcp_nil (y : List α) : lcp ([] : List α) y = 0 := by unfold lcp; rfl
theorem lcp_nil_r (x : List α) : lcp x ([] : List α) = 0 := by cases x <;> (unfold lcp; rfl)
theorem lcp_cons (a b : α) (x y : List α) : lcp (a :: x) (b :: y) = if a = b then lcp x y + 1 else 0 := by
  conv => lhs; unfold lcp

theorem lcp_le_l : ∀ (x y : List α), lcp x y ≤ x.length
  | [], y => by rw [lcp_nil]; exact Nat.zero_le _
  | a :: x, [] => by rw [lcp_nil_r]; exact Nat.zero_le _
  | a :: x, b :: y => by
    rw [lcp_cons]
    have := lcp_le_l x y
    split <;> simp <;> omega
theorem lcp_le_r : ∀ (x y : List α), lcp x y ≤ y.length
  | [], y => by rw [lcp_nil]; exact Nat.zero_le _
  | a :: x, [] => by rw [lcp_nil_r]; exact Nat.zero_le _
  | a :: x, b :: y => by
    rw [lcp_cons]
    have := lcp_le_r x y
    split <;> simp <;> omega
theorem lcp_take : ∀ (x y : List α), x.take (lcp x y) = y.take (lcp x y)
  | [], y => by rw [lcp_nil]; simp
  | a :: x, [] => by rw [lcp_nil_r]; simp
  | a :: x, b :: y => by
    rw [lcp_cons]
    have := lcp_take x y
    split
    · rename_i h
      rw [List.take_succ_cons, List.take_succ_cons, h, this]
    · simp
theorem lcp_max : ∀ (k : Nat) (x y : List α), k ≤ x.length → k ≤ y.length → x.take k = y.take k → k ≤ lcp x y
  | 0, _, _, _, _, _ => Nat.zero_le _
  | k + 1, [], y, h, _, _ => by simp at h
  | k + 1, a :: x, [], _, h, _ => by simp at h
  | k + 1, a :: x, b :: y, h1, h2, h => by
    rw [List.take_succ_cons, List.take_succ_cons] at h
    injection h with e1 e2
    have := lcp_max k x y (by simpa using h1) (by simpa using h2) e2
    rw [lcp_cons, if_pos e1]
    omega
theorem lcp_go : ∀ (i : Nat) (x y : List α) (a : α), i ≤ lcp x y → x[i]? = some a → y[i]? = some a → i + 1 ≤ lcp x y
  | 0, x, y, a, _, h1, h2 => by
    cases x with
    | nil => simp at h1
    | cons c x =>
      cases y with
      | nil => simp at h2
      | cons d y =>
        simp at h1 h2
        rw [lcp_cons, if_pos (h1.trans h2.symm)]
        omega
  | i + 1, x, y, a, h, h1, h2 => by
    cases x with
    | nil => simp at h1
    | cons c x =>
      cases y with
      | nil => simp at h2
      | cons d y =>
        rw [lcp_cons] at h ⊢
        split at h
        · rename_i e
          rw [if_pos e]
          have := lcp_go i x y a (by omega) (by simpa using h1) (by simpa using h2)
          omega
        · omega
theorem lcp_stop : ∀ (i : Nat) (x y : List α) (a b : α), i ≤ lcp x y → x[i]? = some a → y[i]? = some b → a ≠ b → lcp x y = i
  | 0, x, y, a, b, _, h1, h2, n => by
    cases x with
    | nil => simp at h1
    | cons c x =>
      cases y with
      | nil => simp at h2
      | cons d y =>
        simp at h1 h2
        rw [lcp_cons, if_neg]
        rw [h1, h2]; exact n
  | i + 1, x, y, a, b, h, h1, h2, n => by
    cases x with
    | nil => simp at h1
    | cons c x =>
      cases y with
      | nil => simp at h2
      | cons d y =>
        rw [lcp_cons] at h ⊢
        split at h
        · rename_i e
          rw [if_pos e]
          have := lcp_stop i x y a b (by omega) (by simpa using h1) (by simpa using h2) n
          omega
        · omega
theorem lcp_end {i : Nat} {x y : List α} (h : i ≤ lcp x y) (e : x.length ≤ i ∨ y.length ≤ i) : lcp x y = i := by
  have h1 := lcp_le_l x y
  have h2 := lcp_le_r x y
  omega
theorem lcp_self : ∀ (x : List α), lcp x x = x.length
  | [] => lcp_nil _
  | a :: x => by rw [lcp_cons, if_pos rfl, lcp_self x]; rfl

/-- the start; what is alike at the end; the part that is put in -/
def st (x y : List α) : Nat := lcp x y
def en (x y : List α) : Nat := lcp (x.drop (st x y)).reverse (y.drop (st x y)).reverse
def mid (x y : List α) : List α := (y.take (y.length - en x y)).drop (st x y)

theorem st_l (x y : List α) : st x y ≤ x.length := lcp_le_l x y
theorem st_r (x y : List α) : st x y ≤ y.length := lcp_le_r x y
theorem en_l (x y : List α) : st x y + en x y ≤ x.length := by
  have h := lcp_le_l (x.drop (st x y)).reverse (y.drop (st x y)).reverse
  have := st_l x y
  unfold en
  rw [List.length_reverse, List.length_drop] at h
  omega
theorem en_r (x y : List α) : st x y + en x y ≤ y.length := by
  have h := lcp_le_r (x.drop (st x y)).reverse (y.drop (st x y)).reverse
  have := st_r x y
  unfold en
  rw [List.length_reverse, List.length_drop] at h
  omega
theorem mid_len (x y : List α) : (mid x y).length = y.length - en x y - st x y := by
  unfold mid
  rw [List.length_drop, List.length_take]
  omega

theorem rtake (l : List α) (k : Nat) : l.reverse.take k = (l.drop (l.length - k)).reverse := by
  rw [List.take_reverse]
theorem tails {x y : List α} {k : Nat} (s : Nat) (h : (x.drop s).reverse.take k = (y.drop s).reverse.take k) (h1 : s + k ≤ x.length) (h2 : s + k ≤ y.length) :
    x.drop (x.length - k) = y.drop (y.length - k) := by
  rw [rtake, rtake] at h
  have h := List.reverse_inj.mp h
  rw [List.length_drop, List.length_drop, List.drop_drop, List.drop_drop] at h
  have e1 : s + (x.length - s - k) = x.length - k := by omega
  have e2 : s + (y.length - s - k) = y.length - k := by omega
  rw [e1, e2] at h
  exact h
theorem tails_back {x y : List α} {k : Nat} (h : x.drop (x.length - k) = y.drop (y.length - k)) : x.reverse.take k = y.reverse.take k := by
  rw [rtake, rtake, h]
theorem en_tail (x y : List α) : x.drop (x.length - en x y) = y.drop (y.length - en x y) :=
  tails (st x y) (lcp_take _ _) (en_l x y) (en_r x y)
theorem st_head (x y : List α) : x.take (st x y) = y.take (st x y) := lcp_take x y

/-- the patch leads from x to y -/
theorem leads (x y : List α) : x.take (st x y) ++ mid x y ++ x.drop (x.length - en x y) = y := by
  rw [en_tail, st_head]
  have h := en_r x y
  have e : y.take (st x y) = (y.take (y.length - en x y)).take (st x y) := by
    rw [List.take_take]; congr 1; omega
  unfold mid
  rw [e, List.take_append_drop, List.take_append_drop]
/-- it is empty exactly if both are the same -/
theorem empty_iff (x y : List α) : (st x y = x.length - en x y ∧ (mid x y).length = 0) ↔ x = y := by
  constructor
  · rintro ⟨h1, h2⟩
    have h := leads x y
    have e : mid x y = [] := List.length_eq_zero_iff.mp h2
    rw [e, List.append_nil, ← h1, List.take_append_drop] at h
    exact h
  · intro h
    subst h
    have e1 : st x x = x.length := lcp_self x
    have e2 : en x x = 0 := by
      unfold en
      rw [e1, List.drop_length, List.reverse_nil, lcp_nil]
    rw [mid_len, e1, e2]
    omega

/-- no patch that leads there is smaller -/
theorem least {x y : List α} {i j : Nat} (hi : i + j ≤ x.length) (hj : i + j ≤ y.length) (h1 : x.take i = y.take i) (h2 : x.drop (x.length - j) = y.drop (y.length - j)) : i + j ≤ st x y + en x y := by
  have a : i ≤ st x y := lcp_max i x y (by omega) (by omega) h1
  by_cases q : st x y + j ≤ x.length ∧ st x y + j ≤ y.length
  · have b : j ≤ en x y := by
      refine lcp_max j _ _ ?_ ?_ ?_
      · rw [List.length_reverse, List.length_drop]; omega
      · rw [List.length_reverse, List.length_drop]; omega
      · rw [rtake, rtake]
        rw [List.length_drop, List.length_drop, List.drop_drop, List.drop_drop]
        have e1 : st x y + (x.length - st x y - j) = x.length - j := by omega
        have e2 : st x y + (y.length - st x y - j) = y.length - j := by omega
        rw [e1, e2, h2]
    omega
  · -- the shorter one is used up by both ends of the least patch
    have hx := st_l x y
    have hy := st_r x y
    have key : min x.length y.length ≤ st x y + en x y := by
      have : min x.length y.length - st x y ≤ en x y := by
        refine lcp_max _ _ _ ?_ ?_ ?_
        · rw [List.length_reverse, List.length_drop]; omega
        · rw [List.length_reverse, List.length_drop]; omega
        · have hk : min x.length y.length - st x y ≤ j := by omega
          have h3 := tails_back h2
          have h4 : (x.reverse.take j).take (min x.length y.length - st x y) = (y.reverse.take j).take (min x.length y.length - st x y) := by rw [h3]
          rw [List.take_take, List.take_take, Nat.min_eq_left hk, rtake, rtake] at h4
          rw [rtake, rtake, List.length_drop, List.length_drop, List.drop_drop, List.drop_drop]
          have e1 : st x y + (x.length - st x y - (min x.length y.length - st x y)) = x.length - (min x.length y.length - st x y) := by omega
          have e2 : st x y + (y.length - st x y - (min x.length y.length - st x y)) = y.length - (min x.length y.length - st x y) := by omega
          rw [e1, e2, h4]
      omega
    omega

/-- the item that the second loop reads -/
theorem back_get {x : List α} {s k : Nat} (h : s + k < x.length) : (x.drop s).reverse[k]? = x[x.length - 1 - k]? := by
  rw [List.getElem?_reverse (by rw [List.length_drop]; omega), List.getElem?_drop, List.length_drop]
  congr 1
  omega
end Pm

namespace Pr
open PySem PySem.Spec L2 PyProof.Rows

/-! ### promises of defs that are called where no repr is under way -/
structure FnG (P : Program) (w : World) (K : PySem.W.Frag) (mg : Str → Option Value) (base : Heap) (k : Nat) (f : Addr) (fd : FuncData) (ps : List Str) (sp : Sp) : Prop where
  len : ∀ vs H Q E, sp vs H Q E → ps.length = vs.length
  go : ∀ (A : Around) (fr : List Env) (s : Shared) (H : Hp) (args : Args) (us : List Value) (vs : List V) (Q : VK),
    Room k A → A.guards = some [] → Env0 P w K mg base A fr s H → BindsTo s fd args (ps.zip us) → Vals vs us → sp vs H Q E0 →
      codeAny (model P w) A (.call (.ref f) args) (CR CX0 fr P w H s Q E0) s

section
variable {K : PySem.W.Frag} {base : Heap} {P : Program} {w : World} {mg : Str → Option Value}

/-- such a def, by its body -/
theorem fnG_of {nm qn : Str} {st : Stmt} {f : Addr} {fd : FuncData} {N ps : List Str} {k : Nat} {sp : Sp} (F : Fun K nm qn st f fd) (S : FnScope N ps (defScope st))
    (len : ∀ vs H Q E, sp vs H Q E → ps.length = vs.length)
    (body : ∀ (cv : Value) (A : Around) (fr : List Env) (s : Shared) (H : Hp) (vs : List V) (Q : VK),
      Room k (A.deeper (envOfC qn (defScope st) s.heap.objs.size f cv)) → (A.deeper (envOfC qn (defScope st) s.heap.objs.size f cv)).guards = some [] → sp vs H Q E0 →
        ∃ t, PSs (cxOf CX0 P w K mg base N qn (defScope st) f cv A fr s H E0).nox (defBody st) t ∧ t { nx := fun _ H' => Q .non H', rt := Q } (start N vs) H) :
    FnG P w K mg base (k + 1) f fd ps sp := by
  obtain ⟨oc, od, kV, doc, pm, an, cv, ct, osl, rfl, look, code⟩ := F.ex
  refine ⟨len, fun A fr s H args us vs Q room clean e0 hb rv want => ?_⟩
  have stay : ∀ b o, base.get? b = some o → s.heap.get? b = some o := fun b o e => (e0.bs b o e).1
  have inK : K.In s.heap := e0.mod.kin.keeps stay
  have free : s.heap.NoLimit := e0.mod.nolimit.keeps stay
  have kinds : ∀ y ∈ ps.zip us, (defScope st).names.lookup y.1 = some .local ∨
      ((defScope st).names.lookup y.1 = some .cell ∧ ((cellsFrom (s.heap.objs.size + 1) (defScope st).names []).lookup y.1).isSome = true) := by
    rintro ⟨n, v⟩ hy
    have hp := S.par n (List.of_mem_zip hy).1
    cases hp with
    | inl q => exact .inl q
    | inr q => exact .inr ⟨q, PySem.W.cellsFrom_some _ _ _ (.inl q)⟩
  refine codeAny_call_function room.depth (inK _ _ look) rfl S.co S.gen rfl (PySem.W.codeRec_of inK code) (hb _ _ _ _ ?_)
  refine wpAny_newFunctionEnv_cells S.kind kinds ?_
  intro env he s1 x
  subst he
  refine ⟨free.keeps x.toInCall.keep, codeAny_func ?_⟩
  obtain ⟨t, ht, hq⟩ := body cv A fr s H vs Q (room.deeper _) clean want
  have I := inv_start (CX := CX0) (E := E0) S room.hd e0 (len _ _ _ _ want).symm rv x
  refine wpAny_mono (ht.nox.run [] s1 (start N vs) H _ I hq) ?_ (fun e s' hs => hs)
  intro fl s' hs
  match fl, hs with
  | .ret u, ⟨v, σ', H', J, r, q⟩ => exact ⟨v, H', J.os, J.bare, J.base, J.hok, r, q⟩
  | .next, ⟨σ', H', J, q⟩ => exact ⟨V.non, H', J.os, J.bare, J.base, J.hok, rfl, q⟩
  | .brk, ⟨_, _, _, q⟩ => exact q.elim
  | .cont, ⟨_, _, _, q⟩ => exact q.elim
end

section
variable {X : Cx} {k : Nat} {f : Addr} {fd : FuncData} {ps : List Str} {sp : Sp} {x : Str} {p pos : Pos} {e : Expr} {es : List Expr} {t : TA}
/-- a call of such a def -/
theorem pe_callG (F : FnG X.prog X.w X.K X.mg X.base k f fd ps sp) (clean : X.A.guards = some []) (hr : Room k X.A) (hg : Gl X x) (hm : X.mg x = some (.ref f)) (hk : PySem.W.keepIn X.K (.ref f) = true)
    (hb : Binds X.K fd ps []) (ha : PA X (e :: es) t) (hdb : (x == ("__debug__" : Str)) = false := by decide)
    (plain : starEach (e :: es) X.env = (false, eval e X.env) :: starEach es X.env := by rfl) (nostar : (backTo pos (starEach es X.env)).any (·.1) = false := by rfl) :
    PE X (.Call (.Name x p) (e :: es) [] pos) (tCall sp [] E0 t) := by
  refine ⟨fun pins s σ H Q I h => wpAny_Call_Name_kw (ld_glob I hg hm ?_ hdb)⟩
  refine PySem.W.callWith_K (h₀ := X.base) I.ok.mod.kin hk (thn (ha.run pos pins s σ H _ I h) ?_) plain nostar
  rintro us s1 ⟨vs, H1, I1, r, q⟩
  refine ⟨I1.kIn, ?_⟩
  rw [List.append_nil] at q
  have hl : us.length = ps.length := by rw [← r.length]; exact (F.len _ _ _ _ q).symm
  have bind := hb s1 us I1.kIn (by rw [List.append_nil]; exact hl)
  rw [List.append_nil] at bind
  refine wpAny_call (codeAny_mono (F.go X.A X.stack s1 H1 ⟨us, []⟩ us vs Q hr clean I1.env0 bind r q) ?_)
  intro res s' hq
  match res, hq with
  | .error _, z => exact False.elim z
  | .ok (.ret u), z => exact I1.after z
  | .ok .next, z => exact False.elim z
  | .ok .brk, z => exact False.elim z
  | .ok .cont, z => exact False.elim z

/-- repr of data -/
def rRepr (K : PySem.W.Frag) : List V → Hp → VK → Prop := fun xs H Q => ∃ (a : Addr) (d : PyData), xs = [.ref a] ∧ Dp K H (.ref a) d ∧ d.showable = true ∧ d.hasDict = false ∧ d.depth ≤ 3 ∧ d.shown.length ≤ sizeLine ∧ Q (.str d.shown) H
theorem call_reprD (clean : X.A.guards = some []) (hu : X.A.units + 64 < cLine) : CallR X (.builtin "repr") (rRepr X.K) := by
  rintro pins s σ H xs us Q I r ⟨a, d, rfl, hd, h1, h2, h3, h4, q⟩
  cases r with
  | cons r rr =>
    cases rr
    cases r
    obtain ⟨as, rd⟩ := Dp.reads I d _ _ hd rfl
    refine repr_of_reads' rd h1 (fun z => ?_) clean (by omega) (fun _ _ e => e) (fun h' u tk hk => ?_) h4
    · rw [h2] at z; cases z
    · exact ⟨.str d.shown, H, I.kept hk, ⟨u, rfl⟩, q⟩
end

/-! ### a <= b <= c <= d as a test -/
section
variable {X : Cx} {a b c d : Expr} {ta tb tc td : TE} {pos : Pos}
def tChain3 (r1 r2 r3 : R2) (ta tb tc td : TE) : TT := fun σ H Q => ta σ H fun x H1 => tb σ H1 fun y H2 => r1 x y H2 fun z H3 => z = .bl true ∧
  tc σ H3 fun u H4 => r2 y u H4 fun z2 H5 => z2 = .bl true ∧ td σ H5 fun v H6 => r3 u v H6 fun z3 H7 => z3 = .bl true ∧ Q true H7
/-- (all three hold) -/
theorem pt_chain3 {o1 o2 o3 : CmpOp} {r1 r2 r3 : R2} (h1 : OpR X (compareOp o1) r1) (h2 : OpR X (compareOp o2) r2) (h3 : OpR X (compareOp o3) r3) (ha : PE X a ta) (hb : PE X b tb) (hc : PE X c tc) (hd : PE X d td)
    (hm : lastMarks [o1, o2, o3] [b, c, d] = false := by with_unfolding_all rfl) : PT X (.Compare a [o1, o2, o3] [b, c, d] pos) (tChain3 r1 r2 r3 ta tb tc td) := by
  refine ⟨fun pins s σ H Q I h => isTrue_chain ?_ hm⟩
  refine thn (ha.run pins s σ H _ I h) ?_
  rintro va s1 ⟨x, H1, I1, rx, q1⟩
  refine test_link (thn (hb.run pins s1 σ H1 _ I1 q1) ?_)
  rintro vb s2 ⟨y, H2, I2, ry, q2⟩
  refine thn (h1 pins s2 σ H2 x y va vb _ I2 rx ry q2) ?_
  rintro vz s3 ⟨z, H3, I3, rz, rfl, q3⟩
  cases rz
  refine wpAny_truthy_bool (ite_tt (test_link (thn (hc.run pins s3 σ H3 _ I3 q3) ?_)))
  rintro vc s4 ⟨u, H4, I4, ru, q4⟩
  refine thn (h2 pins s4 σ H4 y u vb vc _ I4 ry ru q4) ?_
  rintro vz s5 ⟨z, H5, I5, rz, rfl, q5⟩
  cases rz
  refine wpAny_truthy_bool (ite_tt (test_last (thn (hd.run pins s5 σ H5 _ I5 q5) ?_)))
  rintro vd s6 ⟨v, H6, I6, rv, q6⟩
  refine thn (h3 pins s6 σ H6 u v vc vd _ I6 ru rv q6) ?_
  rintro vz s7 ⟨z, H7, I7, rz, rfl, q7⟩
  cases rz
  exact wpAny_truthy_bool ⟨H7, I7, q7⟩
end

/-! ### texts as lists of codes -/
def mkS (l : List Nat) : Str := ⟨l.toArray⟩
theorem mkS_len (l : List Nat) : (mkS l).length = l.length := by show l.toArray.size = _; rw [List.size_toArray]
theorem mkS_get (l : List Nat) (i : Nat) : (mkS l).cps[i]? = l[i]? := by show l.toArray[i]? = _; simp
theorem mkS_list (l : List Nat) : (mkS l).cps.toList = l := rfl
theorem mkS_inj {l m : List Nat} (h : mkS l = mkS m) : l = m := by
  have := congrArg (fun z : Str => z.cps.toList) h
  exact this

/-! ### z[::-1] of a text -/
section
variable {X : Cx}
def tRevS (te : TE) : TE := fun σ H Q => te σ H fun x H1 => ∃ l : List Nat, x = .str (mkS l) ∧ l.length ≤ sizeLine ∧ Q (.str (mkS l.reverse)) H1
theorem revS_pick (l : List Nat) : ((Builtin.Str.strSliceIndices none none (-1) (mkS l).length).filterMap ((mkS l).cps[·]?)).toArray = l.reverse.toArray := by
  have e : Builtin.Str.strSliceIndices none none (-1) (mkS l).length = (List.range (mkS l).length).reverse := by
    rw [← PySem.W.krv_range, ← PySem.W.krv_sliceRange]
    rfl
  rw [e, List.filterMap_reverse]
  have e2 : (List.range (mkS l).length).filterMap ((mkS l).cps[·]?) = (mkS l).cps.toList := PySem.W.krv_all _
  rw [e2, mkS_list]
theorem pe_revS {e : Expr} {te : TE} {k : Nat} {p1 p2 p3 pos : Pos} (he : PE X e te) : PE X (.Subscript e (.Slice none none (some (.UnaryOp .USub (.Constant (.int 1) k p1) p2)) p3) pos) (tRevS te) := by
  refine ⟨fun pins s σ H Q I h => Subscript_ (thn (he.run pins s σ H _ I h) ?_)⟩
  rintro v s1 ⟨x, H1, I1, r1, l, rfl, hz, q⟩
  obtain ⟨tk, rfl⟩ := r1
  have step : PO X (some (.UnaryOp .USub (.Constant (.int 1) k p1) p2)) (tPart (tUn (rU fun i => .int (-i)) (tC (.int 1)))) := po_some (pe_un un_neg pe_int)
  refine wpAny_Slice (thn (po_none.run pins s1 σ H1 (fun o H2 => o = none ∧ H2 = H1) I1 ⟨rfl, rfl⟩) ?_)
  rintro vl s2 ⟨_, _, I2, pl, rfl, rfl⟩
  refine thn (po_none.run pins s2 σ _ (fun o H3 => o = none ∧ H3 = _) I2 ⟨rfl, rfl⟩) ?_
  rintro vu s3 ⟨_, _, I3, pu, rfl, rfl⟩
  refine thn (step.run pins s3 σ _ (fun o H4 => o = some (-1) ∧ H4 = _) I3 ⟨1, rfl, -1, rfl, rfl, rfl⟩) ?_
  rintro vs s4 ⟨_, H4, I4, ps, rfl, rfl⟩
  have I5 := I4.kept (t' := s4.toks) (h' := s4.heap.push { cls := .type "slice", data := .fields #[vl, vu, vs] }) fun b ob q => Heap.get?_push_of_some _ q
  obtain ⟨l1, rfl, hl1⟩ := IsPart.raw pl
  obtain ⟨u1, rfl, hu1⟩ := IsPart.raw pu
  obtain ⟨st1, rfl, hs1⟩ := IsPart.raw ps
  show wpAny (model X.prog X.w) X.A (subscriptTail e (.Slice none none (some (.UnaryOp .USub (.Constant (.int 1) k p1) p2)) p3) (.str (mkS l) tk) (.ref s4.heap.objs.size)) (EP X pins σ Q) X.xe _
  refine tail_any (ops := [.ref s4.heap.objs.size, .str (mkS l) tk]) (typeIs_str _ _ _) PySem.F.slot_str_getitem.lookup ?_ (by with_unfolding_all rfl)
  refine wpAny_getItem_str_slice (l := l1) (u := u1) (st := st1) ⟨_, Heap.get?_push_size _ rfl, rfl, rfl⟩ (by rw [hs1]; rfl) ?_
  have em : sliceMade (mkS l) tk l1 u1 st1 = .str (mkS l.reverse) := by
    unfold sliceMade slicePicked
    rw [hl1, hu1, hs1]
    show (if ((-1 : Int) == 1 && _) = true then _ else Made.str ⟨((Builtin.Str.strSliceIndices none none (-1) (mkS l).length).filterMap ((mkS l).cps[·]?)).toArray⟩) = _
    rw [revS_pick, if_neg (by simp)]
    rfl
  rw [em]
  refine ⟨?_, .str _, H4, I5.tok _, ⟨_, rfl⟩, q⟩
  rw [mkS_len, List.length_reverse]
  exact hz
end

/-! ### zip of two texts -/
section
/-- the signs of both, in new pairs -/
def ItzS (x y : List Nat) : It :=
  ⟨fun i _ => i < x.length ∧ i < y.length,
    fun i H v H' => ∃ (T : Addr) (c d : Nat), v = .ref T ∧ H T = none ∧ H' = upd H T (.tup [.str (mkS [c]), .str (mkS [d])]) ∧ x[i]? = some c ∧ y[i]? = some d,
    fun i _ => (i = x.length ∨ i = y.length) ∧ i ≤ x.length ∧ i ≤ y.length⟩
theorem turn_zipS {P : Program} {w : World} {K : PySem.W.Frag} {elts : List Expr} {kk : Nat} {tpos : Pos} {z TI TO i1 i2 : Addr} {x y : List Nat} {t1 t2 : Tok} (D : ZipSep2 z TI TO i1 i2 [i1] [i2]) :
    Turn P w K (.Tuple elts kk tpos) (ItzS x y) [z, TI, TO, i1, i2] z (fun i h => IsZip h z TI TO .none ∧ IsTupOf2 h TI (.ref i1) (.ref i2) ∧ (∃ a b, IsTupOf2 h TO a b) ∧
      h.IsStrIter i1 (strIterType (mkS x)) (mkS x) t1 i ∧ h.IsStrIter i2 (strIterType (mkS y)) (mkS y) t2 i) where
  mem := by simp
  obj := by
    rintro i h ⟨hz, hTI, ⟨a, b, hTO⟩, ⟨o1, e1, _, d1⟩, ⟨o2, e2, _, d2⟩⟩ c hc
    simp only [List.mem_cons, List.not_mem_nil, or_false] at hc
    rcases hc with rfl | rfl | rfl | rfl | rfl
    · exact ⟨_, hz, fun v q => nomatch q⟩
    · exact ⟨_, hTI, fun v q => nomatch q⟩
    · exact ⟨_, hTO, fun v q => nomatch q⟩
    · exact ⟨o1, e1, fun v q => by rw [d1] at q; cases q⟩
    · exact ⟨o2, e2, fun v q => by rw [d2] at q; cases q⟩
  keep := by
    rintro i h h' ⟨hz, hTI, ⟨a, b, hTO⟩, ⟨o1, e1, r1⟩, ⟨o2, e2, r2⟩⟩ k
    exact ⟨k z (by simp) _ hz, k TI (by simp) _ hTI, ⟨a, b, k TO (by simp) _ hTO⟩, ⟨o1, k i1 (by simp) _ e1, r1⟩, ⟨o2, k i2 (by simp) _ e2, r2⟩⟩
  item := by
    intro X eP ew eK calm i pins s σ H E I hf st hg
    subst eP ew eK
    obtain ⟨hz, hTI, ⟨a, b, hTO⟩, s1, s2⟩ := st
    have hh : X.A.in1.handled = none := I.ok.hd calm
    have n1 : i < (mkS x).cps.size := by show i < x.toArray.size; rw [List.size_toArray]; exact hg.1
    have n2 : i < (mkS y).cps.size := by show i < y.toArray.size; rw [List.size_toArray]; exact hg.2
    refine wpAny_pyNext_zipD2_item D (Draws.text hh i1 (mkS x) t1) (Draws.text hh i2 (mkS y) t2) hz hTI hTO s1 s2 n1 n2 ?_
    rintro _ _ h' tk ⟨c, u, hc1, rfl⟩ ⟨d, u2, hd1, rfl⟩ z' TO' s1' s2' hT hsz hk
    rw [mkS_get] at hc1 hd1
    refine ⟨_, rfl, wpAny_letOwnedTupleGo_zip (s := { s with heap := h', toks := tk }) z' fun h'' z'' sb => ?_⟩
    have lt : ∀ {c : Addr} {o : Obj}, s.heap.get? c = some o → c ≠ s.heap.objs.size := fun e => Nat.ne_of_lt (Heap.lt_size e)
    have old : ∀ q ∈ [z, TI, TO, i1, i2], q ≠ s.heap.objs.size := by
      intro q hq
      simp only [List.mem_cons, List.not_mem_nil, or_false] at hq
      rcases hq with rfl | rfl | rfl | rfl | rfl
      · exact lt hz
      · exact lt hTI
      · exact lt hTO
      · obtain ⟨_, e, _⟩ := s1; exact lt e
      · obtain ⟨_, e, _⟩ := s2; exact lt e
    have hT2 := (sb.2 _ (old z (by simp)).symm).trans hT
    have new : ObjOk X.prog X.w (upd H s.heap.objs.size (.tup [.str (mkS [c]), .str (mkS [d])])) h'' s.heap.objs.size (.tup [.str (mkS [c]), .str (mkS [d])]) :=
      ⟨by show 2 ≤ sizeLine; decide, _, .cons ⟨u, rfl⟩ (.cons ⟨u2, rfl⟩ .nil), ⟨_, hT2, rfl, _, rfl⟩⟩
    have J := I.turnedNew (t' := tk) (ch := [z, TI, TO, i1, i2]) (h' := h'') (fun g o hb q => (sb.2 g (fun q' => hb (by simp [q']))).trans
      (hk g o (fun q' => hb (by simp [q'])) (fun q' => hb (by simp [q'])) (fun q' => hb (by simp [q'])) (fun q' => hb (by simp [q'])) q)) hf (Nat.le_refl _) new
    refine ⟨.ref s.heap.objs.size, _, J, rfl, ⟨_, c, d, rfl, I.hok.fresh (Nat.le_refl _), rfl, hc1, hd1⟩, ⟨z'', ?_, ⟨_, _, (sb.2 _ D.TOz).trans TO'⟩, ?_, ?_⟩, fun q hq => ?_⟩
    · rw [IsTupOf2, sb.2 _ D.TIz]
      exact hk _ _ D.TIz D.TITO D.TIi1 D.TIi2 hTI
    · obtain ⟨o, e, r⟩ := s1'
      exact ⟨o, (sb.2 _ D.zi1.symm).trans e, r⟩
    · obtain ⟨o, e, r⟩ := s2'
      exact ⟨o, (sb.2 _ D.zi2.symm).trans e, r⟩
    · rw [upd_ne (old q hq)]
      exact (hf q hq).1
  done := by
    intro X eP ew eK calm i pins s σ H E I hf st hg
    subst eP ew eK
    obtain ⟨hz, hTI, ⟨a, b, hTO⟩, s1, s2⟩ := st
    have hh : X.A.in1.handled = none := I.ok.hd calm
    have l1 : (mkS x).cps.size = x.length := by show x.toArray.size = _; rw [List.size_toArray]
    have l2 : (mkS y).cps.size = y.length := by show y.toArray.size = _; rw [List.size_toArray]
    refine wpAny_pyNext_zipD2_end D (Draws.text hh i1 (mkS x) t1) (Draws.text hh i2 (mkS y) t2) hz hTI hTO s1 s2 (by rw [l1]; exact hg.2.1) (by rw [l2]; exact hg.2.2) (by rw [l1, l2]; exact hg.1) ?_
    intro h' tk hk
    exact ⟨rfl, I.turnedL (t' := tk) (ch := [z, TI, TO, i1, i2]) (fun g o hb q => hk g o (fun q' => hb (by simp [q'])) (fun q' => hb (by simp [q'])) (fun q' => hb (by simp [q'])) (fun q' => hb (by simp [q'])) q) hf⟩
  self := by
    intro A i s Q E st h
    exact wpAny_pyIter_zip st.1 h
def iZipS (ta : TA) : TI := fun σ H R => ta σ H fun vs H1 => ∃ x y : List Nat, vs = [.str (mkS x), .str (mkS y)] ∧ R (ItzS x y) H1
theorem pi_zipS {X : Cx} {e e2 : Expr} {ta : TA} {p pos tpos : Pos} {elts : List Expr} {kk : Nat} (hg : Gl X "zip") (hm : X.mg "zip" = none) (ha : PA X [e, e2] ta)
    (plain : starEach [e, e2] X.env = (false, eval e X.env) :: starEach [e2] X.env := by rfl) (nostar : (backTo pos (starEach [e2] X.env)).any (·.1) = false := by rfl) :
    PI X (.Tuple elts kk tpos) (.Call (.Name "zip" p) [e, e2] [] pos) (iZipS ta) := by
  refine ⟨fun pins s σ H R I h => Call_ (ld_blt I hg hm PyProof.Rows.boot_zip (PyProof.Rows.callWith_type1 (thn (ha.run pos pins s σ H _ I h) ?_) plain nostar))⟩
  rintro us s1 ⟨vs, H1, I1, r1, x, y, rfl, q⟩
  cases r1 with
  | cons ra rr =>
    cases rr with
    | cons rb rr =>
      cases rr
      obtain ⟨t1, rfl⟩ := ra
      obtain ⟨t2, rfl⟩ := rb
      refine zip_begins2 (begins_text (mkS x) t1) (begins_text (mkS y) t2) True.intro True.intro ?_
      intro h' hz hTI hTO h1 h2 hsz hk
      refine wpAny_pyIter_zip hz ?_
      have J : Inv X pins σ H1 { s1 with heap := h' } := I1.kept (t' := s1.toks) hk
      refine ⟨s1.heap.objs.size + 4, [s1.heap.objs.size + 4, s1.heap.objs.size + 2, s1.heap.objs.size + 3, s1.heap.objs.size, s1.heap.objs.size + 1], _, _, H1, rfl, J,
        turn_zipS (zip_sep2 (N := s1.heap.objs.size) (fp1 := []) (fp2 := []) (by simp) (by simp)), ⟨hz, hTI, ⟨_, _, hTO⟩, ⟨_, h1, rfl, rfl⟩, ⟨_, h2, rfl, rfl⟩⟩, fun g hgm => ?_, q⟩
      have le : s1.heap.objs.size ≤ g := by
        simp only [List.mem_cons, List.not_mem_nil, or_false] at hgm
        rcases hgm with rfl | rfl | rfl | rfl | rfl <;> first | exact Nat.le_refl _ | exact Nat.le_add_right _ _
      exact I1.fpOk le (I1.hok.fresh le)
end
end Pr

namespace Pt
open PySem L2 Pr
/-! ### the text by places -/
def top (i : Nat) : Stmt := PySem.Challenge.pw_piecetexts_k52_whole_least_patches.main.body.getD i (.Pass ⟨0, 0, 0, 0⟩)
abbrev sCb : Stmt := top 1
abbrev sLp : Stmt := top 2
abbrev sBag : Stmt := top 4
abbrev sTake : Stmt := top 5
abbrev sOf : Stmt := top 6
abbrev sPatch : Stmt := top 7
abbrev sDrawn : Stmt := top 8
abbrev sSizes : Stmt := top 9
abbrev sRight : Stmt := top 10
abbrev sLaw : Stmt := top 11

/-- the built-ins that the text leaves alone -/
structure Txt (mg : Str → Option Value) : Prop where
  zip : mg "zip" = none
  len : mg "len" = none
  range : mg "range" = none
  min : mg "min" = none
  max : mg "max" = none
  abs : mg "abs" = none
  list : mg "list" = none
  str : mg "str" = none
  repr : mg "repr" = none
  isinstance : mg "isinstance" = none
  tuple : mg "tuple" = none

/-- a def of the module that keeps a promise -/
structure Cl (P : Program) (w : World) (K : PySem.W.Frag) (mg : Str → Option Value) (base : Heap) (k : Nat) (x : Str) (ps : List Str) (sp : Sp) : Prop where
  ex : ∃ (f : Addr) (fd : FuncData), FnOk P w K mg base CX0 k f fd ps sp ∧ mg x = some (.ref f) ∧ PySem.W.keepIn K (.ref f) = true ∧ Binds K fd ps []
structure ClG (P : Program) (w : World) (K : PySem.W.Frag) (mg : Str → Option Value) (base : Heap) (k : Nat) (x : Str) (ps : List Str) (sp : Sp) : Prop where
  ex : ∃ (f : Addr) (fd : FuncData), FnG P w K mg base k f fd ps sp ∧ mg x = some (.ref f) ∧ PySem.W.keepIn K (.ref f) = true ∧ Binds K fd ps []
def tCal (sp : Sp) (t : TA) : TE := fun σ H Q => t σ H fun vs H1 => sp vs H1 Q E0
theorem tCal_eq (sp : Sp) (t : TA) : tCall sp [] E0 t = tCal sp t := by
  funext σ H Q
  show (t σ H fun vs H1 => sp (vs ++ []) H1 Q E0) = (t σ H fun vs H1 => sp vs H1 Q E0)
  have e : (fun (vs : List V) H1 => sp (vs ++ []) H1 Q E0) = fun vs H1 => sp vs H1 Q E0 := by
    funext vs H1
    rw [List.append_nil]
  rw [e]
section
variable {X : Cx} {k j : Nat} {x : Str} {ps : List Str} {sp : Sp} {p pos : Pos} {e : Expr} {es : List Expr} {t : TA}
theorem pe_cl (c : Cl X.prog X.w X.K X.mg X.base k x ps sp) (hr : Room j X.A) (hk : k ≤ j) (hg : Gl X x) (ha : PA X (e :: es) t) (hdb : (x == ("__debug__" : Str)) = false := by decide)
    (plain : starEach (e :: es) X.env = (false, eval e X.env) :: starEach es X.env := by rfl) (nostar : (backTo pos (starEach es X.env)).any (·.1) = false := by rfl) :
    PE X (.Call (.Name x p) (e :: es) [] pos) (tCal sp t) := by
  obtain ⟨f, fd, F, hm, kp, b⟩ := c.ex
  have h := pe_call (p := p) (pos := pos) F (hr.mono hk) hg hm kp b .nil pass0 ha hdb plain nostar
  rw [tCal_eq] at h
  exact h
theorem pe_clG (c : ClG X.prog X.w X.K X.mg X.base k x ps sp) (clean : X.A.guards = some []) (hr : Room j X.A) (hk : k ≤ j) (hg : Gl X x) (ha : PA X (e :: es) t) (hdb : (x == ("__debug__" : Str)) = false := by decide)
    (plain : starEach (e :: es) X.env = (false, eval e X.env) :: starEach es X.env := by rfl) (nostar : (backTo pos (starEach es X.env)).any (·.1) = false := by rfl) :
    PE X (.Call (.Name x p) (e :: es) [] pos) (tCal sp t) := by
  obtain ⟨f, fd, F, hm, kp, b⟩ := c.ex
  have h := pe_callG (p := p) (pos := pos) F clean (hr.mono hk) hg hm kp b ha hdb plain nostar
  rw [tCal_eq] at h
  exact h
end

/-! ### heaps -/
theorem sameNew {H0 H : Hp} {p : Addr} {o : HO} (s : Same H0 H) (h : H p = none) : Same H0 (upd H p o) := fun b u e => by
  rw [upd_ne (ne_of_none (s b u e) h)]
  exact s b u e
theorem sameMut {H0 H : Hp} {p : Addr} {o : HO} (s : Same H0 H) (h : H0 p = none) : Same H0 (upd H p o) := fun b u e => by
  rw [upd_ne (ne_of_none e h)]
  exact s b u e
/-- a list of ints -/
abbrev Il (xs : List Int) : HO := .lst (xs.map V.int)

/-! ### what the package's defs promise -/
open Pm in
def spCbL : Sp := fun vs H Q _ => ∃ (a b : Addr) (x y : List Int), vs = [.ref a, .ref b] ∧ H a = some (Il x) ∧ H b = some (Il y) ∧ ∀ H', Same H H' → Q (.int (lcp x y : Nat)) H'
open Pm in
def spCbS : Sp := fun vs H Q _ => ∃ (x y : List Nat), vs = [.str (mkS x), .str (mkS y)] ∧ ∀ H', Same H H' → Q (.int (lcp x y : Nat)) H'
open Pm in
def spLpL : Sp := fun vs H Q _ => ∃ (a b : Addr) (x y : List Int), vs = [.ref a, .ref b] ∧ H a = some (Il x) ∧ H b = some (Il y) ∧
  ∀ H' p q, Same H H' → H p = none → H q = none → H' q = some (Il (mid x y)) → H' p = some (.tup [.int (st x y : Nat), .int ((x.length - en x y : Nat) : Int), .ref q]) → Q (.ref p) H'
open Pm in
def spLpS : Sp := fun vs H Q _ => ∃ (x y : List Nat), vs = [.str (mkS x), .str (mkS y)] ∧ x.length ≤ 1000 ∧ y.length ≤ 1000 ∧
  ∀ H' p, Same H H' → H p = none → H' p = some (.tup [.int (st x y : Nat), .int ((x.length - en x y : Nat) : Int), .str (mkS (mid x y))]) → Q (.ref p) H'
end Pt

namespace Pt
open PySem L2 Pr Pm
section
variable {K : PySem.W.Frag} {base : Heap} {P : Program} {w : World} {mg : Str → Option Value}
theorem scCb : FnScope ["one", "other", "many", "left", "right"] ["one", "other"] (defScope sCb) := ⟨rfl, rfl, rfl, by decide +kernel, rfl, by decide +kernel, by decide +kernel⟩
theorem ok_cbL {f : Addr} {fd : FuncData} (F : Fun K "common_beginning" "common_beginning" sCb f fd) (T : Txt mg) : FnOk P w K mg base CX0 1 f fd ["one", "other"] spCbL := by
  refine F.ok scCb (fun vs H Q E h => ?_) (fun cdv A outer s H vs Q E hr h => ?_)
  · obtain ⟨a, b, x, y, rfl, _⟩ := h
    rfl
  · obtain ⟨a, b, x, y, rfl, ha, hb, k⟩ := h
    have k2 : ∀ (n : Nat) (H' : Hp), lcp x y = n → Same H H' → Q (.int (n : Nat)) H' := fun n H' e s1 => by
      subst e
      exact k H' s1
    refine ⟨_, pss_cons (ps_set (i := 2) scCb.nd rfl (Or.inl rfl) pe_int) (pss_cons
      (ps_for PassesOwn.never rfl (pi_zip (by rfl) T.zip (pa_cons (pv 0) (pa_cons (pv 1) pa_nil)))
        (pg_tup rfl (pgs_cons (pg_name (i := 3) scCb.nd rfl (Or.inl rfl)) (pgs_cons (pg_name (i := 4) scCb.nd rfl (Or.inl rfl)) pgs_nil)))
        (pss_cons (ps_if (pt_cmpR op_ne (pv 3) (pv 4) (nomark _)) (pss_one (ps_ret (pv 2))) pss_nil)
          (pss_one (ps_aug (i := 2) scCb.nd rfl (Or.inl rfl) pe_int ip_add))))
      (pss_one (ps_ret (pv 2)))), ?_⟩
    refine ⟨_, rfl, _, rfl, a, b, _, _, rfl, SqL.of ha, SqL.of hb, ?_⟩
    refine for_it (walk_zip (n := min x.length y.length) (by rw [List.length_map, List.length_map]))
      (fun i σ H' => ∃ v1 v2, σ = [some (.ref a), some (.ref b), some (.int (i : Nat)), v1, v2] ∧ Same H H' ∧ i ≤ lcp x y)
      ⟨none, none, rfl, Same.refl H, Nat.zero_le _⟩ (fun i σ H' _ ⟨_, _, _, s1, _⟩ => ⟨SqL.of (s1 _ _ ha), SqL.of (s1 _ _ hb)⟩) ?_ ?_
    · rintro i v σ H1 H2 hi ⟨v1, v2, rfl, s1, hl⟩ ⟨Tp, c, d, rfl, hn, rfl, hc, hd⟩
      have hix : i < x.length := by omega
      have hiy : i < y.length := by omega
      have ec : c = .int x[i] := by
        replace hc : (x.map V.int)[i]? = some c := hc
        rw [List.getElem?_map, List.getElem?_eq_getElem hix] at hc
        exact (Option.some.inj hc).symm
      have ed : d = .int y[i] := by
        replace hd : (y.map V.int)[i]? = some d := hd
        rw [List.getElem?_map, List.getElem?_eq_getElem hiy] at hd
        exact (Option.some.inj hd).symm
      subst ec ed
      refine ⟨Tp, _, rfl, SqT.of upd_same, rfl, _, _, rfl, _, _, rfl, rfl, ?_⟩
      refine ⟨_, rfl, ⟨_, rfl, rfl, _, rfl, ?_⟩⟩
      by_cases e : x[i] = y[i]
      · rw [e, decide_eq_true rfl]
        refine iteF ?_
        refine ⟨_, rfl, ⟨_, _, rfl, rfl, ?_⟩⟩
        refine ⟨_, _, rfl, sameNew s1 hn, ?_⟩
        exact lcp_go i x y y[i] hl (by rw [List.getElem?_eq_getElem hix, e]) (List.getElem?_eq_getElem hiy)
      · have e' : ¬ V.int x[i] = V.int y[i] := fun q => e (V.int.inj q)
        rw [decide_eq_false e']
        refine iteT ⟨_, rfl, ?_⟩
        have q := lcp_stop i x y _ _ hl (List.getElem?_eq_getElem hix) (List.getElem?_eq_getElem hiy) e
        exact k2 _ _ q (sameNew s1 hn)
    · rintro σ H1 ⟨v1, v2, rfl, s1, hl⟩
      refine ⟨_, rfl, ?_⟩
      have q := lcp_end hl (by omega)
      exact k2 _ _ q s1
theorem ok_cbS {f : Addr} {fd : FuncData} (F : Fun K "common_beginning" "common_beginning" sCb f fd) (T : Txt mg) : FnOk P w K mg base CX0 1 f fd ["one", "other"] spCbS := by
  refine F.ok scCb (fun vs H Q E h => ?_) (fun cdv A outer s H vs Q E hr h => ?_)
  · obtain ⟨x, y, rfl, _⟩ := h
    rfl
  · obtain ⟨x, y, rfl, k⟩ := h
    have k2 : ∀ (n : Nat) (H' : Hp), lcp x y = n → Same H H' → Q (.int (n : Nat)) H' := fun n H' e s1 => by
      subst e
      exact k H' s1
    refine ⟨_, pss_cons (ps_set (i := 2) scCb.nd rfl (Or.inl rfl) pe_int) (pss_cons
      (ps_for PassesOwn.never rfl (pi_zipS (by rfl) T.zip (pa_cons (pv 0) (pa_cons (pv 1) pa_nil)))
        (pg_tup rfl (pgs_cons (pg_name (i := 3) scCb.nd rfl (Or.inl rfl)) (pgs_cons (pg_name (i := 4) scCb.nd rfl (Or.inl rfl)) pgs_nil)))
        (pss_cons (ps_if (pt_cmpR op_ne (pv 3) (pv 4) (nomark _)) (pss_one (ps_ret (pv 2))) pss_nil)
          (pss_one (ps_aug (i := 2) scCb.nd rfl (Or.inl rfl) pe_int ip_add))))
      (pss_one (ps_ret (pv 2)))), ?_⟩
    refine ⟨_, rfl, _, rfl, x, y, rfl, ?_⟩
    have W : Walk (ItzS x y) (min x.length y.length) (fun _ => True) (fun i H v H' => ∃ (T : Addr) (c d : Nat), v = .ref T ∧ H T = none ∧ H' = upd H T (.tup [.str (mkS [c]), .str (mkS [d])]) ∧ x[i]? = some c ∧ y[i]? = some d) :=
      ⟨fun i _ hi _ => by show i < x.length ∧ i < y.length; omega, fun _ _ => by show (_ = x.length ∨ _ = y.length) ∧ _ ≤ x.length ∧ _ ≤ y.length; omega, fun _ _ _ _ _ _ q => q⟩
    refine for_it W (fun i σ H' => ∃ v1 v2, σ = [some (.str (mkS x)), some (.str (mkS y)), some (.int (i : Nat)), v1, v2] ∧ Same H H' ∧ i ≤ lcp x y)
      ⟨none, none, rfl, Same.refl H, Nat.zero_le _⟩ (fun i σ H' _ _ => True.intro) ?_ ?_
    · rintro i v σ H1 H2 hi ⟨v1, v2, rfl, s1, hl⟩ ⟨Tp, c, d, rfl, hn, rfl, hc, hd⟩
      refine ⟨Tp, _, rfl, SqT.of upd_same, rfl, _, _, rfl, _, _, rfl, rfl, ?_⟩
      refine ⟨_, rfl, ⟨_, rfl, rfl, _, rfl, ?_⟩⟩
      by_cases e : c = d
      · subst e
        rw [decide_eq_true rfl]
        refine iteF ?_
        refine ⟨_, rfl, ⟨_, _, rfl, rfl, ?_⟩⟩
        exact ⟨_, _, rfl, sameNew s1 hn, lcp_go i x y c hl hc hd⟩
      · have e' : ¬ V.str (mkS [c]) = V.str (mkS [d]) := fun q => e (by
          have z := mkS_inj (V.str.inj q)
          injection z)
        rw [decide_eq_false e']
        refine iteT ⟨_, rfl, ?_⟩
        have q := lcp_stop i x y _ _ hl hc hd e
        exact k2 _ _ q (sameNew s1 hn)
    · rintro σ H1 ⟨v1, v2, rfl, s1, hl⟩
      refine ⟨_, rfl, ?_⟩
      have q := lcp_end hl (by omega)
      exact k2 _ _ q s1
end
end Pt

namespace Pt
open PySem L2 Pr Pm
/-! ### slices -/
theorem cut_from {xs : List V} {k : Nat} (h : k ≤ xs.length) : cutV xs (some (k : Int)) none = xs.drop k := by
  unfold cutV
  rw [HT.sIx_nat, HT.sIx_none, Nat.min_eq_left h]
  refine List.take_of_length_le ?_
  rw [List.length_drop]; omega
theorem cut_to {xs : List V} {k : Nat} (h : k ≤ xs.length) : cutV xs none (some (k : Int)) = xs.take k := by
  unfold cutV
  rw [HT.sIx_nat, HT.sIx_none, Nat.min_eq_left h]
  rfl
theorem cut_mid {xs : List V} {i k : Nat} (h1 : i ≤ xs.length) (h2 : k ≤ xs.length) : cutV xs (some (i : Int)) (some (k : Int)) = (xs.take k).drop i := by
  unfold cutV
  rw [HT.sIx_nat, HT.sIx_nat, Nat.min_eq_left h1, Nat.min_eq_left h2, List.drop_take]
theorem cutS_from {xs : List Nat} {k : Nat} (h : k ≤ xs.length) : cutS (mkS xs) (some (k : Int)) none = mkS (xs.drop k) := by
  unfold cutS
  rw [HT.sIx_nat, HT.sIx_none, mkS_len, mkS_list, Nat.min_eq_left h, List.take_of_length_le (by rw [List.length_drop]; omega)]
  rfl
theorem cutS_to {xs : List Nat} {k : Nat} (h : k ≤ xs.length) : cutS (mkS xs) none (some (k : Int)) = mkS (xs.take k) := by
  unfold cutS
  rw [HT.sIx_nat, HT.sIx_none, mkS_len, mkS_list, Nat.min_eq_left h]
  rfl
theorem cutS_mid {xs : List Nat} {i k : Nat} (h1 : i ≤ xs.length) (h2 : k ≤ xs.length) : cutS (mkS xs) (some (i : Int)) (some (k : Int)) = mkS ((xs.take k).drop i) := by
  unfold cutS
  rw [HT.sIx_nat, HT.sIx_nat, mkS_len, mkS_list, Nat.min_eq_left h1, Nat.min_eq_left h2, ← List.drop_take]
  rfl
theorem subNat {a b : Nat} (h : b ≤ a) : (a : Int) - (b : Int) = ((a - b : Nat) : Int) := by omega
section
variable {K : PySem.W.Frag} {base : Heap} {P : Program} {w : World} {mg : Str → Option Value}
theorem scLp : FnScope ["old", "new", "start", "one", "other", "same"] ["old", "new"] (defScope sLp) := ⟨rfl, rfl, rfl, by decide +kernel, rfl, by decide +kernel, by decide +kernel⟩
theorem ok_lpL {f : Addr} {fd : FuncData} (F : Fun K "least_patch" "least_patch" sLp f fd) (T : Txt mg) (C : Cl P w K mg base 1 "common_beginning" ["one", "other"] spCbL) : FnOk P w K mg base CX0 2 f fd ["old", "new"] spLpL := by
  refine F.ok scLp (fun vs H Q E h => ?_) (fun cdv A outer s H vs Q E hr h => ?_)
  · obtain ⟨a, b, x, y, rfl, _⟩ := h
    rfl
  · obtain ⟨a, b, x, y, rfl, ha, hb, k⟩ := h
    refine ⟨_, pss_cons (ps_set (i := 2) scLp.nd rfl (Or.inl rfl) (pe_cl C hr (by decide) rfl (pa_cons (pv 0) (pa_cons (pv 1) pa_nil))))
      (pss_cons (ps_par (i := 3) (j := 4) (by rfl) scLp.nd rfl rfl (by decide) rfl rfl (pa_cons (pe_slice sl_list (pv 0) (po_some (pv 2)) po_none) (pa_cons (pe_slice sl_list (pv 1) (po_some (pv 2)) po_none) pa_nil)) (by rfl))
      (pss_cons (ps_set (i := 5) scLp.nd rfl (Or.inl rfl) (pe_cl C hr (by decide) rfl (pa_cons (pe_revL (pv 3)) (pa_cons (pe_revL (pv 4)) pa_nil))))
      (pss_one (ps_ret (pe_tup (pa_cons (pv 2) (pa_cons (pe_op op_sub (pe_callB call_len_seq (by rfl) T.len PySem.boot_len (pa_cons (pv 0) pa_nil)) (pv 5))
        (pa_cons (pe_slice sl_list (pv 1) (po_some (pv 2)) (po_some (pe_op op_sub (pe_callB call_len_seq (by rfl) T.len PySem.boot_len (pa_cons (pv 1) pa_nil)) (pv 5)))) pa_nil)))))))), ?_⟩
    have hsx := st_l x y
    have hsy := st_r x y
    have hex := en_l x y
    have hey := en_r x y
    refine ⟨_, rfl, _, rfl, a, b, x, y, rfl, ha, hb, fun H1 s1 => ?_⟩
    refine ⟨_, rfl, _, rfl, _, rfl, a, _, rfl, SqL.of (s1 _ _ ha), fun p1 n1 => ?_⟩
    have e1 : cutV (x.map V.int) (some ((lcp x y : Nat) : Int)) none = (x.drop (st x y)).map V.int := by
      rw [cut_from (by rw [List.length_map]; exact hsx), List.map_drop]; rfl
    rw [e1]
    have t1 := sameNew (o := .lst ((x.drop (st x y)).map V.int)) s1 n1
    refine ⟨_, rfl, _, rfl, _, rfl, b, _, rfl, SqL.of (t1 _ _ hb), fun p2 n2 => ?_⟩
    have e2 : cutV (y.map V.int) (some ((lcp x y : Nat) : Int)) none = (y.drop (st x y)).map V.int := by
      rw [cut_from (by rw [List.length_map]; exact hsy), List.map_drop]; rfl
    rw [e2]
    have t2 := sameNew (o := .lst ((y.drop (st x y)).map V.int)) t1 n2
    have q1 : upd (upd H1 p1 (.lst ((x.drop (st x y)).map V.int))) p2 (.lst ((y.drop (st x y)).map V.int)) p1 = some (Il (x.drop (st x y))) := by
      rw [upd_ne (ne_of_none upd_same n2)]; exact upd_same
    refine ⟨_, _, rfl, ?_⟩
    refine ⟨_, rfl, p1, _, rfl, SqL.of q1, fun p3 n3 => ?_⟩
    have t3 := sameNew (o := .lst ((x.drop (st x y)).map V.int).reverse) t2 n3
    refine ⟨_, rfl, p2, _, rfl, SqL.of (sameNew (Same.refl _) n3 _ _ upd_same), fun p4 n4 => ?_⟩
    have t4 := sameNew (o := .lst ((y.drop (st x y)).map V.int).reverse) t3 n4
    refine ⟨p3, p4, (x.drop (st x y)).reverse, (y.drop (st x y)).reverse, rfl, ?_, ?_, fun H2 s2 => ?_⟩
    · rw [Il, List.map_reverse]
      exact sameNew (Same.refl _) n4 _ _ upd_same
    · rw [Il, List.map_reverse]
      exact upd_same
    have t5 := t4.trans s2
    refine ⟨_, rfl, _, rfl, a, _, rfl, .inl (SqL.of (t5 _ _ ha)), _, rfl, _, _, rfl, rfl, ?_⟩
    refine ⟨_, rfl, _, rfl, _, rfl, _, rfl, b, _, rfl, .inl (SqL.of (t5 _ _ hb)), _, rfl, _, _, rfl, rfl, _, rfl, b, _, rfl, SqL.of (t5 _ _ hb), fun q nq => ?_⟩
    refine ⟨by show 3 ≤ sizeLine; decide, fun p np => ?_⟩
    have el : ((x.map V.int).length : Int) - ((lcp (x.drop (st x y)).reverse (y.drop (st x y)).reverse : Nat) : Int) = ((x.length - en x y : Nat) : Int) := by
      rw [List.length_map]; exact subNat (b := en x y) (by omega)
    have em : ((y.map V.int).length : Int) - ((lcp (x.drop (st x y)).reverse (y.drop (st x y)).reverse : Nat) : Int) = ((y.length - en x y : Nat) : Int) := by
      rw [List.length_map]; exact subNat (b := en x y) (by omega)
    have e3 : cutV (y.map V.int) (some ((lcp x y : Nat) : Int)) (some ((y.length - en x y : Nat) : Int)) = (mid x y).map V.int := by
      rw [cut_mid (by rw [List.length_map]; exact hsy) (by rw [List.length_map]; omega), ← List.map_take, ← List.map_drop]; rfl
    have npq : q ≠ p := ne_of_none upd_same np
    refine k _ p q (sameNew (sameNew t5 nq) np) (t5.free (Same.free (sameNew (Same.refl _) nq) np)) (t5.free nq) ?_ ?_
    · rw [upd_ne npq, upd_same, em, e3]
    · rw [upd_same]
      dsimp only
      rw [el]
      rfl
theorem ok_lpS {f : Addr} {fd : FuncData} (F : Fun K "least_patch" "least_patch" sLp f fd) (T : Txt mg) (C : Cl P w K mg base 1 "common_beginning" ["one", "other"] spCbS) : FnOk P w K mg base CX0 2 f fd ["old", "new"] spLpS := by
  refine F.ok scLp (fun vs H Q E h => ?_) (fun cdv A outer s H vs Q E hr h => ?_)
  · obtain ⟨x, y, rfl, _⟩ := h
    rfl
  · obtain ⟨x, y, rfl, lx, ly, k⟩ := h
    have big : 1000 ≤ sizeLine := by decide
    refine ⟨_, pss_cons (ps_set (i := 2) scLp.nd rfl (Or.inl rfl) (pe_cl C hr (by decide) rfl (pa_cons (pv 0) (pa_cons (pv 1) pa_nil))))
      (pss_cons (ps_par (i := 3) (j := 4) (by rfl) scLp.nd rfl rfl (by decide) rfl rfl (pa_cons (pe_slice sl_str (pv 0) (po_some (pv 2)) po_none) (pa_cons (pe_slice sl_str (pv 1) (po_some (pv 2)) po_none) pa_nil)) (by rfl))
      (pss_cons (ps_set (i := 5) scLp.nd rfl (Or.inl rfl) (pe_cl C hr (by decide) rfl (pa_cons (pe_revS (pv 3)) (pa_cons (pe_revS (pv 4)) pa_nil))))
      (pss_one (ps_ret (pe_tup (pa_cons (pv 2) (pa_cons (pe_op op_sub (pe_callB call_len_str (by rfl) T.len PySem.boot_len (pa_cons (pv 0) pa_nil)) (pv 5))
        (pa_cons (pe_slice sl_str (pv 1) (po_some (pv 2)) (po_some (pe_op op_sub (pe_callB call_len_str (by rfl) T.len PySem.boot_len (pa_cons (pv 1) pa_nil)) (pv 5)))) pa_nil)))))))), ?_⟩
    have hsx := st_l x y
    have hsy := st_r x y
    have hex := en_l x y
    have hey := en_r x y
    have zx : (mkS x).length ≤ sizeLine := by rw [mkS_len]; omega
    have zy : (mkS y).length ≤ sizeLine := by rw [mkS_len]; omega
    refine ⟨_, rfl, _, rfl, x, y, rfl, fun H1 s1 => ?_⟩
    refine ⟨_, rfl, _, rfl, _, rfl, _, rfl, zx, ?_⟩
    have e1 : cutS (mkS x) (some ((lcp x y : Nat) : Int)) none = mkS (x.drop (st x y)) := cutS_from hsx
    have e2 : cutS (mkS y) (some ((lcp x y : Nat) : Int)) none = mkS (y.drop (st x y)) := cutS_from hsy
    rw [e1]
    refine ⟨_, rfl, _, rfl, _, rfl, _, rfl, zy, ?_⟩
    rw [e2]
    refine ⟨_, _, rfl, ?_⟩
    refine ⟨_, rfl, x.drop (st x y), rfl, by rw [List.length_drop]; omega, ?_⟩
    refine ⟨_, rfl, y.drop (st x y), rfl, by rw [List.length_drop]; omega, ?_⟩
    refine ⟨_, _, rfl, fun H2 s2 => ?_⟩
    have t5 := s1.trans s2
    refine ⟨_, rfl, _, rfl, _, rfl, zx, _, rfl, _, _, rfl, rfl, ?_⟩
    refine ⟨_, rfl, _, rfl, _, rfl, _, rfl, _, rfl, zy, _, rfl, _, _, rfl, rfl, _, rfl, _, rfl, zy, ?_⟩
    refine ⟨by show 3 ≤ sizeLine; decide, fun p np => ?_⟩
    have el : ((mkS x).length : Int) - ((lcp (x.drop (st x y)).reverse (y.drop (st x y)).reverse : Nat) : Int) = ((x.length - en x y : Nat) : Int) := by
      rw [mkS_len]; exact subNat (b := en x y) (by omega)
    have em : ((mkS y).length : Int) - ((lcp (x.drop (st x y)).reverse (y.drop (st x y)).reverse : Nat) : Int) = ((y.length - en x y : Nat) : Int) := by
      rw [mkS_len]; exact subNat (b := en x y) (by omega)
    have e3 : cutS (mkS y) (some ((lcp x y : Nat) : Int)) (some ((y.length - en x y : Nat) : Int)) = mkS (mid x y) :=
      cutS_mid hsy (by omega)
    refine k _ p (sameNew t5 np) (t5.free np) ?_
    rw [upd_same]
    dsimp only
    rw [el, em, e3]
    rfl
end
end Pt

namespace Pt
open PySem L2 Pr Pm
theorem psImp {X : Cx} {s : Stmt} {t t' : TS} (h : PS X s t) (i : ∀ D σ H, t' D σ H → t D σ H) : PS X s t' := ⟨fun pins s σ H D I hw => h.run pins s σ H D I (i D σ H hw)⟩
theorem psImp' {X : Cx} {s : Stmt} (t' : TS) {t : TS} (h : PS X s t) (i : ∀ D σ H, t' D σ H → t D σ H) : PS X s t' := psImp h i
section
variable {K : PySem.W.Frag} {base : Heap} {P : Program} {w : World} {mg : Str → Option Value}
theorem scPa : FnScope ["_law_old", "_law_new", "_law_start", "_law_same"] ["_law_old", "_law_new"] (defScope sPatch) := ⟨rfl, rfl, rfl, by decide +kernel, rfl, by decide +kernel, by decide +kernel⟩
/-- the slots in the first loop, in the second -/
abbrev sg (a b : V) (i j : Nat) : L2.St := [some a, some b, some (.int (i : Int)), some (.int (j : Int))]
def tL1 (H0 : Hp) (a b : V) (s : Nat) : TS := fun D σ H => σ = sg a b 0 0 ∧ Same H0 H ∧ ∀ H', Same H0 H' → D.nx (sg a b s 0) H'
def tL2 (H0 : Hp) (a b : V) (s e : Nat) : TS := fun D σ H => σ = sg a b s 0 ∧ Same H0 H ∧ ∀ H', Same H0 H' → D.nx (sg a b s e) H'
theorem min_nat (a b : Nat) : (if (b : Int) < (a : Int) then (b : Int) else (a : Int)) = ((min a b : Nat) : Int) := by
  by_cases h : (b : Int) < (a : Int)
  · rw [if_pos h]; omega
  · rw [if_neg h]; omega
theorem ok_paL {f : Addr} {fd : FuncData} (F : Fun K "_law_patch" "_law_patch" sPatch f fd) (T : Txt mg) : FnOk P w K mg base CX0 1 f fd ["_law_old", "_law_new"] spLpL := by
  refine F.ok scPa (fun vs H Q E h => ?_) (fun cdv A outer s H vs Q E hr h => ?_)
  · obtain ⟨a, b, x, y, rfl, _⟩ := h
    rfl
  · obtain ⟨a, b, x, y, rfl, ha, hb, k⟩ := h
    refine ⟨_, pss_cons (ps_asg (pe_tup (pa_cons pe_int (pa_cons pe_int pa_nil))) (pg_tup rfl (pgs_cons (pg_name (i := 2) scPa.nd rfl (Or.inl rfl)) (pgs_cons (pg_name (i := 3) scPa.nd rfl (Or.inl rfl)) pgs_nil))))
      (pss_cons (psImp' (tL1 H (.ref a) (.ref b) (st x y)) (ps_while PassesOwn.never
          (PW.pt (pw_and (pt_cmpR op_lt (pv 2) (pe_callB call_len_seq (by rfl) T.len PySem.boot_len (pa_cons (pv 0) pa_nil)) (nomark _))
            (pw_and (pt_cmpR op_lt (pv 2) (pe_callB call_len_seq (by rfl) T.len PySem.boot_len (pa_cons (pv 1) pa_nil)) (nomark _))
            (pw_and1 (pt_cmpR op_eq (pe_ix ix_list (pv 0) (pv 2) (fun _ _ => rfl)) (pe_ix ix_list (pv 1) (pv 2) (fun _ _ => rfl)) (nomark _))))))
          (pss_one (ps_set (i := 2) scPa.nd rfl (Or.inl rfl) (pe_op op_add (pv 2) pe_int)))) ?L1)
      (pss_cons (psImp' (tL2 H (.ref a) (.ref b) (st x y) (en x y)) (ps_while PassesOwn.never
          (PW.pt (pw_and (pt_cmpR op_lt (pv 3) (pe_op op_sub (pe_callB (call_min2 rfl) (by rfl) T.min (by decide +kernel) (pa_cons (pe_callB call_len_seq (by rfl) T.len PySem.boot_len (pa_cons (pv 0) pa_nil))
              (pa_cons (pe_callB call_len_seq (by rfl) T.len PySem.boot_len (pa_cons (pv 1) pa_nil)) pa_nil))) (pv 2)) (nomark _))
            (pw_and1 (pt_cmpR op_eq (pe_ix ix_list (pv 0) (pe_op op_sub (pe_op op_sub (pe_callB call_len_seq (by rfl) T.len PySem.boot_len (pa_cons (pv 0) pa_nil)) pe_int) (pv 3)) (fun _ _ => rfl))
              (pe_ix ix_list (pv 1) (pe_op op_sub (pe_op op_sub (pe_callB call_len_seq (by rfl) T.len PySem.boot_len (pa_cons (pv 1) pa_nil)) pe_int) (pv 3)) (fun _ _ => rfl)) (nomark _)))))
          (pss_one (ps_set (i := 3) scPa.nd rfl (Or.inl rfl) (pe_op op_add (pv 3) pe_int)))) ?L2)
      (pss_one (ps_ret (pe_tup (pa_cons (pv 2) (pa_cons (pe_op op_sub (pe_callB call_len_seq (by rfl) T.len PySem.boot_len (pa_cons (pv 0) pa_nil)) (pv 3))
        (pa_cons (pe_slice sl_list (pv 1) (po_some (pv 2)) (po_some (pe_op op_sub (pe_callB call_len_seq (by rfl) T.len PySem.boot_len (pa_cons (pv 1) pa_nil)) (pv 3)))) pa_nil)))))))), ?R⟩
    case L1 =>
      rintro D σ H0 ⟨rfl, s0, nxt⟩
      refine ⟨fun m σ H1 => ∃ i : Nat, m = x.length - i ∧ i ≤ lcp x y ∧ σ = sg (.ref a) (.ref b) i 0 ∧ Same H H1, ⟨_, 0, rfl, Nat.zero_le _, rfl, s0⟩, ?_⟩
      rintro m σ H1 ⟨i, rfl, hi, rfl, s1⟩
      have stop : lcp x y = i → D.nx (sg (.ref a) (.ref b) i 0) H1 := fun e => by
        have z := nxt H1 s1
        rw [show st x y = i from e] at z
        exact z
      refine ⟨_, rfl, _, rfl, a, _, rfl, .inl (SqL.of (s1 _ _ ha)), _, _, rfl, rfl, _, rfl, ?_⟩
      refine ite2 (fun c1 => ?_) (fun c1 => iteF (stop ?_))
      · have h1 : i < x.length := by
          have := of_decide_eq_true c1
          rw [List.length_map] at this
          omega
        refine ⟨_, rfl, _, rfl, b, _, rfl, .inl (SqL.of (s1 _ _ hb)), _, _, rfl, rfl, _, rfl, ?_⟩
        refine ite2 (fun c2 => ?_) (fun c2 => iteF (stop ?_))
        · have h2 : i < y.length := by
            have := of_decide_eq_true c2
            rw [List.length_map] at this
            omega
          refine ⟨_, rfl, _, rfl, a, _, _, .int x[i], rfl, rfl, SqL.of (s1 _ _ ha), atI_nat (by rw [List.getElem?_map, List.getElem?_eq_getElem h1]; rfl), ?_⟩
          refine ⟨_, rfl, _, rfl, b, _, _, .int y[i], rfl, rfl, SqL.of (s1 _ _ hb), atI_nat (by rw [List.getElem?_map, List.getElem?_eq_getElem h2]; rfl), ?_⟩
          refine ⟨rfl, _, rfl, ?_⟩
          refine ite2 (fun c3 => ?_) (fun c3 => stop ?_)
          · have e : x[i] = y[i] := V.int.inj (of_decide_eq_true c3)
            refine ⟨fun σ H2 => ∃ i' : Nat, x.length - i' < x.length - i ∧ i' ≤ lcp x y ∧ σ = sg (.ref a) (.ref b) i' 0 ∧ Same H H2, ?_, ?_⟩
            · rintro σ' H' ⟨i', l, r⟩
              exact ⟨_, l, i', rfl, r⟩
            · refine ⟨_, rfl, _, _, rfl, rfl, i + 1, by omega, ?_, rfl, s1⟩
              exact lcp_go i x y y[i] hi (by rw [List.getElem?_eq_getElem h1, e]) (List.getElem?_eq_getElem h2)
          · have e : ¬ x[i] = y[i] := fun e => c3 (decide_eq_true (by rw [e]))
            exact lcp_stop i x y _ _ hi (List.getElem?_eq_getElem h1) (List.getElem?_eq_getElem h2) e
        · have h2 : y.length ≤ i := by
            have q : ¬ ((i : Int) < ((y.map V.int).length : Int)) := fun q => c2 (decide_eq_true q)
            rw [List.length_map] at q
            omega
          exact lcp_end hi (.inr h2)
      · have h2 : x.length ≤ i := by
          have q : ¬ ((i : Int) < ((x.map V.int).length : Int)) := fun q => c1 (decide_eq_true q)
          rw [List.length_map] at q
          omega
        exact lcp_end hi (.inl h2)
    case L2 =>
      rintro D σ H0 ⟨rfl, s0, nxt⟩
      have hsx := st_l x y
      have hsy := st_r x y
      refine ⟨fun m σ H1 => ∃ i : Nat, m = x.length - i ∧ i ≤ en x y ∧ σ = sg (.ref a) (.ref b) (st x y) i ∧ Same H H1, ⟨_, 0, rfl, Nat.zero_le _, rfl, s0⟩, ?_⟩
      rintro m σ H1 ⟨i, rfl, hi, rfl, s1⟩
      have stop : en x y = i → D.nx (sg (.ref a) (.ref b) (st x y) i) H1 := fun e => by
        have z := nxt H1 s1
        rw [e] at z
        exact z
      refine ⟨_, rfl, _, rfl, a, _, rfl, .inl (SqL.of (s1 _ _ ha)), _, rfl, b, _, rfl, .inl (SqL.of (s1 _ _ hb)), _, _, rfl, _, rfl, _, _, rfl, rfl, _, _, rfl, rfl, _, rfl, ?_⟩
      rw [List.length_map, List.length_map, min_nat]
      refine ite2 (fun c1 => ?_) (fun c1 => stop ?_)
      · have h1 : i + st x y < min x.length y.length := by
          have := of_decide_eq_true c1
          omega
        have gx : x.length - 1 - i < x.length := by omega
        have gy : y.length - 1 - i < y.length := by omega
        refine ⟨_, rfl, _, rfl, a, _, rfl, .inl (SqL.of (s1 _ _ ha)), _, _, rfl, rfl, _, rfl, _, _, rfl, rfl, a, _, _, .int x[x.length - 1 - i], rfl, rfl, SqL.of (s1 _ _ ha), ?_, ?_⟩
        · rw [List.length_map, show ((x.length : Nat) : Int) - 1 - (i : Int) = ((x.length - 1 - i : Nat) : Int) by omega]
          exact atI_nat (by rw [List.getElem?_map, List.getElem?_eq_getElem gx]; rfl)
        refine ⟨_, rfl, _, rfl, b, _, rfl, .inl (SqL.of (s1 _ _ hb)), _, _, rfl, rfl, _, rfl, _, _, rfl, rfl, b, _, _, .int y[y.length - 1 - i], rfl, rfl, SqL.of (s1 _ _ hb), ?_, ?_⟩
        · rw [List.length_map, show ((y.length : Nat) : Int) - 1 - (i : Int) = ((y.length - 1 - i : Nat) : Int) by omega]
          exact atI_nat (by rw [List.getElem?_map, List.getElem?_eq_getElem gy]; rfl)
        have bx : (x.drop (st x y)).reverse[i]? = some x[x.length - 1 - i] := by
          rw [back_get (by omega), List.getElem?_eq_getElem gx]
        have bY : (y.drop (st x y)).reverse[i]? = some y[y.length - 1 - i] := by
          rw [back_get (by omega), List.getElem?_eq_getElem gy]
        refine ⟨rfl, _, rfl, ?_⟩
        refine ite2 (fun c3 => ?_) (fun c3 => stop ?_)
        · have e : x[x.length - 1 - i] = y[y.length - 1 - i] := V.int.inj (of_decide_eq_true c3)
          refine ⟨fun σ H2 => ∃ i' : Nat, x.length - i' < x.length - i ∧ i' ≤ en x y ∧ σ = sg (.ref a) (.ref b) (st x y) i' ∧ Same H H2, ?_, ?_⟩
          · rintro σ' H' ⟨i', l, r⟩
            exact ⟨_, l, i', rfl, r⟩
          · refine ⟨_, rfl, _, _, rfl, rfl, i + 1, by omega, ?_, rfl, s1⟩
            exact lcp_go i _ _ _ hi (by rw [bx, e]) bY
        · have e : ¬ x[x.length - 1 - i] = y[y.length - 1 - i] := fun e => c3 (decide_eq_true (by rw [e]))
          exact lcp_stop i _ _ _ _ hi bx bY e
      · have h2 : min x.length y.length ≤ i + st x y := by
          have q : ¬ ((i : Int) < ((min x.length y.length : Nat) : Int) - ((st x y : Nat) : Int)) := fun q => c1 (decide_eq_true q)
          omega
        refine lcp_end hi ?_
        rw [List.length_reverse, List.length_reverse, List.length_drop, List.length_drop]
        omega
    case R =>
      have hsx := st_l x y
      have hsy := st_r x y
      have hex := en_l x y
      have hey := en_r x y
      refine ⟨by show 2 ≤ sizeLine; decide, fun p0 n0 => ⟨p0, _, rfl, SqT.of upd_same, rfl, _, _, rfl, _, _, rfl, rfl, rfl, sameNew (Same.refl H) n0, fun H1 s1 => ⟨rfl, s1, fun H2 t5 => ?_⟩⟩⟩
      refine ⟨_, rfl, _, rfl, a, _, rfl, .inl (SqL.of (t5 _ _ ha)), _, rfl, _, _, rfl, rfl, ?_⟩
      refine ⟨_, rfl, _, rfl, _, rfl, _, rfl, b, _, rfl, .inl (SqL.of (t5 _ _ hb)), _, rfl, _, _, rfl, rfl, _, rfl, b, _, rfl, SqL.of (t5 _ _ hb), fun q nq => ?_⟩
      refine ⟨by show 3 ≤ sizeLine; decide, fun p np => ?_⟩
      have el : ((x.map V.int).length : Int) - ((en x y : Nat) : Int) = ((x.length - en x y : Nat) : Int) := by
        rw [List.length_map]; exact subNat (by omega)
      have em : ((y.map V.int).length : Int) - ((en x y : Nat) : Int) = ((y.length - en x y : Nat) : Int) := by
        rw [List.length_map]; exact subNat (by omega)
      have e3 : cutV (y.map V.int) (some ((st x y : Nat) : Int)) (some ((y.length - en x y : Nat) : Int)) = (mid x y).map V.int := by
        rw [cut_mid (by rw [List.length_map]; exact hsy) (by rw [List.length_map]; omega), ← List.map_take, ← List.map_drop]; rfl
      have npq : q ≠ p := ne_of_none upd_same np
      refine k _ p q (sameNew (sameNew t5 nq) np) (t5.free (Same.free (sameNew (Same.refl _) nq) np)) (t5.free nq) ?_ ?_
      · rw [upd_ne npq, upd_same, em, e3]
      · rw [upd_same]
        dsimp only
        rw [el]
theorem ok_paS {f : Addr} {fd : FuncData} (F : Fun K "_law_patch" "_law_patch" sPatch f fd) (T : Txt mg) : FnOk P w K mg base CX0 1 f fd ["_law_old", "_law_new"] spLpS := by
  refine F.ok scPa (fun vs H Q E h => ?_) (fun cdv A outer s H vs Q E hr h => ?_)
  · obtain ⟨x, y, rfl, _⟩ := h
    rfl
  · obtain ⟨x, y, rfl, lx, ly, k⟩ := h
    have big : 1000 ≤ sizeLine := by decide
    have zx : (mkS x).length ≤ sizeLine := by rw [mkS_len]; omega
    have zy : (mkS y).length ≤ sizeLine := by rw [mkS_len]; omega
    refine ⟨_, pss_cons (ps_asg (pe_tup (pa_cons pe_int (pa_cons pe_int pa_nil))) (pg_tup rfl (pgs_cons (pg_name (i := 2) scPa.nd rfl (Or.inl rfl)) (pgs_cons (pg_name (i := 3) scPa.nd rfl (Or.inl rfl)) pgs_nil))))
      (pss_cons (psImp' (tL1 H (.str (mkS x)) (.str (mkS y)) (st x y)) (ps_while PassesOwn.never
          (PW.pt (pw_and (pt_cmpR op_lt (pv 2) (pe_callB call_len_str (by rfl) T.len PySem.boot_len (pa_cons (pv 0) pa_nil)) (nomark _))
            (pw_and (pt_cmpR op_lt (pv 2) (pe_callB call_len_str (by rfl) T.len PySem.boot_len (pa_cons (pv 1) pa_nil)) (nomark _))
            (pw_and1 (pt_cmpR op_eq (pe_ix ix_str (pv 0) (pv 2) (fun _ _ => rfl)) (pe_ix ix_str (pv 1) (pv 2) (fun _ _ => rfl)) (nomark _))))))
          (pss_one (ps_set (i := 2) scPa.nd rfl (Or.inl rfl) (pe_op op_add (pv 2) pe_int)))) ?L1)
      (pss_cons (psImp' (tL2 H (.str (mkS x)) (.str (mkS y)) (st x y) (en x y)) (ps_while PassesOwn.never
          (PW.pt (pw_and (pt_cmpR op_lt (pv 3) (pe_op op_sub (pe_callB (call_min2 rfl) (by rfl) T.min (by decide +kernel) (pa_cons (pe_callB call_len_str (by rfl) T.len PySem.boot_len (pa_cons (pv 0) pa_nil))
              (pa_cons (pe_callB call_len_str (by rfl) T.len PySem.boot_len (pa_cons (pv 1) pa_nil)) pa_nil))) (pv 2)) (nomark _))
            (pw_and1 (pt_cmpR op_eq (pe_ix ix_str (pv 0) (pe_op op_sub (pe_op op_sub (pe_callB call_len_str (by rfl) T.len PySem.boot_len (pa_cons (pv 0) pa_nil)) pe_int) (pv 3)) (fun _ _ => rfl))
              (pe_ix ix_str (pv 1) (pe_op op_sub (pe_op op_sub (pe_callB call_len_str (by rfl) T.len PySem.boot_len (pa_cons (pv 1) pa_nil)) pe_int) (pv 3)) (fun _ _ => rfl)) (nomark _)))))
          (pss_one (ps_set (i := 3) scPa.nd rfl (Or.inl rfl) (pe_op op_add (pv 3) pe_int)))) ?L2)
      (pss_one (ps_ret (pe_tup (pa_cons (pv 2) (pa_cons (pe_op op_sub (pe_callB call_len_str (by rfl) T.len PySem.boot_len (pa_cons (pv 0) pa_nil)) (pv 3))
        (pa_cons (pe_slice sl_str (pv 1) (po_some (pv 2)) (po_some (pe_op op_sub (pe_callB call_len_str (by rfl) T.len PySem.boot_len (pa_cons (pv 1) pa_nil)) (pv 3)))) pa_nil)))))))), ?R⟩
    case L1 =>
      rintro D σ H0 ⟨rfl, s0, nxt⟩
      refine ⟨fun m σ H1 => ∃ i : Nat, m = x.length - i ∧ i ≤ lcp x y ∧ σ = sg (.str (mkS x)) (.str (mkS y)) i 0 ∧ Same H H1, ⟨_, 0, rfl, Nat.zero_le _, rfl, s0⟩, ?_⟩
      rintro m σ H1 ⟨i, rfl, hi, rfl, s1⟩
      have stop : lcp x y = i → D.nx (sg (.str (mkS x)) (.str (mkS y)) i 0) H1 := fun e => by
        have z := nxt H1 s1
        rw [show st x y = i from e] at z
        exact z
      refine ⟨_, rfl, _, rfl, _, rfl, zx, _, _, rfl, rfl, _, rfl, ?_⟩
      refine ite2 (fun c1 => ?_) (fun c1 => iteF (stop ?_))
      · have h1 : i < x.length := by
          have := of_decide_eq_true c1
          rw [mkS_len] at this
          omega
        refine ⟨_, rfl, _, rfl, _, rfl, zy, _, _, rfl, rfl, _, rfl, ?_⟩
        refine ite2 (fun c2 => ?_) (fun c2 => iteF (stop ?_))
        · have h2 : i < y.length := by
            have := of_decide_eq_true c2
            rw [mkS_len] at this
            omega
          refine ⟨_, rfl, _, rfl, _, _, x[i], rfl, rfl, zx, atI_nat (List.getElem?_eq_getElem h1), ?_⟩
          refine ⟨_, rfl, _, rfl, _, _, y[i], rfl, rfl, zy, atI_nat (List.getElem?_eq_getElem h2), ?_⟩
          refine ⟨rfl, _, rfl, ?_⟩
          refine ite2 (fun c3 => ?_) (fun c3 => stop ?_)
          · have e : x[i] = y[i] := by
              have z := mkS_inj (l := [x[i]]) (m := [y[i]]) (V.str.inj (of_decide_eq_true c3))
              injection z
            refine ⟨fun σ H2 => ∃ i' : Nat, x.length - i' < x.length - i ∧ i' ≤ lcp x y ∧ σ = sg (.str (mkS x)) (.str (mkS y)) i' 0 ∧ Same H H2, ?_, ?_⟩
            · rintro σ' H' ⟨i', l, r⟩
              exact ⟨_, l, i', rfl, r⟩
            · refine ⟨_, rfl, _, _, rfl, rfl, i + 1, by omega, ?_, rfl, s1⟩
              exact lcp_go i x y y[i] hi (by rw [List.getElem?_eq_getElem h1, e]) (List.getElem?_eq_getElem h2)
          · have e : ¬ x[i] = y[i] := fun e => c3 (decide_eq_true (by rw [e]))
            exact lcp_stop i x y _ _ hi (List.getElem?_eq_getElem h1) (List.getElem?_eq_getElem h2) e
        · have h2 : y.length ≤ i := by
            have q : ¬ ((i : Int) < ((mkS y).length : Int)) := fun q => c2 (decide_eq_true q)
            rw [mkS_len] at q
            omega
          exact lcp_end hi (.inr h2)
      · have h2 : x.length ≤ i := by
          have q : ¬ ((i : Int) < ((mkS x).length : Int)) := fun q => c1 (decide_eq_true q)
          rw [mkS_len] at q
          omega
        exact lcp_end hi (.inl h2)
    case L2 =>
      rintro D σ H0 ⟨rfl, s0, nxt⟩
      have hsx := st_l x y
      have hsy := st_r x y
      refine ⟨fun m σ H1 => ∃ i : Nat, m = x.length - i ∧ i ≤ en x y ∧ σ = sg (.str (mkS x)) (.str (mkS y)) (st x y) i ∧ Same H H1, ⟨_, 0, rfl, Nat.zero_le _, rfl, s0⟩, ?_⟩
      rintro m σ H1 ⟨i, rfl, hi, rfl, s1⟩
      have stop : en x y = i → D.nx (sg (.str (mkS x)) (.str (mkS y)) (st x y) i) H1 := fun e => by
        have z := nxt H1 s1
        rw [e] at z
        exact z
      refine ⟨_, rfl, _, rfl, _, rfl, zx, _, rfl, _, rfl, zy, _, _, rfl, _, rfl, _, _, rfl, rfl, _, _, rfl, rfl, _, rfl, ?_⟩
      rw [mkS_len, mkS_len, min_nat]
      refine ite2 (fun c1 => ?_) (fun c1 => stop ?_)
      · have h1 : i + st x y < min x.length y.length := by
          have := of_decide_eq_true c1
          omega
        have gx : x.length - 1 - i < x.length := by omega
        have gy : y.length - 1 - i < y.length := by omega
        refine ⟨_, rfl, _, rfl, _, rfl, zx, _, _, rfl, rfl, _, rfl, _, _, rfl, rfl, _, _, x[x.length - 1 - i], rfl, rfl, zx, ?_, ?_⟩
        · rw [mkS_len, show ((x.length : Nat) : Int) - 1 - (i : Int) = ((x.length - 1 - i : Nat) : Int) by omega]
          exact atI_nat (List.getElem?_eq_getElem gx)
        refine ⟨_, rfl, _, rfl, _, rfl, zy, _, _, rfl, rfl, _, rfl, _, _, rfl, rfl, _, _, y[y.length - 1 - i], rfl, rfl, zy, ?_, ?_⟩
        · rw [mkS_len, show ((y.length : Nat) : Int) - 1 - (i : Int) = ((y.length - 1 - i : Nat) : Int) by omega]
          exact atI_nat (List.getElem?_eq_getElem gy)
        have bx : (x.drop (st x y)).reverse[i]? = some x[x.length - 1 - i] := by
          rw [back_get (by omega), List.getElem?_eq_getElem gx]
        have bY : (y.drop (st x y)).reverse[i]? = some y[y.length - 1 - i] := by
          rw [back_get (by omega), List.getElem?_eq_getElem gy]
        refine ⟨rfl, _, rfl, ?_⟩
        refine ite2 (fun c3 => ?_) (fun c3 => stop ?_)
        · have e : x[x.length - 1 - i] = y[y.length - 1 - i] := by
            have z := mkS_inj (l := [x[x.length - 1 - i]]) (m := [y[y.length - 1 - i]]) (V.str.inj (of_decide_eq_true c3))
            injection z
          refine ⟨fun σ H2 => ∃ i' : Nat, x.length - i' < x.length - i ∧ i' ≤ en x y ∧ σ = sg (.str (mkS x)) (.str (mkS y)) (st x y) i' ∧ Same H H2, ?_, ?_⟩
          · rintro σ' H' ⟨i', l, r⟩
            exact ⟨_, l, i', rfl, r⟩
          · refine ⟨_, rfl, _, _, rfl, rfl, i + 1, by omega, ?_, rfl, s1⟩
            exact lcp_go i _ _ _ hi (by rw [bx, e]) bY
        · have e : ¬ x[x.length - 1 - i] = y[y.length - 1 - i] := fun e => c3 (decide_eq_true (by rw [e]))
          exact lcp_stop i _ _ _ _ hi bx bY e
      · have h2 : min x.length y.length ≤ i + st x y := by
          have q : ¬ ((i : Int) < ((min x.length y.length : Nat) : Int) - ((st x y : Nat) : Int)) := fun q => c1 (decide_eq_true q)
          omega
        refine lcp_end hi ?_
        rw [List.length_reverse, List.length_reverse, List.length_drop, List.length_drop]
        omega
    case R =>
      have hsx := st_l x y
      have hsy := st_r x y
      have hex := en_l x y
      have hey := en_r x y
      refine ⟨by show 2 ≤ sizeLine; decide, fun p0 n0 => ⟨p0, _, rfl, SqT.of upd_same, rfl, _, _, rfl, _, _, rfl, rfl, rfl, sameNew (Same.refl H) n0, fun H1 s1 => ⟨rfl, s1, fun H2 t5 => ?_⟩⟩⟩
      refine ⟨_, rfl, _, rfl, _, rfl, zx, _, rfl, _, _, rfl, rfl, ?_⟩
      refine ⟨_, rfl, _, rfl, _, rfl, _, rfl, _, rfl, zy, _, rfl, _, _, rfl, rfl, _, rfl, _, rfl, zy, ?_⟩
      refine ⟨by show 3 ≤ sizeLine; decide, fun p np => ?_⟩
      have el : ((mkS x).length : Int) - ((en x y : Nat) : Int) = ((x.length - en x y : Nat) : Int) := by
        rw [mkS_len]; exact subNat (by omega)
      have em : ((mkS y).length : Int) - ((en x y : Nat) : Int) = ((y.length - en x y : Nat) : Int) := by
        rw [mkS_len]; exact subNat (by omega)
      have e3 : cutS (mkS y) (some ((st x y : Nat) : Int)) (some ((y.length - en x y : Nat) : Int)) = mkS (mid x y) :=
        cutS_mid hsy (by omega)
      refine k _ p (sameNew t5 np) (t5.free np) ?_
      rw [upd_same]
      dsimp only
      rw [el, em, e3]
end
end Pt

namespace Pt
open PySem L2 Pr Pm
/-- all stands but what is at b -/
def Keep (b : Addr) (H H' : Hp) : Prop := ∀ a o, a ≠ b → H a = some o → H' a = some o
theorem Keep.trans {b : Addr} {H H1 H2 : Hp} (h : Keep b H H1) (h' : Keep b H1 H2) : Keep b H H2 := fun a o n e => h' a o n (h a o n e)
theorem Keep.of {b : Addr} {H H' : Hp} (h : Same H H') : Keep b H H' := fun a o _ e => h a o e
theorem Keep.set {b : Addr} {H : Hp} {o : HO} : Keep b H (upd H b o) := fun a u n e => by rw [upd_ne n]; exact e
/-- a bag of draws at b, of which at most n were asked -/
def Bag (H : Hp) (b : Addr) (n : Nat) : Prop := ∃ d m k : Int, H b = some (Il [d, m, k]) ∧ 0 ≤ d ∧ 0 ≤ m ∧ m < 2305843009213693952 ∧ 0 ≤ k ∧ k ≤ (n : Int)
theorem Bag.mono {H : Hp} {b : Addr} {n m : Nat} (h : Bag H b n) (l : n ≤ m) : Bag H b m := by
  obtain ⟨d, u, k, h1, h2, h3, h4, h5, h6⟩ := h
  exact ⟨d, u, k, h1, h2, h3, h4, h5, by omega⟩
theorem Bag.same {H H' : Hp} {b : Addr} {n : Nat} (h : Bag H b n) (s : Same H H') : Bag H' b n := by
  obtain ⟨d, u, k, h1, r⟩ := h
  exact ⟨d, u, k, s _ _ h1, r⟩
def spBag (K : PySem.W.Frag) : Sp := fun vs H Q _ => ∃ (a : Addr) (i : Nat) (ns : List Int), vs = [.ref a, .int (i : Int)] ∧ SqL K H a (ns.map V.int) ∧ i ≤ 100 ∧
  ∀ H' p, Same H H' → H p = none → Bag H' p 0 → Q (.ref p) H'
def spTake : Sp := fun vs H Q _ => ∃ (b : Addr) (many : Int) (n : Nat), vs = [.ref b, .int many] ∧ Bag H b n ∧ n ≤ 1000000 ∧ 0 < many ∧ many < 1000 ∧
  ∀ H' r, Keep b H H' → Bag H' b (n + 1) → 0 ≤ r → r < many → Q (.int r) H'
def spOf : Sp := fun vs H Q _ => ∃ (b l : Addr) (ws : List Int) (n : Nat), vs = [.ref b, .ref l] ∧ Bag H b n ∧ n ≤ 1000000 ∧ l ≠ b ∧ H l = some (Il ws) ∧ 0 < ws.length ∧ ws.length < 1000 ∧
  ∀ H' v, Keep b H H' → Bag H' b (n + 1) → v ∈ ws → Q (.int v) H'
theorem fix_abs (c : Int) : 0 ≤ (if c < 0 then -c else c) := by
  split <;> omega
theorem natAbs_lt {i : Int} {n : Nat} (h0 : 0 ≤ i) (h : i < (n : Int)) : i.natAbs < n := by omega
section
variable {K : PySem.W.Frag} {base : Heap} {P : Program} {w : World} {mg : Str → Option Value}
theorem scBa : FnScope ["_law_script", "_law_at", "_law_cell", "_law_digits"] ["_law_script", "_law_at"] (defScope sBag) := ⟨rfl, rfl, rfl, by decide +kernel, rfl, by decide +kernel, by decide +kernel⟩
theorem ok_bag {f : Addr} {fd : FuncData} (F : Fun K "_law_bag" "_law_bag" sBag f fd) (T : Txt mg) : FnOk P w K mg base CX0 1 f fd ["_law_script", "_law_at"] (spBag K) := by
  refine F.ok scBa (fun vs H Q E h => ?_) (fun cdv A outer s H vs Q E hr h => ?_)
  · obtain ⟨a, i, ns, rfl, _⟩ := h
    rfl
  · obtain ⟨a, i, ns, rfl, ha, hi, k⟩ := h
    refine ⟨_, pss_cons (psImp' (fun D σ H0 => σ = [some (.ref a), some (.int (i : Int)), none, none] ∧ H0 = H ∧ ∀ c : Int, D.nx [some (.ref a), some (.int (i : Int)), some (.int c), none] H)
        (ps_set (i := 2) scBa.nd rfl (Or.inl rfl) (pe_ifExp (pt_cmpR op_lt (pv 1) (pe_callB call_len_seq (by rfl) T.len PySem.boot_len (pa_cons (pv 0) pa_nil)) (nomark _)) (pe_ix ix_list (pv 0) (pv 1) (fun _ _ => rfl)) pe_int)) ?C1)
      (pss_cons (psImp' (fun D σ H0 => ∃ c : Int, σ = [some (.ref a), some (.int (i : Int)), some (.int c), none] ∧ H0 = H ∧ ∀ d : Int, 0 ≤ d → D.nx [some (.ref a), some (.int (i : Int)), some (.int c), some (.int d)] H)
        (ps_set (i := 3) scBa.nd rfl (Or.inl rfl) (pe_ifExp (pt_cmpR op_ge (pe_callB call_abs (by rfl) T.abs (by decide +kernel) (pa_cons (pv 2) pa_nil)) (pe_op op_pow pe_int pe_int) (nomark _))
          (pe_callB call_abs (by rfl) T.abs (by decide +kernel) (pa_cons (pv 2) pa_nil)) pe_int)) ?C2)
      (pss_one (ps_ret (pe_lst (pa_cons (pv 3) (pa_cons (pe_op op_mod (pe_op op_mul (pe_op op_add (pe_op op_add (pe_op op_mod (pv 2) pe_int) (pe_op op_mul pe_int (pv 1))) pe_int) pe_int) pe_int) (pa_cons pe_int pa_nil))))))), ?R⟩
    case C1 =>
      rintro D σ H0 ⟨rfl, rfl, nxt⟩
      refine ⟨_, rfl, _, rfl, a, _, rfl, .inl ha, _, _, rfl, rfl, _, rfl, ?_⟩
      refine ite2 (fun c1 => ?_) (fun _ => ?_)
      · have h1 : i < ns.length := by
          have := of_decide_eq_true c1
          rw [List.length_map] at this
          omega
        exact ⟨_, rfl, _, rfl, a, _, _, .int ns[i], rfl, rfl, ha, atI_nat (by rw [List.getElem?_map, List.getElem?_eq_getElem h1]; rfl), nxt _⟩
      · exact nxt 0
    case C2 =>
      rintro D σ H0 ⟨c, rfl, rfl, nxt⟩
      refine ⟨_, rfl, _, rfl, _, _, rfl, rfl, ⟨by decide, by decide, by decide⟩, _, _, rfl, rfl, _, rfl, ?_⟩
      refine ite2 (fun _yes => ?_) (fun _no => ?_)
      · exact ⟨_, rfl, _, rfl, nxt _ (fix_abs c)⟩
      · exact nxt 0 (Int.le_refl _)
    case R =>
      refine ⟨rfl, rfl, fun c => ⟨c, rfl, rfl, fun d hd => ?_⟩⟩
      refine ⟨_, rfl, _, rfl, _, _, rfl, rfl, (show (0 : Int) < 2305843009213693951 by decide), _, rfl, _, _, rfl, rfl, .inl ⟨by decide, by decide⟩, _, _, rfl, rfl, _, _, rfl, rfl, _, _, rfl, rfl, .inr ⟨by decide, by decide⟩, _, _, rfl, rfl, (show (0 : Int) < 2305843009213693951 by decide), ?_⟩
      refine ⟨by show 3 ≤ sizeLine; decide, fun p hp => ?_⟩
      refine k _ p (sameNew (Same.refl H) hp) hp ⟨_, _, 0, upd_same, hd, Int.emod_nonneg _ (by decide), ?_, Int.le_refl _, Int.le_refl _⟩
      exact Int.lt_trans (Int.emod_lt_of_pos _ (by decide)) (by decide)
theorem scTa : FnScope ["_law_bag_here", "_law_many", "_law_digit", "_law_mixed"] ["_law_bag_here", "_law_many"] (defScope sTake) := ⟨rfl, rfl, rfl, by decide +kernel, rfl, by decide +kernel, by decide +kernel⟩
theorem ok_take {f : Addr} {fd : FuncData} (F : Fun K "_law_take" "_law_take" sTake f fd) (T : Txt mg) : FnOk P w K mg base CX0 1 f fd ["_law_bag_here", "_law_many"] spTake := by
  refine F.ok scTa (fun vs H Q E h => ?_) (fun cdv A outer s H vs Q E hr h => ?_)
  · obtain ⟨b, many, n, rfl, _⟩ := h
    rfl
  · obtain ⟨b, many, n, rfl, ⟨d, m, c, hb, h1, h2, h3, h4, h5⟩, hn, m0, m1, k⟩ := h
    refine ⟨_, pss_cons (ps_if (pt_cmpR op_gt (pe_ix ix_list (pv 0) pe_int (fun _ _ => rfl)) pe_int (nomark _))
        (pss_cons (ps_set (i := 2) scTa.nd rfl (Or.inl rfl) (pe_op op_mod (pe_ix ix_list (pv 0) pe_int (fun _ _ => rfl)) (pv 1)))
        (pss_cons (ps_asg (pe_op op_fdiv (pe_ix ix_list (pv 0) pe_int (fun _ _ => rfl)) (pv 1)) (pg_sub (pv 0) pe_int set_list))
        (pss_one (ps_ret (pv 2))))) pss_nil)
      (pss_cons (ps_asg (pe_op op_add (pe_ix ix_list (pv 0) pe_int (fun _ _ => rfl)) pe_int) (pg_sub (pv 0) pe_int set_list))
      (pss_cons (ps_set (i := 3) scTa.nd rfl (Or.inl rfl) (pe_op op_mod (pe_op op_pow (pe_op op_add (pe_ix ix_list (pv 0) pe_int (fun _ _ => rfl)) (pe_op op_mul pe_int (pe_ix ix_list (pv 0) pe_int (fun _ _ => rfl)))) pe_int) pe_int))
      (pss_cons (ps_set (i := 3) scTa.nd rfl (Or.inl rfl) (pe_op op_mod (pe_op op_pow (pe_op op_add (pv 3) (pe_op op_mul pe_int (pe_ix ix_list (pv 0) pe_int (fun _ _ => rfl)))) pe_int) pe_int))
      (pss_one (ps_ret (pe_op op_mod (pe_op op_fdiv (pv 3) pe_int) (pv 1))))))), ?_⟩
    have at0 : ∀ d m c : Int, atI (List.map V.int [d, m, c]) 0 = some (V.int d) := fun d m c => atI_nat (j := 0) rfl
    have at1 : ∀ d m c : Int, atI (List.map V.int [d, m, c]) 1 = some (V.int m) := fun d m c => atI_nat (j := 1) rfl
    have at2 : ∀ d m c : Int, atI (List.map V.int [d, m, c]) 2 = some (V.int c) := fun d m c => atI_nat (j := 2) rfl
    refine ⟨_, rfl, b, _, _, _, rfl, rfl, SqL.of hb, at0 _ _ _, _, _, rfl, rfl, _, rfl, ?_⟩
    refine ite2 (fun _yes => ?_) (fun _no => ?_)
    · refine ⟨_, rfl, b, _, _, _, rfl, rfl, SqL.of hb, at0 _ _ _, _, rfl, _, _, rfl, rfl, m0, ?_⟩
      refine ⟨_, rfl, b, _, _, _, rfl, rfl, SqL.of hb, at0 _ _ _, _, rfl, _, _, rfl, rfl, ⟨m0, by omega⟩, ?_⟩
      refine ⟨_, rfl, b, _, _, 0, rfl, rfl, hb, rfl, ?_⟩
      refine ⟨_, rfl, k _ _ Keep.set ⟨d / many, m, c, upd_same, Int.ediv_nonneg h1 (by omega), h2, h3, h4, by omega⟩ (Int.emod_nonneg _ (by omega)) (Int.emod_lt_of_pos _ m0)⟩
    · refine ⟨_, rfl, b, _, _, _, rfl, rfl, SqL.of hb, at2 _ _ _, _, _, rfl, rfl, _, rfl, b, _, _, 2, rfl, rfl, hb, rfl, ?_⟩
      have hb2 : upd H b (.lst ((List.map V.int [d, m, c]).set 2 (.int (c + 1)))) b = some (Il [d, m, c + 1]) := upd_same
      have g1 : 0 ≤ m + 1000033 * (c + 1) := by omega
      have g2 : m + 1000033 * (c + 1) < ((2 ^ 64 : Nat) : Int) := by
        have e : ((2 ^ 64 : Nat) : Int) = 18446744073709551616 := by decide
        rw [e]; omega
      refine ⟨_, rfl, b, _, _, _, rfl, rfl, SqL.of hb2, at1 _ _ _, _, rfl, b, _, _, _, rfl, rfl, SqL.of hb2, at2 _ _ _, _, _, rfl, rfl, .inl ⟨by decide, by decide⟩, _, _, rfl, rfl, _, _, rfl, rfl, ⟨by decide, by decide, natAbs_lt g1 g2⟩, _, _, rfl, rfl, (show (0 : Int) < 2305843009213693921 by decide), ?_⟩
      generalize (m + 1000033 * (c + 1)) ^ (3 : Int).toNat = t
      have g3 := Int.emod_nonneg t (show (2305843009213693921 : Int) ≠ 0 by decide)
      have g4 := Int.emod_lt_of_pos t (show (0 : Int) < 2305843009213693921 by decide)
      have g5 : 0 ≤ t % 2305843009213693921 + 32452867 * (c + 1) := by omega
      have g6 : t % 2305843009213693921 + 32452867 * (c + 1) < ((2 ^ 64 : Nat) : Int) := by
        have e : ((2 ^ 64 : Nat) : Int) = 18446744073709551616 := by decide
        rw [e]; omega
      refine ⟨_, rfl, _, rfl, b, _, _, _, rfl, rfl, SqL.of hb2, at2 _ _ _, _, _, rfl, rfl, .inl ⟨by decide, by decide⟩, _, _, rfl, rfl, _, _, rfl, rfl, ⟨by decide, by decide, natAbs_lt g5 g6⟩, _, _, rfl, rfl, (show (0 : Int) < 2305843009213693951 by decide), ?_⟩
      refine ⟨_, rfl, _, _, rfl, rfl, ⟨by decide, by decide⟩, _, rfl, _, _, rfl, rfl, m0, ?_⟩
      exact k _ _ Keep.set ⟨d, m, c + 1, upd_same, h1, h2, h3, by omega, by omega⟩ (Int.emod_nonneg _ (by omega)) (Int.emod_lt_of_pos _ m0)
theorem scOf : FnScope ["_law_bag_here", "_law_some"] ["_law_bag_here", "_law_some"] (defScope sOf) := ⟨rfl, rfl, rfl, by decide +kernel, rfl, by decide +kernel, by decide +kernel⟩
theorem ok_of {f : Addr} {fd : FuncData} (F : Fun K "_law_of" "_law_of" sOf f fd) (T : Txt mg) (C : Cl P w K mg base 1 "_law_take" ["_law_bag_here", "_law_many"] spTake) : FnOk P w K mg base CX0 2 f fd ["_law_bag_here", "_law_some"] spOf := by
  refine F.ok scOf (fun vs H Q E h => ?_) (fun cdv A outer s H vs Q E hr h => ?_)
  · obtain ⟨b, l, ws, n, rfl, _⟩ := h
    rfl
  · obtain ⟨b, l, ws, n, rfl, hb, hn, nlb, hl, w0, w1, k⟩ := h
    refine ⟨_, pss_one (ps_ret (pe_ix ix_list (pv 1) (pe_cl C hr (by decide) rfl (pa_cons (pv 0) (pa_cons (pe_callB call_len_seq (by rfl) T.len PySem.boot_len (pa_cons (pv 1) pa_nil)) pa_nil))) (fun _ _ => rfl))), ?_⟩
    refine ⟨_, rfl, _, rfl, _, rfl, l, _, rfl, .inl (SqL.of hl), b, _, n, rfl, hb, hn, ?_, ?_, fun H1 r kp b1 r0 r1 => ?_⟩
    · rw [List.length_map]; omega
    · rw [List.length_map]; omega
    · rw [List.length_map] at r1
      have h1 : r.toNat < ws.length := by omega
      refine ⟨l, _, _, .int ws[r.toNat], rfl, rfl, SqL.of (kp _ _ nlb hl), ?_, k H1 _ kp b1 (List.getElem_mem h1)⟩
      have z : atI (ws.map V.int) ((r.toNat : Nat) : Int) = some (.int ws[r.toNat]) := atI_nat (by rw [List.getElem?_map, List.getElem?_eq_getElem h1]; rfl)
      rw [Int.toNat_of_nonneg r0] at z
      exact z
end
end Pt

namespace Pt
open PySem L2 Pr Pm
theorem keepNew {b p : Addr} {H H' : Hp} {o : HO} (h : Keep b H H') (n : H' p = none) : Keep b H (upd H' p o) := fun a u ne e => by
  have q := h a u ne e
  rw [upd_ne (ne_of_none q n)]
  exact q
theorem keepMut {b p : Addr} {H H' : Hp} {o : HO} (h : Keep b H H') (n : H p = none) : Keep b H (upd H' p o) := fun a u ne e => by
  rw [upd_ne (ne_of_none e n)]
  exact h a u ne e
theorem Keep.free {b p : Addr} {H H' : Hp} (h : Keep b H H') (ne : p ≠ b) (n : H' p = none) : H p = none := by
  cases e : H p with
  | none => rfl
  | some o => rw [h p o ne e] at n; cases n
theorem Bag.ne {H : Hp} {b p : Addr} {n : Nat} (h : Bag H b n) (q : H p = none) : p ≠ b := by
  rintro rfl
  obtain ⟨_, _, _, e, _⟩ := h
  rw [e] at q; cases q
theorem Bag.upd {H : Hp} {b p : Addr} {n : Nat} {o : HO} (h : Bag H b n) (q : p ≠ b) : Bag (upd H p o) b n := by
  obtain ⟨d, m, c, e, r⟩ := h
  exact ⟨d, m, c, by rw [upd_ne q.symm]; exact e, r⟩
theorem sizeBig {n : Nat} (h : n ≤ 1000) : n < sizeLine := small1000 h
def spDrawn : Sp := fun vs H Q _ => ∃ (b : Addr) (most n : Nat), vs = [.ref b, .int (most : Int)] ∧ Bag H b n ∧ n ≤ 900000 ∧ most ≤ 100 ∧
  ∀ H' p xs, Keep b H H' → Bag H' b (n + 1 + most) → H p = none → p ≠ b → H' p = some (Il xs) → xs.length ≤ most → (∀ v ∈ xs, 0 ≤ v ∧ v ≤ 2) → Q (.ref p) H'
section
variable {K : PySem.W.Frag} {base : Heap} {P : Program} {w : World} {mg : Str → Option Value}
theorem scDr : FnScope ["_law_bag_here", "_law_most", "_law_turn"] ["_law_bag_here", "_law_most"] (defScope sDrawn) := ⟨rfl, rfl, rfl, by decide +kernel, rfl, by decide +kernel, by decide +kernel⟩
theorem ok_drawn {f : Addr} {fd : FuncData} (F : Fun K "_law_drawn" "_law_drawn" sDrawn f fd) (T : Txt mg) (C : Cl P w K mg base 1 "_law_take" ["_law_bag_here", "_law_many"] spTake) (C2 : Cl P w K mg base 2 "_law_of" ["_law_bag_here", "_law_some"] spOf) :
    FnOk P w K mg base CX0 3 f fd ["_law_bag_here", "_law_most"] spDrawn := by
  refine F.ok scDr (fun vs H Q E h => ?_) (fun cdv A outer s H vs Q E hr h => ?_)
  · obtain ⟨b, most, n, rfl, _⟩ := h
    rfl
  · obtain ⟨b, most, n, rfl, hb, hn, hm, k⟩ := h
    refine ⟨_, pss_one (ps_ret (pe_lc (own := [("_law_turn", 2)]) rfl scDr.nd (pi_range1 rfl T.range (pa_cons (pe_cl C hr (by decide) rfl (pa_cons (pv 0) (pa_cons (pe_op op_add (pv 1) pe_int) pa_nil))) pa_nil))
      (blkOk_by (own := [("_law_turn", 2)]) (N := ["_law_bag_here", "_law_most", "_law_turn"]) (sc := defScope sDrawn) (by decide +kernel)) (fun _ _ _ _ _ => pg_name (i := 2) scDr.nd rfl (Or.inl rfl)) (fun _ _ _ _ _ => pts_nil)
      (fun _ _ _ _ _ => pe_cl C2 hr (by decide) rfl (pa_cons (pv 0) (pa_cons (pe_lst (pa_cons pe_int (pa_cons pe_int (pa_cons pe_int (pa_cons pe_int pa_nil))))) pa_nil))))), ?_⟩
    refine ⟨_, rfl, _, rfl, _, _, rfl, rfl, b, _, n, rfl, hb, by omega, by omega, by omega, fun H1 r kp b1 r0 r1 => ?_⟩
    refine ⟨_, rfl, by omega, by omega, fun D hD => ?_⟩
    have neD : D ≠ b := b1.ne hD
    have h0D : H D = none := kp.free neD hD
    refine lc_range (lo := 0) (n := r.toNat) (fun i H' => ∃ xs : List Int, H' D = some (Il xs) ∧ xs.length = i ∧ (∀ v ∈ xs, 0 ≤ v ∧ v ≤ 2) ∧ Keep b H H' ∧ Bag H' b (n + 1 + i))
      ⟨[], upd_same, rfl, fun v hv => absurd hv List.not_mem_nil, keepNew kp hD, b1.upd neD⟩ ?_ ?_
    · rintro i H2 hi ⟨xs, hx, hl, hv, k2, b2⟩
      refine ⟨rfl, _, rfl, by show 4 ≤ sizeLine; decide, fun l nl => ?_⟩
      have nelb : l ≠ b := b2.ne nl
      refine ⟨b, l, [0, 1, 1, 2], _, rfl, b2.upd nelb, by omega, nelb, upd_same, by decide, by decide, fun H3 v k3 b3 hv3 => ?_⟩
      have neDl : D ≠ l := ne_of_none hx nl
      refine ⟨xs.map V.int, k3 _ _ neD (by rw [upd_ne neDl]; exact hx), sizeBig (by rw [List.length_map]; omega), xs ++ [v], ?_, ?_, ?_, ?_, ?_⟩
      · rw [upd_same, Il, List.map_append]; rfl
      · rw [List.length_append, hl]; rfl
      · intro u hu
        rcases List.mem_append.mp hu with q | q
        · exact hv u q
        · have e := List.mem_singleton.mp q
          subst e
          simp only [List.mem_cons, List.not_mem_nil, or_false] at hv3
          omega
      · exact keepMut ((keepNew k2 nl).trans k3) h0D
      · have b4 := b3.upd (o := .lst (xs.map V.int ++ [.int v])) neD
        exact b4.mono (by omega)
    · rintro H2 ⟨xs, hx, hl, hv, k2, b2⟩
      exact k H2 D xs k2 (b2.mono (by omega)) h0D neD hx (by omega) hv
end
end Pt

namespace Pt
open PySem L2 Pr Pm
/-! ### lists of ints as data -/
def dI (xs : List Int) : PyData := .list (xs.map PyData.int)
theorem dpAllI {K : PySem.W.Frag} {H : Hp} : ∀ xs : List Int, DpAll K H (xs.map V.int) (xs.map PyData.int)
  | [] => .nil
  | x :: xs => .cons (.int x) (dpAllI xs)
theorem dpI {K : PySem.W.Frag} {H : Hp} {a : Addr} {xs : List Int} (h : H a = some (Il xs)) : Dp K H (.ref a) (dI xs) := .lst (SqL.of h) (dpAllI xs)
theorem layAllI : ∀ xs : List Int, PyData.canLayAll0 (xs.map PyData.int) = true
  | [] => by simp only [List.map_nil, PyData.canLayAll0]
  | x :: xs => by simp only [List.map_cons, PyData.canLayAll0, PyData.canLay0, layAllI xs, Bool.and_self]
theorem depthAllI : ∀ xs : List Int, PyData.depthAll (xs.map PyData.int) = 0
  | [] => by simp only [List.map_nil, PyData.depthAll]
  | x :: xs => by simp only [List.map_cons, PyData.depthAll, PyData.depth, depthAllI xs, Nat.max_self]
theorem shI (xs : List Int) : SeqAt.shaped (dI xs) = true := by
  unfold SeqAt.shaped dI
  simp only [PyData.canLay0, PyData.depth, layAllI, depthAllI]
  decide
theorem eqvAllI : ∀ xs ys : List Int, PyData.eqvAll (xs.map PyData.int) (ys.map PyData.int) = decide (xs = ys)
  | [], [] => by simp [PyData.eqvAll, List.map_nil]
  | [], y :: ys => by simp [PyData.eqvAll, List.map_cons]
  | x :: xs, [] => by simp [PyData.eqvAll, List.map_cons]
  | x :: xs, y :: ys => by
    simp only [List.map_cons, PyData.eqvAll, PyData.eqv, eqvAllI xs ys]
    by_cases h : x = y <;> by_cases h2 : xs = ys <;> simp [h, h2]
theorem eqvI (xs ys : List Int) : PyData.eqv (dI xs) (dI ys) = decide (xs = ys) := by
  unfold dI
  rw [PyData.eqv, eqvAllI]

/-- the least size of a patch -/
def sz (x y : List Int) : Int := (x.length : Int) + (y.length : Int) - 2 * (st x y : Int) - 2 * (en x y : Int)
def spSizes : Sp := fun vs H Q _ => ∃ (a b : Addr) (x y : List Int), vs = [.ref a, .ref b] ∧ H a = some (Il x) ∧ H b = some (Il y) ∧ x.length ≤ 8 ∧
  ∀ H' p ns, Same H H' → H p = none → H' p = some (Il ns) → sz x y ∈ ns → (∀ z ∈ ns, sz x y ≤ z) → Q (.ref p) H'
section
variable {K : PySem.W.Frag} {base : Heap} {P : Program} {w : World} {mg : Str → Option Value}
theorem scSz : FnScope ["_law_old", "_law_new", "_law_found", "_law_start", "_law_same"] ["_law_old", "_law_new"] (defScope sSizes) := ⟨rfl, rfl, rfl, by decide +kernel, rfl, by decide +kernel, by decide +kernel⟩
theorem ok_sizes {f : Addr} {fd : FuncData} (F : Fun K "_law_all_sizes" "_law_all_sizes" sSizes f fd) (T : Txt mg) : FnOk P w K mg base CX0 1 f fd ["_law_old", "_law_new"] spSizes := by
  refine F.ok scSz (fun vs H Q E h => ?_) (fun cdv A outer s H vs Q E hr h => ?_)
  · obtain ⟨a, b, x, y, rfl, _⟩ := h
    rfl
  · obtain ⟨a, b, x, y, rfl, ha, hb, lx, k⟩ := h
    refine ⟨_, pss_cons (ps_set (i := 2) scSz.nd rfl (Or.inl rfl) (pe_lst pa_nil))
      (pss_cons (ps_for PassesOwn.never rfl (pi_range1 rfl T.range (pa_cons (pe_op op_add (pe_callB (call_min2 rfl) (by rfl) T.min (by decide +kernel) (pa_cons (pe_callB call_len_seq (by rfl) T.len PySem.boot_len (pa_cons (pv 0) pa_nil))
            (pa_cons (pe_callB call_len_seq (by rfl) T.len PySem.boot_len (pa_cons (pv 1) pa_nil)) pa_nil))) pe_int) pa_nil)) (pg_name (i := 3) scSz.nd rfl (Or.inl rfl))
        (pss_one (ps_for PassesOwn.never rfl (pi_range1 rfl T.range (pa_cons (pe_op op_add (pe_op op_sub (pe_callB (call_min2 rfl) (by rfl) T.min (by decide +kernel) (pa_cons (pe_callB call_len_seq (by rfl) T.len PySem.boot_len (pa_cons (pv 0) pa_nil))
              (pa_cons (pe_callB call_len_seq (by rfl) T.len PySem.boot_len (pa_cons (pv 1) pa_nil)) pa_nil))) (pv 3)) pe_int) pa_nil)) (pg_name (i := 4) scSz.nd rfl (Or.inl rfl))
          (pss_one (ps_if (PW.pt (pw_and (pt_cmpR (op_eqD hr.units) (pe_slice sl_list (pv 0) po_none (po_some (pv 3))) (pe_slice sl_list (pv 1) po_none (po_some (pv 3))) (nomark _))
              (pw_and1 (pt_cmpR (op_eqD hr.units) (pe_slice sl_list (pv 0) (po_some (pe_op op_sub (pe_callB call_len_seq (by rfl) T.len PySem.boot_len (pa_cons (pv 0) pa_nil)) (pv 4))) po_none)
                (pe_slice sl_list (pv 1) (po_some (pe_op op_sub (pe_callB call_len_seq (by rfl) T.len PySem.boot_len (pa_cons (pv 1) pa_nil)) (pv 4))) po_none) (nomark _)))))
            (pss_one (ps_expr (pe_bm PySem.F.plainAttrs_list PySem.F.slot_list_append PySem.F.type_list_append mt_append (pv 2)
              (pa_cons (pe_op op_sub (pe_op op_sub (pe_op op_add (pe_callB call_len_seq (by rfl) T.len PySem.boot_len (pa_cons (pv 0) pa_nil)) (pe_callB call_len_seq (by rfl) T.len PySem.boot_len (pa_cons (pv 1) pa_nil)))
                (pe_op op_mul pe_int (pv 3))) (pe_op op_mul pe_int (pv 4))) pa_nil)))) pss_nil)))))
      (pss_one (ps_ret (pv 2)))), ?_⟩
    have hsx := st_l x y
    have hsy := st_r x y
    have hex := en_l x y
    have hey := en_r x y
    refine ⟨Nat.zero_le _, fun l nl => ?_⟩
    have tl := sameNew (o := .lst []) (Same.refl H) nl
    refine ⟨_, rfl, a, _, rfl, .inl (SqL.of (tl _ _ ha)), _, rfl, b, _, rfl, .inl (SqL.of (tl _ _ hb)), _, _, rfl, ?_⟩
    rw [List.length_map, List.length_map, min_nat]
    refine ⟨_, _, rfl, rfl, _, rfl, by omega, by omega, ?_⟩
    -- the list so far, before the pair (i, j): all its sizes are patches', and the least one stands in it once it was met
    refine for_range (lo := 0) (n := (((min x.length y.length : Nat) : Int) + 1).toNat) (fun i σ H' => ∃ (v3 v4 : Option V) (ns : List Int), σ = [some (.ref a), some (.ref b), some (.ref l), v3, v4] ∧ Same H H' ∧ H' l = some (Il ns) ∧ ns.length ≤ 10 * i ∧
        (∀ z ∈ ns, sz x y ≤ z) ∧ (st x y < i → sz x y ∈ ns))
      ⟨none, none, [], rfl, tl, upd_same, Nat.zero_le _, fun z hz => absurd hz List.not_mem_nil, fun h => absurd h (Nat.not_lt_zero _)⟩ ?_ ?_
    · rintro i σ H1 hi ⟨v3, v4, ns, rfl, s1, hl, ln, all, mem⟩
      have hi2 : i ≤ min x.length y.length := by omega
      refine ⟨_, rfl, a, _, rfl, .inl (SqL.of (s1 _ _ ha)), _, rfl, b, _, rfl, .inl (SqL.of (s1 _ _ hb)), _, _, rfl, ?_⟩
      rw [List.length_map, List.length_map, min_nat]
      refine ⟨_, rfl, _, _, rfl, rfl, _, _, rfl, rfl, _, rfl, by omega, by omega, ?_⟩
      have ecnt : (((min x.length y.length : Nat) : Int) - (0 + (i : Int)) + 1).toNat = min x.length y.length - i + 1 := by omega
      rw [ecnt]
      refine for_range (lo := 0) (n := min x.length y.length - i + 1) (fun j σ H' => ∃ (v4 : Option V) (ms : List Int), σ = [some (.ref a), some (.ref b), some (.ref l), some (.int (0 + (i : Int))), v4] ∧ Same H H' ∧ H' l = some (Il ms) ∧ ms.length ≤ 10 * i + j ∧
          (∀ z ∈ ms, sz x y ≤ z) ∧ (st x y < i ∨ (st x y = i ∧ en x y < j) → sz x y ∈ ms))
        ⟨v4, ns, rfl, s1, hl, ln, all, fun h => mem (by rcases h with h | ⟨_, h⟩ <;> omega)⟩ ?_ ?_
      · rintro j σ H2 hj ⟨v4, ms, rfl, s2, hl2, lm, all2, mem2⟩
        have hij : i + j ≤ min x.length y.length := by omega
        have jx : j ≤ x.length := by omega
        have jy : j ≤ y.length := by omega
        refine ⟨_, rfl, _, rfl, _, rfl, a, _, rfl, SqL.of (s2 _ _ ha), fun p1 n1 => ?_⟩
        have z0 : (0 : Int) + (i : Int) = ((i : Nat) : Int) := by omega
        have z1 : (0 : Int) + (j : Int) = ((j : Nat) : Int) := by omega
        rw [z0, z1]
        have e1 : cutV (x.map V.int) none (some (i : Int)) = (x.take i).map V.int := by
          rw [cut_to (by rw [List.length_map]; omega), List.map_take]
        have e2 : cutV (y.map V.int) none (some (i : Int)) = (y.take i).map V.int := by
          rw [cut_to (by rw [List.length_map]; omega), List.map_take]
        rw [e1]
        have t1 := sameNew (o := Il (x.take i)) s2 n1
        refine ⟨_, rfl, _, rfl, _, rfl, b, _, rfl, SqL.of (t1 _ _ hb), fun p2 n2 => ?_⟩
        rw [e2]
        have t2 := sameNew (o := Il (y.take i)) t1 n2
        have l1 : upd H2 p1 (Il (x.take i)) l = some (Il ms) := sameNew (Same.refl H2) n1 _ _ hl2
        have l2 : upd (upd H2 p1 (Il (x.take i))) p2 (Il (y.take i)) l = some (Il ms) := sameNew (Same.refl _) n2 _ _ l1
        have q1 : upd (upd H2 p1 (Il (x.take i))) p2 (Il (y.take i)) p1 = some (Il (x.take i)) := sameNew (Same.refl _) n2 _ _ upd_same
        refine ⟨dI (x.take i), dI (y.take i), dpI q1, dpI upd_same, shI _, shI _, _, rfl, ?_⟩
        rw [eqvI]
        -- what stands behind a turn that adds nothing
        have skip : ∀ H3 : Hp, Same H H3 → H3 l = some (Il ms) → ¬ (x.take i = y.take i ∧ x.drop (x.length - j) = y.drop (y.length - j)) →
            ∃ (v4 : Option V) (ms : List Int), [some (V.ref a), some (V.ref b), some (V.ref l), some (V.int (i : Int)), some (V.int (j : Int))] = [some (.ref a), some (.ref b), some (.ref l), some (.int (i : Int)), v4] ∧ Same H H3 ∧ H3 l = some (Il ms) ∧ ms.length ≤ 10 * i + (j + 1) ∧
              (∀ z ∈ ms, sz x y ≤ z) ∧ (st x y < i ∨ (st x y = i ∧ en x y < j + 1) → sz x y ∈ ms) := by
          intro H3 s3 h3 no
          refine ⟨_, ms, rfl, s3, h3, by omega, all2, fun h => mem2 ?_⟩
          rcases h with h | ⟨h, h'⟩
          · exact .inl h
          · refine .inr ⟨h, ?_⟩
            refine Nat.lt_of_le_of_ne (by omega) fun e => no ?_
            rw [← h, ← e]
            exact ⟨st_head x y, en_tail x y⟩
        refine ite2 (fun c1 => ?_) (fun c1 => ?_)
        · have f1 : x.take i = y.take i := of_decide_eq_true c1
          have ejx : ((x.map V.int).length : Int) - (j : Int) = ((x.length - j : Nat) : Int) := by rw [List.length_map]; exact subNat jx
          have ejy : ((y.map V.int).length : Int) - (j : Int) = ((y.length - j : Nat) : Int) := by rw [List.length_map]; exact subNat jy
          refine ⟨_, rfl, _, rfl, a, _, rfl, .inl (SqL.of (t2 _ _ ha)), _, rfl, _, _, rfl, rfl, _, rfl, a, _, rfl, SqL.of (t2 _ _ ha), fun p3 n3 => ?_⟩
          have e3 : cutV (x.map V.int) (some ((x.length - j : Nat) : Int)) none = (x.drop (x.length - j)).map V.int := by
            rw [cut_from (by rw [List.length_map]; omega), List.map_drop]
          have e4 : cutV (y.map V.int) (some ((y.length - j : Nat) : Int)) none = (y.drop (y.length - j)).map V.int := by
            rw [cut_from (by rw [List.length_map]; omega), List.map_drop]
          rw [ejx, e3]
          have t3 := sameNew (o := Il (x.drop (x.length - j))) t2 n3
          refine ⟨_, rfl, _, rfl, b, _, rfl, .inl (SqL.of (t3 _ _ hb)), _, rfl, _, _, rfl, rfl, _, rfl, b, _, rfl, SqL.of (t3 _ _ hb), fun p4 n4 => ?_⟩
          rw [ejy, e4]
          have t4 := sameNew (o := Il (y.drop (y.length - j))) t3 n4
          have l4 := sameNew (o := Il (y.drop (y.length - j))) (Same.refl _) n4 _ _ (sameNew (o := Il (x.drop (x.length - j))) (Same.refl _) n3 _ _ l2)
          refine ⟨dI (x.drop (x.length - j)), dI (y.drop (y.length - j)), dpI (sameNew (Same.refl _) n4 _ _ upd_same), dpI upd_same, shI _, shI _, _, rfl, ?_⟩
          rw [eqvI]
          refine ite2 (fun c2 => ?_) (fun c2 => ?_)
          · have f2 : x.drop (x.length - j) = y.drop (y.length - j) := of_decide_eq_true c2
            have low := least (x := x) (y := y) (i := i) (j := j) (by omega) (by omega) f1 f2
            refine ⟨_, rfl, .inl ⟨rfl, _, SqL.of l4⟩, _, rfl, a, _, rfl, .inl (SqL.of (t4 _ _ ha)), _, rfl, b, _, rfl, .inl (SqL.of (t4 _ _ hb)), _, _, rfl, rfl, _, rfl, _, _, rfl, rfl, .inl ⟨by decide, by decide⟩, _, _, rfl, rfl,
              _, rfl, _, _, rfl, rfl, .inl ⟨by decide, by decide⟩, _, _, rfl, rfl, l, _, _, rfl, rfl, l4, ?_, ?_⟩
            · rw [List.length_map]; exact sizeBig (by omega)
            · rw [List.length_map, List.length_map]
              refine ⟨_, ms ++ [(x.length : Int) + (y.length : Int) - 2 * (i : Int) - 2 * (j : Int)], rfl, sameMut t4 nl, ?_, ?_, ?_, ?_⟩
              · rw [upd_same, Il, List.map_append]; rfl
              · have := List.length_append (as := ms) (bs := [(x.length : Int) + (y.length : Int) - 2 * (i : Int) - 2 * (j : Int)])
                rw [this, List.length_singleton]; omega
              · intro z hz
                rcases List.mem_append.mp hz with q | q
                · exact all2 z q
                · have e := List.mem_singleton.mp q
                  rw [e]
                  unfold sz
                  omega
              · rintro (h | ⟨h, h'⟩)
                · exact List.mem_append_left _ (mem2 (.inl h))
                · by_cases e : en x y < j
                  · exact List.mem_append_left _ (mem2 (.inr ⟨h, e⟩))
                  · refine List.mem_append_right _ (List.mem_singleton.mpr ?_)
                    unfold sz
                    have e' : en x y = j := by omega
                    rw [h, e']
          · exact skip _ t4 l4 fun h => c2 (decide_eq_true h.2)
        · exact skip _ t2 l2 fun h => c1 (decide_eq_true h.1)
      · rintro σ H2 ⟨v4, ms, rfl, s2, hl2, lm, all2, mem2⟩
        refine ⟨_, v4, ms, rfl, s2, hl2, by omega, all2, fun h => mem2 ?_⟩
        by_cases e : st x y < i
        · exact .inl e
        · exact .inr ⟨by omega, by omega⟩
    · rintro σ H1 ⟨v3, v4, ns, rfl, s1, hl, ln, all, mem⟩
      exact ⟨_, rfl, k H1 l ns s1 nl hl (mem (by omega)) all⟩
end
end Pt

namespace Pt
open PySem L2 Pr Pm
/-! ### the patch as data: what repr asks -/
theorem wInt {i : Int} (h : i.natAbs ≤ 1000) : PyData.weight (.int i) ≤ 10 := by
  simp only [PyData.weight]
  split
  · exact Nat.zero_le _
  · rename_i h0
    have hn : i.natAbs ≠ 0 := by
      intro e
      apply h0
      rw [Int.natAbs_eq_zero.mp e]; rfl
    have := (Nat.log2_lt hn (k := 10)).mpr (by omega)
    omega
theorem log2Int {i : Int} (h : i.natAbs ≤ 1000) : i.natAbs.log2 < 1920 := by
  by_cases hn : i.natAbs = 0
  · rw [hn]; decide
  · have := (Nat.log2_lt hn (k := 10)).mpr (by omega)
    omega
theorem wAllI : ∀ xs : List Int, (∀ v ∈ xs, 0 ≤ v ∧ v ≤ 9) → PyData.weightAll (xs.map PyData.int) ≤ 11 * xs.length
  | [], _ => by simp only [List.map_nil, PyData.weightAll]; exact Nat.zero_le _
  | x :: xs, h => by
    have h1 := wInt (i := x) (by have := h x List.mem_cons_self; omega)
    have h2 := wAllI xs fun v hv => h v (List.mem_cons_of_mem _ hv)
    simp only [List.map_cons, PyData.weightAll, List.length_cons]
    omega
theorem showAllI : ∀ xs : List Int, (∀ v ∈ xs, 0 ≤ v ∧ v ≤ 9) → PyData.showableAll (xs.map PyData.int) = true
  | [], _ => by simp only [List.map_nil, PyData.showableAll]
  | x :: xs, h => by
    simp only [List.map_cons, PyData.showableAll, PyData.showable, showAllI xs fun v hv => h v (List.mem_cons_of_mem _ hv), Bool.and_true, decide_eq_true_eq]
    exact log2Int (by have := h x List.mem_cons_self; omega)
theorem leafInt {i : Int} (h : i.natAbs ≤ 1000) : PyData.leavesShort 13 (.int i) = true := by
  simp only [PyData.leavesShort, decide_eq_true_eq]
  exact PyData.shown_int_le (Nat.lt_of_le_of_lt h (by decide))
theorem leafAllI : ∀ xs : List Int, (∀ v ∈ xs, 0 ≤ v ∧ v ≤ 9) → PyData.leavesShortAll 13 (xs.map PyData.int) = true
  | [], _ => by simp only [List.map_nil, PyData.leavesShortAll]
  | x :: xs, h => by
    simp only [List.map_cons, PyData.leavesShortAll, leafAllI xs fun v hv => h v (List.mem_cons_of_mem _ hv), Bool.and_true]
    exact leafInt (by have := h x List.mem_cons_self; omega)
theorem noDictI : ∀ xs : List Int, PyData.hasDictAll (xs.map PyData.int) = false
  | [] => by simp only [List.map_nil, PyData.hasDictAll]
  | x :: xs => by simp only [List.map_cons, PyData.hasDictAll, PyData.hasDict, noDictI xs, Bool.or_self]
def dP (n m : Nat) (d : PyData) : PyData := .tuple [.int (n : Int), .int (m : Int), d]
theorem dP_ok {n m : Nat} {d : PyData} (hn : n ≤ 1000) (hm : m ≤ 1000) (h1 : d.showable = true) (h2 : d.hasDict = false) (h3 : d.depth ≤ 1) (h4 : d.leavesShort 13 = true) (h5 : d.weight ≤ 100000) :
    (dP n m d).showable = true ∧ (dP n m d).hasDict = false ∧ (dP n m d).depth ≤ 3 ∧ (dP n m d).shown.length ≤ sizeLine := by
  have gn : ((n : Int)).natAbs ≤ 1000 := by omega
  have gm : ((m : Int)).natAbs ≤ 1000 := by omega
  refine ⟨?_, ?_, ?_, ?_⟩
  · simp only [dP, PyData.showable, PyData.showableAll, h1, decide_eq_true (log2Int gn), decide_eq_true (log2Int gm), Bool.and_self]
  · simp only [dP, PyData.hasDict, PyData.hasDictAll, h2, Bool.or_self]
  · simp only [dP, PyData.depth, PyData.depthAll]; omega
  · refine PyData.shown_fits (B := 13) (by decide) (by decide) ?_ ?_
    · have e : (dP n m d).leavesShort 13 = PyData.leavesShortAll 13 [.int (n : Int), .int (m : Int), d] := by
        unfold dP
        rw [PyData.leavesShort]
      rw [e]
      simp only [PyData.leavesShortAll, leafInt gn, leafInt gm, h4, Bool.and_self]
    · have e1 := wInt gn
      have e2 := wInt gm
      have e3 : (dP n m d).weight = PyData.weight (.int (n : Int)) + 1 + (PyData.weight (.int (m : Int)) + 1 + (d.weight + 1 + 0)) := by
        unfold dP
        conv => lhs; rw [PyData.weight]
        simp only [PyData.weightAll]
      rw [e3]
      omega
theorem dP_I {n m : Nat} {z : List Int} (hn : n ≤ 1000) (hm : m ≤ 1000) (hl : z.length ≤ 1000) (hz : ∀ v ∈ z, 0 ≤ v ∧ v ≤ 9) :
    (dP n m (dI z)).showable = true ∧ (dP n m (dI z)).hasDict = false ∧ (dP n m (dI z)).depth ≤ 3 ∧ (dP n m (dI z)).shown.length ≤ sizeLine := by
  refine dP_ok hn hm ?_ ?_ ?_ ?_ ?_
  · simp only [dI, PyData.showable, showAllI z hz]
  · simp only [dI, PyData.hasDict, noDictI]
  · simp only [dI, PyData.depth, depthAllI]; omega
  · simp only [dI, PyData.leavesShort, leafAllI z hz]
  · have := wAllI z hz
    simp only [dI, PyData.weight]
    omega
theorem dP_S {n m : Nat} {z : List Nat} (hn : n ≤ 1000) (hm : m ≤ 1000) (hl : z.length ≤ 1000) (hz : ∀ v ∈ z, v ≤ 127) :
    (dP n m (.str (mkS z))).showable = true ∧ (dP n m (.str (mkS z))).hasDict = false ∧ (dP n m (.str (mkS z))).depth ≤ 3 ∧ (dP n m (.str (mkS z))).shown.length ≤ sizeLine := by
  refine dP_ok hn hm ?_ ?_ ?_ ?_ ?_
  · simp only [PyData.showable]
  · simp only [PyData.hasDict]
  · simp only [PyData.depth]; omega
  · simp only [PyData.leavesShort, mkS_list, List.all_eq_true, decide_eq_true_eq]
    intro c hc
    exact Nat.lt_of_le_of_lt (hz c hc) (by decide)
  · simp only [PyData.weight]
    show (mkS z).length ≤ _
    rw [mkS_len]; omega
theorem mid_mem {α : Type} [DecidableEq α] {x y : List α} {v : α} (h : v ∈ mid x y) : v ∈ y := List.mem_of_mem_take (List.mem_of_mem_drop h)

def spRightL : Sp := fun vs H Q _ => ∃ (a b : Addr) (x y : List Int), vs = [.ref a, .ref b] ∧ H a = some (Il x) ∧ H b = some (Il y) ∧ x.length ≤ 200 ∧ y.length ≤ 200 ∧ (∀ v ∈ y, 0 ≤ v ∧ v ≤ 9) ∧ ∀ H', Same H H' → Q (.bl true) H'
def spRightS : Sp := fun vs H Q _ => ∃ (x y : List Nat), vs = [.str (mkS x), .str (mkS y)] ∧ x.length ≤ 200 ∧ y.length ≤ 200 ∧ (∀ v ∈ y, v ≤ 127) ∧ ∀ H', Same H H' → Q (.bl true) H'
theorem decBl (u v : Bool) (h : u = v) : decide (V.bl u = V.bl v) = true := decide_eq_true (by rw [h])
section
variable {K : PySem.W.Frag} {base : Heap} {P : Program} {w : World} {mg : Str → Option Value}
theorem scRi : FnScope ["_law_old", "_law_new", "_law_found", "_law_start", "_law_stop", "_law_some"] ["_law_old", "_law_new"] (defScope sRight) := ⟨rfl, rfl, rfl, by decide +kernel, rfl, by decide +kernel, by decide +kernel⟩
theorem ok_rightL {f : Addr} {fd : FuncData} (F : Fun K "_law_is_right" "_law_is_right" sRight f fd) (T : Txt mg) (C : Cl P w K mg base 2 "least_patch" ["old", "new"] spLpL) (C2 : Cl P w K mg base 1 "_law_patch" ["_law_old", "_law_new"] spLpL) :
    FnG P w K mg base 3 f fd ["_law_old", "_law_new"] spRightL := by
  refine fnG_of F scRi (fun vs H Q E h => ?_) (fun cdv A outer s H vs Q hr clean h => ?_)
  · obtain ⟨a, b, x, y, rfl, _⟩ := h
    rfl
  · obtain ⟨a, b, x, y, rfl, ha, hb, lx, ly, hy, k⟩ := h
    refine ⟨_, pss_cons (ps_set (i := 2) scRi.nd rfl (Or.inl rfl) (pe_cl C hr (by decide) rfl (pa_cons (pv 0) (pa_cons (pv 1) pa_nil))))
      (pss_cons (ps_if (PW.pt (pw_or (pt_not (pt_val (pe_callB call_isi (by rfl) T.isinstance (by decide +kernel) (pa_cons (pv 2) (pa_cons (pe_bltn (v := .ty "tuple") (by rfl) T.tuple (by decide +kernel) rfl) pa_nil)))))
          (pw_or (pt_cmpR op_ne (pe_callB call_len_seq (by rfl) T.len PySem.boot_len (pa_cons (pv 2) pa_nil)) pe_int (nomark _))
          (pw_or1 (pt_cmpR op_ne (pe_callB (call_reprD clean hr.units) (by rfl) T.repr (by decide +kernel) (pa_cons (pv 2) pa_nil))
            (pe_callB (call_reprD clean hr.units) (by rfl) T.repr (by decide +kernel) (pa_cons (pe_cl C2 hr (by decide) rfl (pa_cons (pv 0) (pa_cons (pv 1) pa_nil))) pa_nil)) (nomark _))))))
        (pss_one (ps_ret pe_bl)) pss_nil)
      (pss_cons (ps_asg (pv 2) (pg_tup rfl (pgs_cons (pg_name (i := 3) scRi.nd rfl (Or.inl rfl)) (pgs_cons (pg_name (i := 4) scRi.nd rfl (Or.inl rfl)) (pgs_cons (pg_name (i := 5) scRi.nd rfl (Or.inl rfl)) pgs_nil)))))
      (pss_cons (ps_if (PW.pt (pw_or (pt_cmpR (op_neD hr.units) (pe_op op_cat (pe_op op_cat (pe_slice sl_list (pv 0) po_none (po_some (pv 3))) (pv 5)) (pe_slice sl_list (pv 0) (po_some (pv 4)) po_none)) (pv 1) (nomark _))
          (pw_or1 (pt_not (pt_chain3 op_le op_le op_le pe_int (pv 3) (pv 4) (pe_callB call_len_seq (by rfl) T.len PySem.boot_len (pa_cons (pv 0) pa_nil)))))))
        (pss_one (ps_ret pe_bl)) pss_nil)
      (pss_one (ps_ret (pe_cmpR op_eq (pe_and (pe_cmpR op_eq (pv 3) (pv 4) (nomark _)) (pe_one (pe_cmpR op_eq (pe_callB call_len_seq (by rfl) T.len PySem.boot_len (pa_cons (pv 5) pa_nil)) pe_int (nomark _))))
        (pe_cmpR (op_eqD hr.units) (pv 0) (pv 1) (nomark _)) (nomark _))))))), ?_⟩
    have hsx := st_l x y
    have hsy := st_r x y
    have hex := en_l x y
    have hey := en_r x y
    have lm : (mid x y).length ≤ 1000 := by rw [mid_len]; omega
    obtain ⟨r1, r2, r3, r4⟩ := dP_I (n := st x y) (m := x.length - en x y) (z := mid x y) (by omega) (by omega) lm (fun v hv => hy v (mid_mem hv))
    refine ⟨_, rfl, _, rfl, a, b, x, y, rfl, ha, hb, fun H1 p q s1 np nq hq hp => ?_⟩
    refine ⟨_, rfl, _, _, _, _, true, rfl, .ty "tuple", .base (.tup hp), kit_ty (by decide +kernel), _, rfl, ?_⟩
    refine iteF ?_
    refine ⟨_, rfl, p, _, rfl, .inr (SqT.of hp), rfl, _, rfl, ?_⟩
    refine iteF ?_
    refine ⟨_, rfl, p, dP (st x y) (x.length - en x y) (dI (mid x y)), rfl, .tup (SqT.of hp) (.cons (.int _) (.cons (.int _) (.cons (dpI hq) .nil))), r1, r2, r3, r4, ?_⟩
    refine ⟨_, rfl, _, rfl, a, b, x, y, rfl, s1 _ _ ha, s1 _ _ hb, fun H2 p2 q2 s2 np2 nq2 hq2 hp2 => ?_⟩
    refine ⟨p2, dP (st x y) (x.length - en x y) (dI (mid x y)), rfl, .tup (SqT.of hp2) (.cons (.int _) (.cons (.int _) (.cons (dpI hq2) .nil))), r1, r2, r3, r4, ?_⟩
    refine ⟨rfl, _, rfl, ?_⟩
    rw [decide_eq_true rfl]
    refine iteF ?_
    have t2 := s1.trans s2
    refine ⟨_, rfl, p, _, rfl, SqT.of (s2 _ _ hp), rfl, _, _, rfl, _, _, rfl, _, _, rfl, rfl, ?_⟩
    -- old[:start] + some + old[stop:]
    refine ⟨_, rfl, _, rfl, _, rfl, a, _, rfl, SqL.of (t2 _ _ ha), fun c1 n1 => ?_⟩
    have e1 : cutV (x.map V.int) none (some ((st x y : Nat) : Int)) = (x.take (st x y)).map V.int := by
      rw [cut_to (by rw [List.length_map]; omega), List.map_take]
    have e2 : cutV (x.map V.int) (some ((x.length - en x y : Nat) : Int)) none = (x.drop (x.length - en x y)).map V.int := by
      rw [cut_from (by rw [List.length_map]; omega), List.map_drop]
    rw [e1]
    have t3 := sameNew (o := Il (x.take (st x y))) t2 n1
    refine ⟨_, rfl, c1, q, _, (mid x y).map V.int, rfl, rfl, upd_same, sameNew (Same.refl _) n1 _ _ (s2 _ _ hq), ?_, fun c2 n2 => ?_⟩
    · rw [List.length_map, List.length_map, List.length_take]
      exact Nat.le_trans (m := 1200) (by omega) (by decide)
    have e3 : (x.take (st x y)).map V.int ++ (mid x y).map V.int = (x.take (st x y) ++ mid x y).map V.int := List.map_append.symm
    rw [e3]
    have t4 := sameNew (o := Il (x.take (st x y) ++ mid x y)) t3 n2
    refine ⟨_, rfl, _, rfl, _, rfl, a, _, rfl, SqL.of (t4 _ _ ha), fun c3 n3 => ?_⟩
    rw [e2]
    have t5 := sameNew (o := Il (x.drop (x.length - en x y))) t4 n3
    refine ⟨c2, c3, _, _, rfl, rfl, sameNew (Same.refl _) n3 _ _ upd_same, upd_same, ?_, fun c4 n4 => ?_⟩
    · rw [List.length_map, List.length_map, List.length_append, List.length_take, List.length_drop]
      exact Nat.le_trans (m := 1400) (by omega) (by decide)
    have e4 : (x.take (st x y) ++ mid x y).map V.int ++ (x.drop (x.length - en x y)).map V.int = (x.take (st x y) ++ mid x y ++ x.drop (x.length - en x y)).map V.int := List.map_append.symm
    rw [e4, leads]
    have t6 := sameNew (o := Il y) t5 n4
    refine ⟨_, rfl, dI y, dI y, dpI upd_same, dpI (t6 _ _ hb), shI _, shI _, _, rfl, ?_⟩
    rw [eqvI, decide_eq_true rfl]
    refine iteF ?_
    refine ⟨_, rfl, _, _, rfl, rfl, ?_, _, rfl, _, _, rfl, rfl, ?_, _, rfl, a, _, rfl, .inl (SqL.of (t6 _ _ ha)), _, _, rfl, rfl, ?_, ?_⟩
    · exact congrArg V.bl (decide_eq_true (by omega))
    · exact congrArg V.bl (decide_eq_true (by omega))
    · rw [List.length_map]; exact congrArg V.bl (decide_eq_true (by omega))
    -- the last row
    have fin : ∀ (u : Bool), u = decide (x = y) → tOp (rEqD K) (tVar 0) (tVar 1) [some (.ref a), some (.ref b), some (.ref p), some (.int (st x y : Nat)), some (.int (x.length - en x y : Nat)), some (.ref q)] (upd (upd (upd (upd H2 c1 (Il (x.take (st x y)))) c2 (Il (x.take (st x y) ++ mid x y))) c3 (Il (x.drop (x.length - en x y)))) c4 (Il y))
        (fun z H6 => rEq (.bl u) z H6 Q) := by
      rintro u rfl
      refine ⟨_, rfl, _, rfl, dI x, dI y, dpI (t6 _ _ ha), dpI (t6 _ _ hb), shI _, shI _, rfl, ?_⟩
      rw [eqvI, decBl _ _ rfl]
      exact k _ t6
    refine ⟨_, rfl, ⟨_, rfl, rfl, _, rfl, ?_⟩⟩
    refine ite2 (fun d1 => ?_) (fun d1 => ?_)
    · have g1 : st x y = x.length - en x y := by
        have := V.int.inj (of_decide_eq_true d1)
        omega
      refine ⟨_, rfl, q, _, rfl, .inl (SqL.of (sameNew (sameNew (sameNew (sameNew s2 n1) n2) n3) n4 _ _ hq)), rfl, ?_⟩
      refine fin _ ?_
      rw [List.length_map]
      by_cases e : x = y
      · rw [decide_eq_true e, ((empty_iff x y).mpr e).2]
        rfl
      · rw [decide_eq_false e]
        refine decide_eq_false fun z => e ((empty_iff x y).mp ⟨g1, ?_⟩)
        have := V.int.inj z
        omega
    · refine fin _ ?_
      by_cases e : x = y
      · exact absurd (decide_eq_true (by rw [((empty_iff x y).mpr e).1])) d1
      · rw [decide_eq_false e]
theorem ok_rightS {f : Addr} {fd : FuncData} (F : Fun K "_law_is_right" "_law_is_right" sRight f fd) (T : Txt mg) (C : Cl P w K mg base 2 "least_patch" ["old", "new"] spLpS) (C2 : Cl P w K mg base 1 "_law_patch" ["_law_old", "_law_new"] spLpS) :
    FnG P w K mg base 3 f fd ["_law_old", "_law_new"] spRightS := by
  refine fnG_of F scRi (fun vs H Q E h => ?_) (fun cdv A outer s H vs Q hr clean h => ?_)
  · obtain ⟨x, y, rfl, _⟩ := h
    rfl
  · obtain ⟨x, y, rfl, lx, ly, hy, k⟩ := h
    have big : 1400 ≤ sizeLine := by decide
    have zx : (mkS x).length ≤ sizeLine := by rw [mkS_len]; omega
    refine ⟨_, pss_cons (ps_set (i := 2) scRi.nd rfl (Or.inl rfl) (pe_cl C hr (by decide) rfl (pa_cons (pv 0) (pa_cons (pv 1) pa_nil))))
      (pss_cons (ps_if (PW.pt (pw_or (pt_not (pt_val (pe_callB call_isi (by rfl) T.isinstance (by decide +kernel) (pa_cons (pv 2) (pa_cons (pe_bltn (v := .ty "tuple") (by rfl) T.tuple (by decide +kernel) rfl) pa_nil)))))
          (pw_or (pt_cmpR op_ne (pe_callB call_len_seq (by rfl) T.len PySem.boot_len (pa_cons (pv 2) pa_nil)) pe_int (nomark _))
          (pw_or1 (pt_cmpR op_ne (pe_callB (call_reprD clean hr.units) (by rfl) T.repr (by decide +kernel) (pa_cons (pv 2) pa_nil))
            (pe_callB (call_reprD clean hr.units) (by rfl) T.repr (by decide +kernel) (pa_cons (pe_cl C2 hr (by decide) rfl (pa_cons (pv 0) (pa_cons (pv 1) pa_nil))) pa_nil)) (nomark _))))))
        (pss_one (ps_ret pe_bl)) pss_nil)
      (pss_cons (ps_asg (pv 2) (pg_tup rfl (pgs_cons (pg_name (i := 3) scRi.nd rfl (Or.inl rfl)) (pgs_cons (pg_name (i := 4) scRi.nd rfl (Or.inl rfl)) (pgs_cons (pg_name (i := 5) scRi.nd rfl (Or.inl rfl)) pgs_nil)))))
      (pss_cons (ps_if (PW.pt (pw_or (pt_cmpR op_ne (pe_op op_add_str (pe_op op_add_str (pe_slice sl_str (pv 0) po_none (po_some (pv 3))) (pv 5)) (pe_slice sl_str (pv 0) (po_some (pv 4)) po_none)) (pv 1) (nomark _))
          (pw_or1 (pt_not (pt_chain3 op_le op_le op_le pe_int (pv 3) (pv 4) (pe_callB call_len_str (by rfl) T.len PySem.boot_len (pa_cons (pv 0) pa_nil)))))))
        (pss_one (ps_ret pe_bl)) pss_nil)
      (pss_one (ps_ret (pe_cmpR op_eq (pe_and (pe_cmpR op_eq (pv 3) (pv 4) (nomark _)) (pe_one (pe_cmpR op_eq (pe_callB call_len_str (by rfl) T.len PySem.boot_len (pa_cons (pv 5) pa_nil)) pe_int (nomark _))))
        (pe_cmpR op_eq (pv 0) (pv 1) (nomark _)) (nomark _))))))), ?_⟩
    have hsx := st_l x y
    have hsy := st_r x y
    have hex := en_l x y
    have hey := en_r x y
    have lm : (mid x y).length ≤ 1000 := by rw [mid_len]; omega
    obtain ⟨r1, r2, r3, r4⟩ := dP_S (n := st x y) (m := x.length - en x y) (z := mid x y) (by omega) (by omega) lm (fun v hv => hy v (mid_mem hv))
    refine ⟨_, rfl, _, rfl, x, y, rfl, by omega, by omega, fun H1 p s1 np hp => ?_⟩
    refine ⟨_, rfl, _, _, _, _, true, rfl, .ty "tuple", .base (.tup hp), kit_ty (by decide +kernel), _, rfl, ?_⟩
    refine iteF ?_
    refine ⟨_, rfl, p, _, rfl, .inr (SqT.of hp), rfl, _, rfl, ?_⟩
    refine iteF ?_
    refine ⟨_, rfl, p, dP (st x y) (x.length - en x y) (.str (mkS (mid x y))), rfl, .tup (SqT.of hp) (.cons (.int _) (.cons (.int _) (.cons (.str _) .nil))), r1, r2, r3, r4, ?_⟩
    refine ⟨_, rfl, _, rfl, x, y, rfl, by omega, by omega, fun H2 p2 s2 np2 hp2 => ?_⟩
    refine ⟨p2, dP (st x y) (x.length - en x y) (.str (mkS (mid x y))), rfl, .tup (SqT.of hp2) (.cons (.int _) (.cons (.int _) (.cons (.str _) .nil))), r1, r2, r3, r4, ?_⟩
    refine ⟨rfl, _, rfl, ?_⟩
    rw [decide_eq_true rfl]
    refine iteF ?_
    have t2 := s1.trans s2
    refine ⟨_, rfl, p, _, rfl, SqT.of (s2 _ _ hp), rfl, _, _, rfl, _, _, rfl, _, _, rfl, rfl, ?_⟩
    -- old[:start] + some + old[stop:]
    refine ⟨_, rfl, _, rfl, _, rfl, _, rfl, zx, ?_⟩
    have e1 : cutS (mkS x) none (some ((st x y : Nat) : Int)) = mkS (x.take (st x y)) := cutS_to (by omega)
    have e2 : cutS (mkS x) (some ((x.length - en x y : Nat) : Int)) none = mkS (x.drop (x.length - en x y)) := cutS_from (by omega)
    rw [e1]
    refine ⟨_, rfl, _, _, rfl, rfl, ?_, ?_⟩
    · rw [mkS_len, mkS_len, List.length_take]; omega
    have app : ∀ u v : List Nat, mkS u ++ mkS v = mkS (u ++ v) := fun u v => by
      show (⟨u.toArray ++ v.toArray⟩ : Str) = ⟨(u ++ v).toArray⟩
      simp
    rw [app]
    refine ⟨_, rfl, _, rfl, _, rfl, _, rfl, zx, ?_⟩
    rw [e2]
    refine ⟨_, _, rfl, ⟨rfl, ?_, ?_⟩⟩
    · rw [mkS_len, mkS_len, List.length_append, List.length_take, List.length_drop]; omega
    rw [app, leads]
    refine ⟨_, rfl, ⟨rfl, _, rfl, ?_⟩⟩
    rw [decide_eq_true rfl]
    refine iteF ?_
    refine ⟨_, rfl, _, _, rfl, rfl, ?_, _, rfl, _, _, rfl, rfl, ?_, _, rfl, _, rfl, zx, _, _, rfl, rfl, ?_, ?_⟩
    · exact congrArg V.bl (decide_eq_true (by omega))
    · exact congrArg V.bl (decide_eq_true (by omega))
    · rw [mkS_len]; exact congrArg V.bl (decide_eq_true (by omega))
    -- the last row
    have fin : ∀ (u : Bool), u = decide (x = y) → tOp rEq (tVar 0) (tVar 1) [some (.str (mkS x)), some (.str (mkS y)), some (.ref p), some (.int (st x y : Nat)), some (.int (x.length - en x y : Nat)), some (.str (mkS (mid x y)))] H2
        (fun z H6 => rEq (.bl u) z H6 Q) := by
      rintro u rfl
      refine ⟨_, rfl, _, rfl, rfl, rfl, ?_⟩
      have e : decide (V.str (mkS x) = V.str (mkS y)) = decide (x = y) := by
        by_cases e : x = y
        · rw [decide_eq_true e, decide_eq_true (by rw [e])]
        · rw [decide_eq_false e, decide_eq_false fun z => e (mkS_inj (V.str.inj z))]
      rw [e, decBl _ _ rfl]
      exact k _ t2
    refine ⟨_, rfl, ⟨_, rfl, rfl, _, rfl, ?_⟩⟩
    refine ite2 (fun d1 => ?_) (fun d1 => ?_)
    · have g1 : st x y = x.length - en x y := by
        have := V.int.inj (of_decide_eq_true d1)
        omega
      refine ⟨_, rfl, _, rfl, by rw [mkS_len]; omega, rfl, ?_⟩
      refine fin _ ?_
      rw [mkS_len]
      by_cases e : x = y
      · rw [decide_eq_true e, ((empty_iff x y).mpr e).2]
        rfl
      · rw [decide_eq_false e]
        refine decide_eq_false fun z => e ((empty_iff x y).mp ⟨g1, ?_⟩)
        have := V.int.inj z
        omega
    · refine fin _ ?_
      by_cases e : x = y
      · exact absurd (decide_eq_true (by rw [((empty_iff x y).mpr e).1])) d1
      · rw [decide_eq_false e]
end
end Pt

namespace Pt
open PySem L2 Pr Pm
/-! ### small things for the law's own body -/
theorem sameKeep {b : Addr} {H0 H1 H2 : Hp} (s : Same H0 H1) (k : Keep b H1 H2) (n : H0 b = none) : Same H0 H2 := fun c o e => k c o (ne_of_none e n) (s c o e)
/-- items from 0 to 2 -/
def Few (xs : List Int) : Prop := ∀ v ∈ xs, 0 ≤ v ∧ v ≤ 2
theorem Few.nine {xs : List Int} (h : Few xs) : ∀ v ∈ xs, 0 ≤ v ∧ v ≤ 9 := fun v hv => by have := h v hv; omega
theorem Few.app {xs ys : List Int} (h : Few xs) (h' : Few ys) : Few (xs ++ ys) := fun v hv => (List.mem_append.mp hv).elim (h v) (h' v)
def cutI (xs : List Int) (lo hi : Option Int) : List Int := (xs.drop (HT.sIx xs.length 0 lo)).take (HT.sIx xs.length xs.length hi - HT.sIx xs.length 0 lo)
theorem cutI_map (xs : List Int) (lo hi : Option Int) : cutV (xs.map V.int) lo hi = (cutI xs lo hi).map V.int := by
  unfold cutV cutI
  rw [List.length_map, List.map_take, List.map_drop]
theorem cutI_few {xs : List Int} (h : Few xs) (lo hi : Option Int) : Few (cutI xs lo hi) := fun v hv => h v (List.mem_of_mem_drop (List.mem_of_mem_take hv))
theorem cutI_len (xs : List Int) (lo hi : Option Int) : (cutI xs lo hi).length ≤ xs.length := by
  unfold cutI
  rw [List.length_take, List.length_drop]; omega
/-- the sign of an item -/
def cod (v : Int) : Nat := (48 + v).toNat
theorem cod_le {v : Int} (h : 0 ≤ v ∧ v ≤ 2) : cod v ≤ 127 := by unfold cod; omega
theorem three {v : Int} (h : 0 ≤ v ∧ v ≤ 2) : v = 0 ∨ v = 1 ∨ v = 2 := by omega
theorem sign_str {v : Int} (h : 0 ≤ v ∧ v ≤ 2) : ((toString v : String) : Str) = mkS [cod v] := by
  rcases three h with rfl | rfl | rfl <;> decide +kernel
theorem sign_at {v : Int} (h : 0 ≤ v ∧ v ≤ 2) : atI (("012" : Str)).cps.toList v = some (cod v) := by
  rcases three h with rfl | rfl | rfl <;> decide +kernel
theorem glue_all : ∀ (cs : List Nat) (acc : Array Nat), (cs.map fun c => mkS [c]).foldl (fun acc p => acc ++ (mkS []).cps ++ p.cps) acc = acc ++ cs.toArray
  | [], acc => by simp
  | c :: cs, acc => by
    rw [List.map_cons, List.foldl_cons, glue_all cs]
    show acc ++ #[] ++ #[c] ++ cs.toArray = acc ++ (c :: cs).toArray
    simp
theorem join_signs (cs : List Nat) : Txt.join (mkS []) (cs.map fun c => mkS [c]) = mkS cs := by
  show Builtin.Str.glued _ _ = _
  unfold Builtin.Str.glued
  cases cs with
  | nil => rfl
  | cons c cs =>
    show (⟨(cs.map fun c => mkS [c]).foldl (fun acc p => acc ++ (mkS []).cps ++ p.cps) #[c]⟩ : Str) = mkS (c :: cs)
    rw [glue_all]
    unfold mkS
    congr 1
    simp
theorem sum_ones (cs : List Nat) : ((cs.map fun c => mkS [c]).map (·.length)).sum = cs.length := by
  induction cs with
  | nil => rfl
  | cons c cs ih =>
    rw [List.map_cons, List.map_cons, List.sum_cons, ih, List.length_cons, mkS_len]
    show 1 + _ = _
    omega
theorem empty_str : (("" : Str)) = mkS [] := by decide +kernel
/-- seven or sixty -/
theorem seven_sixty (t : Nat) : ∃ m : Nat, m ≤ 60 ∧ atI [V.int 7, V.int 60] ((t : Int) % 2) = some (.int (m : Int)) := by
  rcases (show (t : Int) % 2 = 0 ∨ (t : Int) % 2 = 1 by omega) with h | h
  · exact ⟨7, by decide, by rw [h]; exact atI_nat (j := 0) rfl⟩
  · exact ⟨60, by decide, by rw [h]; exact atI_nat (j := 1) rfl⟩

def spLaw (K : PySem.W.Frag) : Sp := fun vs H Q _ => ∃ (a : Addr) (ns : List Int), vs = [.ref a] ∧ SqL K H a (ns.map V.int) ∧ ∀ H', Q (.bl true) H'
/-- behind the second statement of a turn: the new list is any one of few items -/
def tMore (H0 : Hp) : TS := fun D σ H1 => ∃ (a b o p : Addr) (i : Int) (t : Nat) (xo xn : List Int) (n : Nat) (v6 v7 v8 v9 v10 v11 v12 v13 v14 : Option V),
  σ = [some (.ref a), some (.int i), some (.ref b), some (.int (t : Int)), some (.ref o), some (.ref p), v6, v7, v8, v9, v10, v11, v12, v13, v14] ∧ H0 b = none ∧ o ≠ b ∧ p ≠ b ∧
  Same H0 H1 ∧ Bag H1 b n ∧ n ≤ 800000 ∧ H1 o = some (Il xo) ∧ H1 p = some (Il xn) ∧ xo.length ≤ 60 ∧ xn.length ≤ 7 ∧ Few xo ∧ Few xn ∧
  ∀ H2 p' xn' v6', Same H0 H2 → Bag H2 b (n + 2) → H2 o = some (Il xo) → H2 p' = some (Il xn') → p' ≠ b → xn'.length ≤ 200 → Few xn' →
    D.nx [some (.ref a), some (.int i), some (.ref b), some (.int (t : Int)), some (.ref o), some (.ref p'), v6', v7, v8, v9, v10, v11, v12, v13, v14] H2
/-- the look at the sizes of all patches finds nothing -/
def tLess : TS := fun D σ H1 => ∃ (o p q : Addr) (xo xn : List Int), σ[4]? = some (some (.ref o)) ∧ σ[5]? = some (some (.ref p)) ∧ σ[11]? = some (some (.int (st xo xn : Nat))) ∧
  σ[12]? = some (some (.int (xo.length - en xo xn : Nat))) ∧ σ[13]? = some (some (.ref q)) ∧ H1 o = some (Il xo) ∧ H1 p = some (Il xn) ∧ H1 q = some (Il (mid xo xn)) ∧ ∀ H2, Same H1 H2 → D.nx σ H2
section
variable {K : PySem.W.Frag} {base : Heap} {P : Program} {w : World} {mg : Str → Option Value}
abbrev NL : List Str := ["_law_script", "_law_at", "_law_bag_here", "_law_turn", "_law_old", "_law_new", "_law_spot", "_law_kept", "_law_ahead", "_law_one", "_law_other", "_law_start", "_law_stop", "_law_some", "_law_part"]
theorem scLw : FnScope NL ["_law_script"] (defScope sLaw) := ⟨rfl, rfl, rfl, by decide +kernel, rfl, by decide +kernel, by decide +kernel⟩
theorem ok_law {f : Addr} {fd : FuncData} (F : Fun K "law" "law" sLaw f fd) (T : Txt mg) (CB : Cl P w K mg base 1 "_law_bag" ["_law_script", "_law_at"] (spBag K)) (CT : Cl P w K mg base 1 "_law_take" ["_law_bag_here", "_law_many"] spTake)
    (CD : Cl P w K mg base 3 "_law_drawn" ["_law_bag_here", "_law_most"] spDrawn) (CL : Cl P w K mg base 2 "least_patch" ["old", "new"] spLpL) (CS : Cl P w K mg base 2 "least_patch" ["old", "new"] spLpS)
    (CZ : Cl P w K mg base 1 "_law_all_sizes" ["_law_old", "_law_new"] spSizes) (GL : ClG P w K mg base 3 "_law_is_right" ["_law_old", "_law_new"] spRightL) (GS : ClG P w K mg base 3 "_law_is_right" ["_law_old", "_law_new"] spRightS) :
    FnG P w K mg base 4 f fd ["_law_script"] (spLaw K) := by
  refine fnG_of F scLw (fun vs H Q E h => ?_) (fun cdv A outer s H vs Q hr clean h => ?_)
  · obtain ⟨a, ns, rfl, _⟩ := h
    rfl
  · obtain ⟨a, ns, rfl, hS, k⟩ := h
    refine ⟨_, pss_cons (ps_for PassesOwn.never rfl (pi_range1 rfl T.range (pa_cons (pe_callB (call_max2 rfl) (by rfl) T.max (by decide +kernel) (pa_cons pe_int (pa_cons (pe_callB (call_min2 rfl) (by rfl) T.min (by decide +kernel)
          (pa_cons pe_int (pa_cons (pe_callB call_len_seq (by rfl) T.len PySem.boot_len (pa_cons (pv 0) pa_nil)) pa_nil))) pa_nil))) pa_nil)) (pg_name (i := 1) scLw.nd rfl (Or.inl rfl))
        (pss_cons (ps_set (i := 2) scLw.nd rfl (Or.inl rfl) (pe_cl CB hr (by decide) rfl (pa_cons (pv 0) (pa_cons (pv 1) pa_nil))))
        (pss_one (ps_for PassesOwn.never rfl (pi_range1 rfl T.range (pa_cons pe_int pa_nil)) (pg_name (i := 3) scLw.nd rfl (Or.inl rfl))
          -- old, new = drawn, drawn
          (pss_cons (ps_par (i := 4) (j := 5) (by rfl) scLw.nd rfl rfl (by decide) rfl rfl
            (pa_cons (pe_cl CD hr (by decide) rfl (pa_cons (pv 2) (pa_cons (pe_ix ix_list (pe_lst (pa_cons pe_int (pa_cons pe_int pa_nil))) (pe_op op_mod (pv 3) pe_int) (fun _ _ => rfl)) pa_nil)))
              (pa_cons (pe_cl CD hr (by decide) rfl (pa_cons (pv 2) (pa_cons pe_int pa_nil))) pa_nil)) (by rfl))
          -- if turn % 2 == 1
          (pss_cons (psImp' (tMore H) (ps_if (pt_cmpR op_eq (pe_op op_mod (pv 3) pe_int) pe_int (nomark _))
              (pss_cons (ps_set (i := 6) scLw.nd rfl (Or.inl rfl) (pe_cl CT hr (by decide) rfl (pa_cons (pv 2) (pa_cons (pe_op op_add (pe_callB call_len_seq (by rfl) T.len PySem.boot_len (pa_cons (pv 4) pa_nil)) pe_int) pa_nil))))
              (pss_one (ps_set (i := 5) scLw.nd rfl (Or.inl rfl) (pe_op op_cat (pe_op op_cat (pe_slice sl_list (pv 4) po_none (po_some (pv 6))) (pv 5))
                (pe_slice sl_list (pv 4) (po_some (pe_op op_add (pv 6) (pe_cl CT hr (by decide) rfl (pa_cons (pv 2) (pa_cons pe_int pa_nil))))) po_none))))) pss_nil) ?C2)
          -- kept, ahead = list(old), list(new)
          (pss_cons (ps_par (i := 7) (j := 8) (by rfl) scLw.nd rfl rfl (by decide) rfl rfl
            (pa_cons (pe_callTy call_list_of (by rfl) T.list (by decide +kernel) (pa_cons (pv 4) pa_nil)) (pa_cons (pe_callTy call_list_of (by rfl) T.list (by decide +kernel) (pa_cons (pv 5) pa_nil)) pa_nil)) (by rfl))
          -- if not is_right(old, new) or old != kept or new != ahead
          (pss_cons (ps_if (PW.pt (pw_or (pt_not (pt_val (pe_clG GL clean hr (by decide) rfl (pa_cons (pv 4) (pa_cons (pv 5) pa_nil)))))
              (pw_or (pt_cmpR (op_neD hr.units) (pv 4) (pv 7) (nomark _)) (pw_or1 (pt_cmpR (op_neD hr.units) (pv 5) (pv 8) (nomark _)))))) (pss_one (ps_ret pe_bl)) pss_nil)
          -- one, other = the same as texts
          (pss_cons (ps_par (i := 9) (j := 10) (by rfl) scLw.nd rfl rfl (by decide) rfl rfl
            (pa_cons (pe_join pe_str (pe_lc (own := [("_law_part", 14)]) rfl scLw.nd (pi_list (pv 4)) (blkOk_by (own := [("_law_part", 14)]) (N := NL) (sc := defScope sLaw) (by decide +kernel))
                (fun _ _ _ _ _ => pg_name (i := 14) scLw.nd rfl (Or.inl rfl)) (fun _ _ _ _ _ => pts_nil) (fun _ _ _ _ _ => pe_callTy call_str_int (by rfl) T.str (by decide +kernel) (pa_cons (pv 14) pa_nil))))
              (pa_cons (pe_join pe_str (pe_lc (own := [("_law_part", 14)]) rfl scLw.nd (pi_list (pv 5)) (blkOk_by (own := [("_law_part", 14)]) (N := NL) (sc := defScope sLaw) (by decide +kernel))
                (fun _ _ _ _ _ => pg_name (i := 14) scLw.nd rfl (Or.inl rfl)) (fun _ _ _ _ _ => pts_nil) (fun _ _ _ _ _ => pe_ix ix_str pe_str (pv 14) (fun _ _ => rfl)))) pa_nil)) (by rfl))
          -- the three other looks
          (pss_cons (ps_if (PW.pt (pw_or (pt_not (pt_val (pe_clG GS clean hr (by decide) rfl (pa_cons (pv 9) (pa_cons (pv 10) pa_nil)))))
              (pw_or (pt_not (pt_val (pe_clG GL clean hr (by decide) rfl (pa_cons (pv 5) (pa_cons (pv 4) pa_nil)))))
              (pw_or1 (pt_not (pt_val (pe_clG GL clean hr (by decide) rfl (pa_cons (pv 4) (pa_cons (pv 4) pa_nil))))))))) (pss_one (ps_ret pe_bl)) pss_nil)
          -- start, stop, some = least_patch(old, new)
          (pss_cons (ps_asg (pe_cl CL hr (by decide) rfl (pa_cons (pv 4) (pa_cons (pv 5) pa_nil)))
            (pg_tup rfl (pgs_cons (pg_name (i := 11) scLw.nd rfl (Or.inl rfl)) (pgs_cons (pg_name (i := 12) scLw.nd rfl (Or.inl rfl)) (pgs_cons (pg_name (i := 13) scLw.nd rfl (Or.inl rfl)) pgs_nil)))))
          -- all sizes
          (pss_cons (psImp' tLess (ps_if (PW.pt (pw_and (pt_cmpR op_lt (pe_callB call_len_seq (by rfl) T.len PySem.boot_len (pa_cons (pv 4) pa_nil)) pe_int (nomark _))
              (pw_and1 (pt_cmpR op_ne (pe_op op_add (pe_op op_sub (pv 12) (pv 11)) (pe_callB call_len_seq (by rfl) T.len PySem.boot_len (pa_cons (pv 13) pa_nil)))
                (pe_callB (cr_min rfl) (by rfl) T.min (by decide +kernel) (pa_cons (pe_cl CZ hr (by decide) rfl (pa_cons (pv 4) (pa_cons (pv 5) pa_nil))) pa_nil)) (nomark _))))) (pss_one (ps_ret pe_bl)) pss_nil) ?C8)
          -- some.append(9)
          (pss_cons (ps_expr (pe_bm PySem.F.plainAttrs_list PySem.F.slot_list_append PySem.F.type_list_append mt_append (pv 13) (pa_cons pe_int pa_nil)))
          -- nothing was changed; the empty ones
          (pss_one (ps_if (PW.pt (pw_or (pt_cmpR (op_neD hr.units) (pv 5) (pv 8) (nomark _))
              (pw_or (pt_cmpR (op_neD hr.units) (pe_cl CS hr (by decide) rfl (pa_cons pe_str (pa_cons pe_str pa_nil))) (pe_tup (pa_cons pe_int (pa_cons pe_int (pa_cons pe_str pa_nil)))) (nomark _))
              (pw_or1 (pt_cmpR (op_neD hr.units) (pe_cl CL hr (by decide) rfl (pa_cons (pe_lst pa_nil) (pa_cons (pe_lst pa_nil) pa_nil))) (pe_tup (pa_cons pe_int (pa_cons pe_int (pa_cons (pe_lst pa_nil) pa_nil)))) (nomark _))))))
            (pss_one (ps_ret pe_bl)) pss_nil))))))))))))))) (pss_one (ps_ret pe_bl)), ?R⟩
    case C2 =>
      rintro D σ H1 ⟨a, b, o, p, i, t, xo, xn, n, v6, v7, v8, v9, v10, v11, v12, v13, v14, rfl, nb, nob, npb, s1, b1, hn, ho, hp, lo, ln, fo, fn, nxt⟩
      refine ⟨_, rfl, _, _, rfl, rfl, (show (0 : Int) < 2 by decide), rfl, _, rfl, ?_⟩
      refine ite2 (fun _yes => ?_) (fun _no => ?_)
      · refine ⟨_, rfl, _, rfl, o, _, rfl, .inl (SqL.of ho), _, _, rfl, rfl, b, _, n, rfl, b1, by omega, ?_, ?_, fun H2 r k2 b2 r0 r1 => ?_⟩
        · rw [List.length_map]; omega
        · rw [List.length_map]; omega
        have s2 := sameKeep s1 k2 nb
        have ho2 := k2 _ _ nob ho
        have hp2 := k2 _ _ npb hp
        refine ⟨_, rfl, _, rfl, _, rfl, o, _, rfl, SqL.of ho2, fun c1 n1 => ?_⟩
        rw [cutI_map]
        have nc1b : c1 ≠ b := b2.ne n1
        refine ⟨_, rfl, c1, p, _, _, rfl, rfl, upd_same, sameNew (Same.refl _) n1 _ _ hp2, ?_, fun c2 n2 => ?_⟩
        · have := cutI_len xo none (some r)
          rw [List.length_map, List.length_map]
          exact Nat.le_trans (m := 1000) (by omega) (by decide)
        have t1 : Same H2 (upd (upd H2 c1 (Il (cutI xo none (some r)))) c2 (.lst ((cutI xo none (some r)).map V.int ++ xn.map V.int))) := sameNew (sameNew (Same.refl H2) n1) n2
        have b3 := b2.same t1
        have nc2b : c2 ≠ b := (b2.same (sameNew (o := Il (cutI xo none (some r))) (Same.refl H2) n1)).ne n2
        refine ⟨_, rfl, _, rfl, _, rfl, b, 9, n + 1, rfl, b3, by omega, by decide, by decide, fun H3 r' k3 b4 r0' r1' => ?_⟩
        have ho3 := k3 _ _ nob (t1 _ _ ho2)
        refine ⟨_, _, rfl, rfl, _, rfl, o, _, rfl, SqL.of ho3, fun c3 n3 => ?_⟩
        rw [cutI_map]
        have hc2 := k3 _ _ nc2b upd_same
        refine ⟨c2, c3, _, _, rfl, rfl, sameNew (Same.refl _) n3 _ _ hc2, upd_same, ?_, fun c4 n4 => ?_⟩
        · have := cutI_len xo none (some r)
          have := cutI_len xo (some (r + r')) none
          rw [List.length_append, List.length_map, List.length_map, List.length_map]
          exact Nat.le_trans (m := 1000) (by omega) (by decide)
        have s3 := sameKeep (s2.trans t1) k3 nb
        have t2 : Same H3 (upd (upd H3 c3 (Il (cutI xo (some (r + r')) none))) c4 (.lst ((cutI xo none (some r)).map V.int ++ xn.map V.int ++ (cutI xo (some (r + r')) none).map V.int))) := sameNew (sameNew (Same.refl H3) n3) n4
        have nc4b : c4 ≠ b := (b4.same (sameNew (o := Il (cutI xo (some (r + r')) none)) (Same.refl H3) n3)).ne n4
        refine nxt _ c4 (cutI xo none (some r) ++ xn ++ cutI xo (some (r + r')) none) _ (s3.trans t2) (b4.same t2) (t2 _ _ ho3) ?_ nc4b ?_ ?_
        · rw [upd_same, Il, List.map_append, List.map_append]
        · have := cutI_len xo none (some r)
          have := cutI_len xo (some (r + r')) none
          rw [List.length_append, List.length_append]
          omega
        · exact ((cutI_few fo _ _).app fn).app (cutI_few fo _ _)
      · exact nxt H1 p xn _ s1 (b1.mono (by omega)) ho hp npb (by omega) fn
    case C8 =>
      rintro D σ H1 ⟨o, p, q, xo, xn, e4, e5, e11, e12, e13, ho, hp, hq, nxt⟩
      refine ⟨_, e4, o, _, rfl, .inl (SqL.of ho), _, _, rfl, rfl, _, rfl, ?_⟩
      refine ite2 (fun c1 => ?_) (fun _ => iteF (nxt H1 (Same.refl _)))
      have lo : xo.length ≤ 8 := by
        have := of_decide_eq_true c1
        rw [List.length_map] at this
        omega
      refine ⟨_, e12, _, e11, _, _, rfl, rfl, _, e13, q, _, rfl, .inl (SqL.of hq), _, _, rfl, rfl, ?_⟩
      refine ⟨_, e4, _, e5, o, p, xo, xn, rfl, ho, hp, lo, fun H2 z ns s2 nz hz hmem hall => ?_⟩
      refine ⟨z, ns, rfl, SqL.of hz, List.length_pos_of_mem hmem, fun m hm hle => ?_⟩
      have em : m = sz xo xn := Int.le_antisymm (hle _ hmem) (hall _ hm)
      have hx := en_l xo xn
      have hy := en_r xo xn
      have e : ((xo.length - en xo xn : Nat) : Int) - ((st xo xn : Nat) : Int) + (((mid xo xn).map V.int).length : Int) = m := by
        rw [em, List.length_map, mid_len]
        unfold sz
        omega
      refine ⟨rfl, _, rfl, ?_⟩
      rw [decide_eq_true (congrArg V.int e)]
      exact iteF (nxt H2 s2)
    case R =>
      refine ⟨_, rfl, a, _, rfl, .inl hS, _, _, rfl, _, _, rfl, ?_⟩
      have hj : ∃ j : Int, (if (if (((ns.map V.int).length : Nat) : Int) < 4 then (((ns.map V.int).length : Nat) : Int) else 4) > 1 then (if (((ns.map V.int).length : Nat) : Int) < 4 then (((ns.map V.int).length : Nat) : Int) else 4) else 1) = j ∧ 0 ≤ j ∧ j ≤ 4 := by
        refine ⟨_, rfl, ?_, ?_⟩ <;> (split <;> (try split) <;> omega)
      obtain ⟨j, ej, j0, j4⟩ := hj
      rw [ej]
      refine ⟨_, rfl, by omega, by omega, ?_⟩
      refine for_range (lo := 0) (n := j.toNat) (fun i σ H' => ∃ v1 v2 v3 v4 v5 v6 v7 v8 v9 v10 v11 v12 v13 v14 : Option V, σ = [some (.ref a), v1, v2, v3, v4, v5, v6, v7, v8, v9, v10, v11, v12, v13, v14] ∧ Same H H')
        ⟨none, none, none, none, none, none, none, none, none, none, none, none, none, none, rfl, Same.refl H⟩ ?_ ?_
      · rintro i σ H1 hi ⟨v1, v2, v3, v4, v5, v6, v7, v8, v9, v10, v11, v12, v13, v14, rfl, s1⟩
        rw [Int.zero_add]
        refine ⟨_, rfl, _, rfl, a, i, ns, rfl, s1.seq hS, by omega, fun H2 b s2 nb1 b0 => ?_⟩
        have nb : H b = none := s1.free nb1
        have s12 := s1.trans s2
        refine ⟨12, rfl, by decide, by decide, ?_⟩
        refine for_range (lo := 0) (n := 12) (fun t σ H' => ∃ v3 v4 v5 v6 v7 v8 v9 v10 v11 v12 v13 v14 : Option V, σ = [some (.ref a), some (.int (i : Int)), some (.ref b), v3, v4, v5, v6, v7, v8, v9, v10, v11, v12, v13, v14] ∧ Same H H' ∧ Bag H' b (100 * t))
          ⟨v3, v4, v5, v6, v7, v8, v9, v10, v11, v12, v13, v14, rfl, s12, b0⟩ ?_ ?_
        · clear v3 v4 v5 v6 v7 v8 v9 v10 v11 v12 v13 v14
          rintro t σ H3 ht ⟨v3, v4, v5, v6, v7, v8, v9, v10, v11, v12, v13, v14, rfl, s3, b3⟩
          rw [Int.zero_add]
          -- old, new
          obtain ⟨m, hm, hat⟩ := seven_sixty t
          refine ⟨_, rfl, by show 2 ≤ sizeLine; decide, fun l1 nl1 => ?_⟩
          refine ⟨_, rfl, _, _, rfl, rfl, (show (0 : Int) < 2 by decide), l1, _, _, _, rfl, rfl, SqL.of upd_same, hat, ?_⟩
          have s4 := sameNew (o := .lst [V.int 7, V.int 60]) s3 nl1
          refine ⟨b, m, 100 * t, rfl, b3.upd (b3.ne nl1), by omega, by omega, fun H4 o xo k4 b4 no nob ho lo fo => ?_⟩
          have s5 := sameKeep s4 k4 nb
          refine ⟨_, rfl, b, 7, _, rfl, b4, by omega, by decide, fun H5 p xn k5 b5 np npb hp ln fn => ?_⟩
          have s6 := sameKeep s5 k5 nb
          have ho5 := k5 _ _ nob ho
          refine ⟨_, _, rfl, ?_⟩
          refine ⟨a, b, o, p, i, t, xo, xn, _, v6, v7, v8, v9, v10, v11, v12, v13, v14, rfl, nb, nob, npb, s6, b5, by omega, ho5, hp, by omega, by omega, fo, fn, ?_⟩
          clear hp fn ln np npb p xn
          intro H6 p xn w6 s7 b6 ho6 hp npb ln fn
          -- kept, ahead
          refine ⟨_, rfl, o, _, rfl, .inl (SqL.of ho6), fun o2 no2 => ?_⟩
          have g1 := sameNew (o := Il xo) (Same.refl H6) no2
          refine ⟨_, rfl, p, _, rfl, .inl (SqL.of (g1 _ _ hp)), fun p2 np2 => ?_⟩
          have g2 := sameNew (o := Il xn) g1 np2
          have ho2 : upd (upd H6 o2 (Il xo)) p2 (Il xn) o2 = some (Il xo) := sameNew (Same.refl _) np2 _ _ upd_same
          have hp2 : upd (upd H6 o2 (Il xo)) p2 (Il xn) p2 = some (Il xn) := upd_same
          have lo' : xo.length ≤ 200 := by omega
          refine ⟨_, _, rfl, ?_⟩
          refine ⟨_, rfl, _, rfl, o, p, xo, xn, rfl, g2 _ _ ho6, g2 _ _ hp, lo', ln, Few.nine fn, fun H7 g3 => ⟨_, rfl, ?_⟩⟩
          have g4 := g2.trans g3
          refine iteF ?_
          refine ⟨_, rfl, _, rfl, dI xo, dI xo, dpI (g4 _ _ ho6), dpI (g3 _ _ ho2), shI _, shI _, _, rfl, ?_⟩
          rw [eqvI, decide_eq_true rfl]
          refine iteF ?_
          refine ⟨_, rfl, _, rfl, dI xn, dI xn, dpI (g4 _ _ hp), dpI (g3 _ _ hp2), shI _, shI _, _, rfl, ?_⟩
          rw [eqvI, decide_eq_true rfl]
          refine iteF ?_
          -- one
          have ho7 := g4 _ _ ho6
          have hp7 := g4 _ _ hp
          have hp27 := g3 _ _ hp2
          refine ⟨⟨_, rfl⟩, _, rfl, o, rfl, ⟨_, SqL.of ho7⟩, fun D1 nD1 => ?_⟩
          refine lc_list (K := K) (a := o) (xs := xo.map V.int) (fun i H' => H' D1 = some (.lst (((xo.take i).map fun v => mkS [cod v]).map V.str)) ∧ Same H7 H')
            ⟨upd_same, sameNew (Same.refl _) nD1⟩ (fun _ _ _ q => SqL.of (q.2 _ _ ho7)) ?_ ?_
          · rintro j x H8 hx ⟨hD, g5⟩
            rw [List.getElem?_map] at hx
            obtain ⟨v, hv, rfl⟩ := Option.map_eq_some_iff.mp hx
            have fv : 0 ≤ v ∧ v ≤ 2 := fo v (List.mem_of_getElem? hv)
            have lj : j < xo.length := (List.getElem?_eq_some_iff.mp hv).1
            refine ⟨rfl, _, rfl, v, rfl, log2Int (by omega), _, hD, ?_, ?_, sameMut g5 nD1⟩
            · rw [List.length_map, List.length_map, List.length_take]
              exact sizeBig (by omega)
            · rw [upd_same, List.take_add_one, hv, sign_str fv]
              simp
          rintro H8 ⟨hD, g5⟩
          rw [List.length_map, List.take_length] at hD
          have eo : (xo.map fun v => mkS [cod v]) = (xo.map cod).map fun c => mkS [c] := by rw [List.map_map]; rfl
          rw [eo] at hD
          refine ⟨_, D1, (xo.map cod).map fun c => mkS [c], rfl, rfl, .inl (SqL.of hD), ?_, ?_⟩
          · rw [sum_ones, List.length_map, List.length_map]
            show xo.length + xo.length * 0 ≤ 16777216
            omega
          rw [empty_str, join_signs]
          -- other
          refine ⟨⟨_, rfl⟩, _, rfl, p, rfl, ⟨_, SqL.of (g5 _ _ hp7)⟩, fun D2 nD2 => ?_⟩
          refine lc_list (K := K) (a := p) (xs := xn.map V.int) (fun i H' => H' D2 = some (.lst (((xn.take i).map fun v => mkS [cod v]).map V.str)) ∧ Same H8 H')
            ⟨upd_same, sameNew (Same.refl _) nD2⟩ (fun _ _ _ q => SqL.of (q.2 _ _ (g5 _ _ hp7))) ?_ ?_
          · rintro j x H9 hx ⟨hD', g6⟩
            rw [List.getElem?_map] at hx
            obtain ⟨v, hv, rfl⟩ := Option.map_eq_some_iff.mp hx
            have fv : 0 ≤ v ∧ v ≤ 2 := fn v (List.mem_of_getElem? hv)
            have lj : j < xn.length := (List.getElem?_eq_some_iff.mp hv).1
            refine ⟨rfl, _, rfl, _, v, cod v, rfl, rfl, by decide +kernel, sign_at fv, _, hD', ?_, ?_, sameMut g6 nD2⟩
            · rw [List.length_map, List.length_map, List.length_take]
              exact sizeBig (by omega)
            · rw [upd_same, List.take_add_one, hv]
              simp
              rfl
          rintro H9 ⟨hD', g6⟩
          rw [List.length_map, List.take_length] at hD'
          have en' : (xn.map fun v => mkS [cod v]) = (xn.map cod).map fun c => mkS [c] := by rw [List.map_map]; rfl
          rw [en'] at hD'
          refine ⟨_, D2, (xn.map cod).map fun c => mkS [c], rfl, rfl, .inl (SqL.of hD'), ?_, ?_⟩
          · rw [sum_ones, List.length_map, List.length_map]
            show xn.length + xn.length * 0 ≤ 16777216
            omega
          rw [join_signs]
          refine ⟨_, _, rfl, ?_⟩
          have h9 := g5.trans g6
          -- the three looks
          refine ⟨_, rfl, _, rfl, xo.map cod, xn.map cod, rfl, by rw [List.length_map]; exact lo', by rw [List.length_map]; exact ln, ?_, fun Ha ga => ⟨_, rfl, ?_⟩⟩
          · intro c hc
            obtain ⟨v, hv, rfl⟩ := List.mem_map.mp hc
            exact cod_le (fn v hv)
          refine iteF ?_
          have ha := h9.trans ga
          refine ⟨_, rfl, _, rfl, p, o, xn, xo, rfl, ha _ _ hp7, ha _ _ ho7, ln, lo', Few.nine fo, fun Hb gb => ⟨_, rfl, ?_⟩⟩
          refine iteF ?_
          have hb := ha.trans gb
          refine ⟨_, rfl, _, rfl, o, o, xo, xo, rfl, hb _ _ ho7, hb _ _ ho7, lo', lo', Few.nine fo, fun Hc gc => ⟨_, rfl, ?_⟩⟩
          refine iteF ?_
          have hc := hb.trans gc
          -- start, stop, some
          refine ⟨_, rfl, _, rfl, o, p, xo, xn, rfl, hc _ _ ho7, hc _ _ hp7, fun Hd z q gd nz nq hq hz => ?_⟩
          have hd := hc.trans gd
          refine ⟨z, _, rfl, SqT.of hz, rfl, _, _, rfl, _, _, rfl, _, _, rfl, rfl, ?_⟩
          refine ⟨o, p, q, xo, xn, rfl, rfl, rfl, rfl, rfl, hd _ _ ho7, hd _ _ hp7, hq, fun He ge => ?_⟩
          have he := hd.trans ge
          have hqe := ge _ _ hq
          -- some.append(9)
          refine ⟨_, rfl, .inl ⟨rfl, _, SqL.of hqe⟩, q, _, _, rfl, rfl, hqe, ?_, ?_⟩
          · have := mid_len xo xn
            rw [List.length_map]
            exact sizeBig (by omega)
          have other : ∀ (c : Addr) (u : HO), Hc c = some u → upd He q (.lst ((mid xo xn).map V.int ++ [V.int 9])) c = some u := fun c u e => by
            rw [upd_ne (ne_of_none e nq)]
            exact ge _ _ (gd _ _ e)
          -- nothing was changed
          refine ⟨_, rfl, _, rfl, dI xn, dI xn, dpI (other _ _ (hc _ _ hp7)), dpI (other _ _ (hc _ _ hp27)), shI _, shI _, _, rfl, ?_⟩
          rw [eqvI, decide_eq_true rfl]
          refine iteF ?_
          refine ⟨[], [], (by first | rfl | rw [empty_str]), by decide, by decide, fun Hf z2 gf nz2 hz2 => ?_⟩
          refine ⟨by show 3 ≤ sizeLine; decide, fun z3 nz3 => ?_⟩
          refine ⟨.tuple [.int (st ([] : List Nat) [] : Nat), .int (([] : List Nat).length - en ([] : List Nat) [] : Nat), .str (mkS (mid ([] : List Nat) []))], .tuple [.int 0, .int 0, .str (mkS [])],
            .tup (SqT.of (sameNew (Same.refl _) nz3 _ _ hz2)) (.cons (.int _) (.cons (.int _) (.cons (.str _) .nil))), .tup (SqT.of upd_same) (.cons (.int _) (.cons (.int _) (.cons (.str _) .nil))), by decide +kernel, by decide +kernel, _, rfl, ?_⟩
          rw [show PyData.eqv (.tuple [.int (st ([] : List Nat) [] : Nat), .int (([] : List Nat).length - en ([] : List Nat) [] : Nat), .str (mkS (mid ([] : List Nat) []))]) (.tuple [.int 0, .int 0, .str (mkS [])]) = true by decide +kernel]
          refine iteF ?_
          refine ⟨Nat.zero_le _, fun y1 ny1 => ⟨Nat.zero_le _, fun y2 ny2 => ?_⟩⟩
          refine ⟨y1, y2, [], [], rfl, sameNew (Same.refl _) ny2 _ _ upd_same, upd_same, fun Hg z4 q4 gg nz4 nq4 hq4 hz4 => ?_⟩
          refine ⟨Nat.zero_le _, fun y3 ny3 => ⟨by show 3 ≤ sizeLine; decide, fun z5 nz5 => ?_⟩⟩
          have gy3 := sameNew (o := .lst []) (Same.refl Hg) ny3
          have gz5 := sameNew (o := .tup [V.int 0, V.int 0, V.ref y3]) (Same.refl (upd Hg y3 (.lst []))) nz5
          refine ⟨.tuple [.int (st ([] : List Int) [] : Nat), .int (([] : List Int).length - en ([] : List Int) [] : Nat), dI (mid ([] : List Int) [])], .tuple [.int 0, .int 0, dI []],
            .tup (SqT.of (gz5 _ _ (gy3 _ _ hz4))) (.cons (.int _) (.cons (.int _) (.cons (dpI (gz5 _ _ (gy3 _ _ hq4))) .nil))), .tup (SqT.of upd_same) (.cons (.int _) (.cons (.int _) (.cons (dpI (xs := []) (gz5 _ _ upd_same)) .nil))), by decide +kernel, by decide +kernel, _, rfl, ?_⟩
          rw [show PyData.eqv (.tuple [.int (st ([] : List Int) [] : Nat), .int (([] : List Int).length - en ([] : List Int) [] : Nat), dI (mid ([] : List Int) [])]) (.tuple [.int 0, .int 0, dI []]) = true by decide +kernel]
          refine iteF ?_
          -- the next turn
          have all : ∀ (c : Addr) (u : HO), Hc c = some u → upd (upd Hg y3 (.lst [])) z5 (.tup [V.int 0, V.int 0, V.ref y3]) c = some u := fun c u e =>
            gz5 _ _ (gy3 _ _ (gg _ _ (sameNew (Same.refl _) ny2 _ _ (sameNew (Same.refl _) ny1 _ _ (sameNew (Same.refl _) nz3 _ _ (gf _ _ (other c u e)))))))
          have fin : Same H6 (upd (upd Hg y3 (.lst [])) z5 (.tup [V.int 0, V.int 0, V.ref y3])) := fun c u e => all c u (hc _ _ (g4 _ _ e))
          exact ⟨_, _, _, _, _, _, _, _, _, _, _, _, rfl, s7.trans fin, (b6.same fin).mono (by omega)⟩
        · rintro σ H3 ⟨u3, u4, u5, u6, u7, u8, u9, u10, u11, u12, u13, u14, rfl, s3, _⟩
          exact ⟨_, _, _, _, _, _, _, _, _, _, _, _, _, _, rfl, s3⟩
      · rintro σ H1 _
        exact k H1
end
end Pt

namespace Pe
open PySem PySem.Spec PyProof.Rows L2 Pr Pt
/-! ### from the promise of the law's def to the row, no repr being under way at the top -/
section
variable {P : Program} {w : World} {K : PySem.W.Frag} {mg mb : Str → Option Value} {k : Nat} {fa a : Addr} {fd : FuncData} {x : Str} {sp : Sp} {s : Shared} {vs : List Value} {ns : List Int}
/-- over an abstract heap H that tracks the script at most -/
theorem run_top {H : Hp} (inK : K.In s.heap) (hns : s.heap.Ns mainGlobals mg) (hb : s.heap.Ns builtinsNs mb) (hbb : ∀ y : Str, y ≠ "__name__" → mb y = bootBuiltins y) (lim : s.heap.NoLimit) (hg : s.gens = #[])
    (ha : s.heap.get? a = some { cls := .type "list", data := .seq vs.toArray }) (room : Room k callerA)
    (F : ∀ base : Heap, K.In base → base.Ns mainGlobals mg → FnG P w K mg base k fa fd [x] sp) (bind : ∀ (s : Shared) (u : Value), BindsTo s fd ⟨[u], []⟩ [(x, u)])
    (only : ∀ b u, H b = some u → b = a ∧ K.lookup a = none ∧ ∃ o l, u = .frz o (.lst l)) (hok : HOk P w H s.heap) (want : sp [.ref a] H (fun v _ => v = .bl true) E0) :
    codeAny (model P w) callerA (.call (.ref fa) ⟨[.ref a], []⟩) (fun r s' => r = .ok (.ret (.bool true)) ∧ OldK s.heap s'.heap ∧ s'.os = s.os ∧ AllBare s'.gens) s := by
  -- what is no list at a is not tracked
  have untracked : ∀ {b : Addr} {o : Obj}, s.heap.get? b = some o → (b = a → K.lookup a = none → False) → H b = none := by
    intro b o e no
    cases q : H b with
    | none => rfl
    | some u =>
      obtain ⟨e1, e2, _⟩ := only b u q
      exact (no e1 e2).elim
  have names : ∀ {b : Addr} {m : Str → Option Value}, s.heap.Ns b m → (hidT s.heap H).Ns b m := by
    rintro b m ⟨o, es, ep, e, d, r⟩
    refine ⟨o, es, ep, hidT_get e (untracked e fun q _ => ?_), d, r⟩
    rw [q, ha] at e
    cases e
    cases d
  have kin : K.In (hidT s.heap H) := by
    intro b o e
    refine hidT_get (inK b o e) (untracked (inK b o e) fun q z => ?_)
    rw [q, z] at e
    cases e
  have mod : Mod K mg (hidT s.heap H) := by
    obtain ⟨mc, c1, c2⟩ := lim
    exact ⟨kin, names hns, ⟨mb, names hb, hbb⟩, ⟨mc, names c1, c2⟩⟩
  have env : Env0 P w K mg (hidT s.heap H) callerA [] s H :=
    { frames := rfl, mod := mod, bs := fun b o e => of_hidT e, bsz := Nat.le_of_eq (hidT_size _ _), funs := trivial, frf := fun b z => (nomatch z), hok := hok, bare := .of_eq hg }
  refine codeAny_mono ((F _ kin (names hns)).go callerA [] s H ⟨[.ref a], []⟩ [.ref a] [.ref a] _ room rfl env (bind s (.ref a)) (.cons rfl .nil) want) ?_
  intro r s' end_
  match r, end_ with
  | .error _, z => exact False.elim z
  | .ok .next, z => exact False.elim z
  | .ok .brk, z => exact False.elim z
  | .ok .cont, z => exact False.elim z
  | .ok (.ret u), ⟨v, H', os, bare, un, hok', rv, q⟩ =>
    have q : v = .bl true := q
    subst q
    have rv : u = Value.bool true := rv
    subst rv
    refine ⟨rfl, OldK.of_keep ?_, os, bare⟩
    intro b o e
    cases z : H b with
    | none => exact un.keep b o e z (fun y => nomatch y) (fun y => nomatch y)
    | some t =>
      obtain ⟨_, _, ob, l, rfl⟩ := only b t z
      have h1 := (hok b _ z).1
      have h2 := (hok' b _ (un.frzs b ob _ z)).1
      rw [e] at h1
      cases h1
      exact h2

/-- a call of the law's def on the script -/
theorem call_top (inK : K.In s.heap) (hns : s.heap.Ns mainGlobals mg) (hb : s.heap.Ns builtinsNs mb) (hbb : ∀ y : Str, y ≠ "__name__" → mb y = bootBuiltins y) (lim : s.heap.NoLimit) (hg : s.gens = #[])
    (ha : s.heap.get? a = some { cls := .type "list", data := .seq vs.toArray }) (hi : IntsAre vs ns) (hl : ns.length ≤ sizeLine) (room : Room k callerA)
    (F : ∀ base : Heap, K.In base → base.Ns mainGlobals mg → FnG P w K mg base k fa fd [x] sp) (bind : ∀ (s : Shared) (u : Value), BindsTo s fd ⟨[u], []⟩ [(x, u)])
    (want : ∀ H : Hp, SqL K H a (ns.map V.int) → sp [.ref a] H (fun v _ => v = .bl true) E0) :
    codeAny (model P w) callerA (.call (.ref fa) ⟨[.ref a], []⟩) (fun r s' => r = .ok (.ret (.bool true)) ∧ OldK s.heap s'.heap ∧ s'.os = s.os ∧ AllBare s'.gens) s := by
  have rv := vals_ints hi
  have big : (ns.map V.int).length ≤ sizeLine := by rw [List.length_map]; exact hl
  cases look : K.lookup a with
  | some o =>
    have e := inK a o look
    rw [ha] at e
    cases e
    have S : SqL K (fun _ => none) a (ns.map V.int) := by
      refine .inr ⟨_, vs.toArray, _, look, rfl, rfl, rfl, ?_, rv⟩
      rw [List.size_toArray, ← rv.length]
      exact big
    exact run_top (H := fun _ => none) inK hns hb hbb lim hg ha room F bind (fun b u z => nomatch (show (none : Option HO) = some u from z)) (fun b u z => nomatch (show (none : Option HO) = some u from z)) (want _ S)
  | none =>
    have S : SqL K (upd (fun _ => none) a (.frz { cls := .type "list", data := .seq vs.toArray } (.lst (ns.map V.int)))) a (ns.map V.int) := .inl (.inr ⟨_, upd_same⟩)
    have at_ : ∀ b u, upd (fun _ => none) a (.frz { cls := .type "list", data := .seq vs.toArray } (.lst (ns.map V.int))) b = some u → b = a ∧ u = .frz { cls := .type "list", data := .seq vs.toArray } (.lst (ns.map V.int)) := by
      intro b u z
      by_cases e : b = a
      · subst e
        rw [upd_same] at z
        cases z
        exact ⟨rfl, rfl⟩
      · rw [upd_ne e] at z
        cases z
    refine run_top inK hns hb hbb lim hg ha room F bind (fun b u z => ?_) (fun b u z => ?_) (want _ S)
    · obtain ⟨e1, e2⟩ := at_ b u z
      exact ⟨e1, look, _, _, e2⟩
    · obtain ⟨rfl, rfl⟩ := at_ b u z
      exact ⟨ha, big, vs, _, rv, ha⟩
end

/-- the law's def, as it stands behind the top of each world -/
abbrev Stands (P : Program) (K : Params → PySem.W.Frag) (nm x : Str) (k : Nat) (sp : PySem.W.Frag → Sp) : Prop :=
  ∀ (w : World) (mg : Str → Option Value) (f : Addr) (h : Heap), (K w.params).In h → h.Ns mainGlobals mg → mg nm = some (.ref f) →
    ∃ fd : FuncData, (∀ (s : Shared) (v : Value), BindsTo s fd ⟨[v], []⟩ [(x, v)]) ∧
      ∀ base : Heap, (K w.params).In base → base.Ns mainGlobals mg → FnG P w (K w.params) mg base k f fd [x] (sp (K w.params))
theorem walk_top {l : PySem.W.OpenLaw} {most k : Nat} {pr : Program} {loose : List Str} {XP : (Str → Option Value) → Heap → Prop} {YP : World → Heap → Prop} {d : DefRec} {K : Params → PySem.W.Frag} {sp : PySem.W.Frag → Sp} {x : Str}
    (hn : l.most = some most) (line : most ≤ sizeLine) (hdf : d.params.defaults = []) (room : Room k callerA) (frag : ∀ (w : World) (h : Heap), YP w h → (K w.params).In h) (F : Stands l.prog K d.name x k sp)
    (want : ∀ (K : PySem.W.Frag) (H : Hp) (a : Addr) (ns : List Int), SqL K H a (ns.map V.int) → sp K [.ref a] H (fun v _ => v = .bl true) E0) :
    PySem.W.WalkO pr loose XP YP l.row.toRowW d [] (fun f vs => PySem.call f vs) := by
  refine Att.attach_call hn hdf ?_
  intro w s0 s1 mg mb fa o pm cd doc a vs ns G Y ho hd hcd hmg hobj hints hlen hg
  have inK := frag w _ Y
  obtain ⟨fd, bind, hF⟩ := F w mg fa _ inK G.T.g hmg
  exact call_top inK G.T.g G.T.b G.T.builtins G.T.nolimit hg hobj hints (Nat.le_trans hlen line) room hF bind fun H hS => want _ H a ns hS

/-! ### what the top has written -/
/-- a def of the module as the head finds it -/
structure At (K : PySem.W.Frag) (x : Str) (st : Stmt) (f : Addr) : Prop where
  ex : ∃ (oc : Value) (od : Option Addr) (kV doc pm : Value) (an : Option Addr) (cd ct : Value) (sl : Array (Option Value)),
    K.lookup f = some ⟨oc, od, .func (PySem.W.fnOf x x (defArgs st) (defBody st) (defScope st) .none kV doc pm an cd ct), sl⟩ ∧ PySem.W.codeIn K cd x = true
  ns : PySem.W.nsIn K mainGlobals x = some (some (.ref f))
  kept : PySem.W.keepIn K (.ref f) = true
theorem At.mk' {K : PySem.W.Frag} {x : Str} {st : Stmt} {f : Addr} {oc : Value} {od an : Option Addr} {kV doc pm cd ct : Value} {sl : Array (Option Value)}
    (a : PySem.W.nsIn K mainGlobals x = some (some (.ref f))) (l : K.lookup f = some ⟨oc, od, .func (PySem.W.fnOf x x (defArgs st) (defBody st) (defScope st) .none kV doc pm an cd ct), sl⟩) (c : PySem.W.codeIn K cd x = true) (kp : PySem.W.keepIn K (.ref f) = true) : At K x st f :=
  ⟨⟨oc, od, kV, doc, pm, an, cd, ct, sl, l, c⟩, a, kp⟩
theorem At.fn {K : PySem.W.Frag} {x : Str} {st : Stmt} {f : Addr} (h : At K x st f) : ∃ fd : FuncData, Fun K x x st f fd := by
  obtain ⟨oc, od, kV, doc, pm, an, cd, ct, sl, l, c⟩ := h.ex
  exact ⟨_, fun_mk (st := st) l c h.kept⟩
/-- the module's names that stand for nothing of its own -/
structure Free (K : PySem.W.Frag) : Prop where
  zip : PySem.W.nsIn K mainGlobals "zip" = some none
  len : PySem.W.nsIn K mainGlobals "len" = some none
  range : PySem.W.nsIn K mainGlobals "range" = some none
  min : PySem.W.nsIn K mainGlobals "min" = some none
  max : PySem.W.nsIn K mainGlobals "max" = some none
  abs : PySem.W.nsIn K mainGlobals "abs" = some none
  list : PySem.W.nsIn K mainGlobals "list" = some none
  str : PySem.W.nsIn K mainGlobals "str" = some none
  repr : PySem.W.nsIn K mainGlobals "repr" = some none
  isinstance : PySem.W.nsIn K mainGlobals "isinstance" = some none
  tuple : PySem.W.nsIn K mainGlobals "tuple" = some none

theorem all_mk {l : PySem.W.OpenLaw} {w : World} {K : PySem.W.Frag} {h : Heap} {mg : Str → Option Value} {fa f1 f2 f3 f4 f5 f6 f7 f8 f9 f10 : Addr} (X : K.In h) (G : h.Ns mainGlobals mg) (hfa : mg "law" = some (.ref fa))
    (a1 : At K "common_beginning" sCb f1) (a2 : At K "least_patch" sLp f2) (a3 : At K "_law_bag" sBag f3) (a4 : At K "_law_take" sTake f4) (a5 : At K "_law_of" sOf f5) (a6 : At K "_law_patch" sPatch f6)
    (a7 : At K "_law_drawn" sDrawn f7) (a8 : At K "_law_all_sizes" sSizes f8) (a9 : At K "_law_is_right" sRight f9) (a10 : At K "law" sLaw f10) (fr : Free K) :
    ∃ fd : FuncData, (∀ (s : Shared) (v : Value), BindsTo s fd ⟨[v], []⟩ [("_law_script", v)]) ∧ ∀ base : Heap, K.In base → base.Ns mainGlobals mg → FnG l.prog w K mg base 4 fa fd ["_law_script"] (spLaw K) := by
  have e := hfa.symm.trans (PySem.W.mg_of X G a10.ns)
  cases e
  have T : Txt mg := ⟨PySem.W.mg_none_of X G fr.zip, PySem.W.mg_none_of X G fr.len, PySem.W.mg_none_of X G fr.range, PySem.W.mg_none_of X G fr.min, PySem.W.mg_none_of X G fr.max, PySem.W.mg_none_of X G fr.abs,
    PySem.W.mg_none_of X G fr.list, PySem.W.mg_none_of X G fr.str, PySem.W.mg_none_of X G fr.repr, PySem.W.mg_none_of X G fr.isinstance, PySem.W.mg_none_of X G fr.tuple⟩
  obtain ⟨d1, F1⟩ := a1.fn
  obtain ⟨d2, F2⟩ := a2.fn
  obtain ⟨d3, F3⟩ := a3.fn
  obtain ⟨d4, F4⟩ := a4.fn
  obtain ⟨d5, F5⟩ := a5.fn
  obtain ⟨d6, F6⟩ := a6.fn
  obtain ⟨d7, F7⟩ := a7.fn
  obtain ⟨d8, F8⟩ := a8.fn
  obtain ⟨d9, F9⟩ := a9.fn
  obtain ⟨oc, od, kV, doc, pm, an, cd, ct, sl, l10, c10⟩ := a10.ex
  have b1 := F1.binds (ps := ["one", "other"]) fun _ _ _ _ _ _ us hl => match us, hl with | [_, _], _ => rfl
  have b2 := F2.binds (ps := ["old", "new"]) fun _ _ _ _ _ _ us hl => match us, hl with | [_, _], _ => rfl
  have b3 := F3.binds (ps := ["_law_script", "_law_at"]) fun _ _ _ _ _ _ us hl => match us, hl with | [_, _], _ => rfl
  have b4 := F4.binds (ps := ["_law_bag_here", "_law_many"]) fun _ _ _ _ _ _ us hl => match us, hl with | [_, _], _ => rfl
  have b5 := F5.binds (ps := ["_law_bag_here", "_law_some"]) fun _ _ _ _ _ _ us hl => match us, hl with | [_, _], _ => rfl
  have b6 := F6.binds (ps := ["_law_old", "_law_new"]) fun _ _ _ _ _ _ us hl => match us, hl with | [_, _], _ => rfl
  have b7 := F7.binds (ps := ["_law_bag_here", "_law_most"]) fun _ _ _ _ _ _ us hl => match us, hl with | [_, _], _ => rfl
  have b8 := F8.binds (ps := ["_law_old", "_law_new"]) fun _ _ _ _ _ _ us hl => match us, hl with | [_, _], _ => rfl
  have b9 := F9.binds (ps := ["_law_old", "_law_new"]) fun _ _ _ _ _ _ us hl => match us, hl with | [_, _], _ => rfl
  refine ⟨PySem.W.fnOf "law" "law" (defArgs sLaw) (defBody sLaw) (defScope sLaw) .none kV doc pm an cd ct, fun s v => .of_eq rfl, fun base _ _ => ?_⟩
  have m1 := PySem.W.mg_of X G a1.ns
  have m2 := PySem.W.mg_of X G a2.ns
  have m3 := PySem.W.mg_of X G a3.ns
  have m4 := PySem.W.mg_of X G a4.ns
  have m5 := PySem.W.mg_of X G a5.ns
  have m6 := PySem.W.mg_of X G a6.ns
  have m7 := PySem.W.mg_of X G a7.ns
  have m8 := PySem.W.mg_of X G a8.ns
  have m9 := PySem.W.mg_of X G a9.ns
  have c1L : Cl l.prog w K mg base 1 "common_beginning" ["one", "other"] spCbL := ⟨_, _, ok_cbL F1 T, m1, a1.kept, b1⟩
  have c1S : Cl l.prog w K mg base 1 "common_beginning" ["one", "other"] spCbS := ⟨_, _, ok_cbS F1 T, m1, a1.kept, b1⟩
  have c2L : Cl l.prog w K mg base 2 "least_patch" ["old", "new"] spLpL := ⟨_, _, ok_lpL F2 T c1L, m2, a2.kept, b2⟩
  have c2S : Cl l.prog w K mg base 2 "least_patch" ["old", "new"] spLpS := ⟨_, _, ok_lpS F2 T c1S, m2, a2.kept, b2⟩
  have c3 : Cl l.prog w K mg base 1 "_law_bag" ["_law_script", "_law_at"] (spBag K) := ⟨_, _, ok_bag F3 T, m3, a3.kept, b3⟩
  have c4 : Cl l.prog w K mg base 1 "_law_take" ["_law_bag_here", "_law_many"] spTake := ⟨_, _, ok_take F4 T, m4, a4.kept, b4⟩
  have c5 : Cl l.prog w K mg base 2 "_law_of" ["_law_bag_here", "_law_some"] spOf := ⟨_, _, ok_of F5 T c4, m5, a5.kept, b5⟩
  have c6L : Cl l.prog w K mg base 1 "_law_patch" ["_law_old", "_law_new"] spLpL := ⟨_, _, ok_paL F6 T, m6, a6.kept, b6⟩
  have c6S : Cl l.prog w K mg base 1 "_law_patch" ["_law_old", "_law_new"] spLpS := ⟨_, _, ok_paS F6 T, m6, a6.kept, b6⟩
  have c7 : Cl l.prog w K mg base 3 "_law_drawn" ["_law_bag_here", "_law_most"] spDrawn := ⟨_, _, ok_drawn F7 T c4 c5, m7, a7.kept, b7⟩
  have c8 : Cl l.prog w K mg base 1 "_law_all_sizes" ["_law_old", "_law_new"] spSizes := ⟨_, _, ok_sizes F8 T, m8, a8.kept, b8⟩
  have g9L : ClG l.prog w K mg base 3 "_law_is_right" ["_law_old", "_law_new"] spRightL := ⟨_, _, ok_rightL F9 T c2L c6L, m9, a9.kept, b9⟩
  have g9S : ClG l.prog w K mg base 3 "_law_is_right" ["_law_old", "_law_new"] spRightS := ⟨_, _, ok_rightS F9 T c2S c6S, m9, a9.kept, b9⟩
  exact ok_law (fun_mk (st := sLaw) l10 c10 a10.kept) T c3 c4 c7 c2L c2S c8 g9L g9S
theorem walk {l : PySem.W.OpenLaw} {pr : Program} {loose : List Str} {XP : (Str → Option Value) → Heap → Prop} {YP : World → Heap → Prop} {d : DefRec} {K : Params → PySem.W.Frag}
    (hn : l.most = some 63) (hdf : d.params.defaults = []) (frag : ∀ (w : World) (h : Heap), YP w h → (K w.params).In h) (F : Stands l.prog K d.name "_law_script" 4 spLaw) :
    PySem.W.WalkO pr loose XP YP l.row.toRowW d [] (fun f vs => PySem.call f vs) :=
  walk_top (most := 63) (k := 4) (x := "_law_script") (sp := spLaw) hn (by decide) hdf ⟨rfl, by decide, by decide⟩ frag F (fun _ _ a ns hS => ⟨a, ns, rfl, hS, fun _ => rfl⟩)
end Pe

open PySem PySem.W PyProof.Rows in
set_option maxRecDepth 100000 in
set_option maxHeartbeats 0 in
theorem PySem.Challenge.cw_piecetexts_k52_whole_least_patches_holds : PySem.Challenge.rw_piecetexts_k52_whole_least_patches.Holds := by
  w_on; o_law; k_head; (case hw => w_witness2)
  k_fill
  refine Pe.walk (l := PySem.Challenge.rw_piecetexts_k52_whole_least_patches) rfl rfl (fun w h Y => PySem.W.kIn_of Y) ?F
  case F =>
    intro w mg fa h KX G hmg
    refine' Pe.all_mk KX G hmg (Pe.At.mk' ?n1 ?l1 ?c1 ?k1) (Pe.At.mk' ?n2 ?l2 ?c2 ?k2) (Pe.At.mk' ?n3 ?l3 ?c3 ?k3) (Pe.At.mk' ?n4 ?l4 ?c4 ?k4) (Pe.At.mk' ?n5 ?l5 ?c5 ?k5) (Pe.At.mk' ?n6 ?l6 ?c6 ?k6) (Pe.At.mk' ?n7 ?l7 ?c7 ?k7) (Pe.At.mk' ?n8 ?l8 ?c8 ?k8) (Pe.At.mk' ?n9 ?l9 ?c9 ?k9) (Pe.At.mk' ?n10 ?l10 ?c10 ?k10) ⟨?z1, ?z2, ?z3, ?z4, ?z5, ?z6, ?z7, ?z8, ?z9, ?z10, ?z11⟩
    (case n1 => k_is)
    (case l1 => k_is)
    (case c1 => k_is)
    (case k1 => k_is)
    (case n2 => k_is)
    (case l2 => k_is)
    (case c2 => k_is)
    (case k2 => k_is)
    (case n3 => k_is)
    (case l3 => k_is)
    (case c3 => k_is)
    (case k3 => k_is)
    (case n4 => k_is)
    (case l4 => k_is)
    (case c4 => k_is)
    (case k4 => k_is)
    (case n5 => k_is)
    (case l5 => k_is)
    (case c5 => k_is)
    (case k5 => k_is)
    (case n6 => k_is)
    (case l6 => k_is)
    (case c6 => k_is)
    (case k6 => k_is)
    (case n7 => k_is)
    (case l7 => k_is)
    (case c7 => k_is)
    (case k7 => k_is)
    (case n8 => k_is)
    (case l8 => k_is)
    (case c8 => k_is)
    (case k8 => k_is)
    (case n9 => k_is)
    (case l9 => k_is)
    (case c9 => k_is)
    (case k9 => k_is)
    (case n10 => k_is)
    (case l10 => k_is)
    (case c10 => k_is)
    (case k10 => k_is)
    (case z1 => k_is)
    (case z2 => k_is)
    (case z3 => k_is)
    (case z4 => k_is)
    (case z5 => k_is)
    (case z6 => k_is)
    (case z7 => k_is)
    (case z8 => k_is)
    (case z9 => k_is)
    (case z10 => k_is)
    (case z11 => k_is)
