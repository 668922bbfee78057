import PyProof.Rows.All
import Wide.All
import OpenK.AllK
import Wide.FinOn
import HandS.ForMost
import HandS.TupAny
import HandS.TupMul
import HandS.Walk
import PySem.Challenge.RW_versionkept_k16_clashes_that_are_remembe
import HandS.ForExc
import HandS.Small
import HandS.ExcCtx
import HandS.SuiteRaise
import HandS.Style
import HandS.Iter
import KE.GoesMore
import HandS.AnyAll
import HandS.JoinGen
import PyProof.WalksMore
import HandS.Text
import HandS.IsInst
import PyProof.SliceStr2
import PyProof.IsiPairs
import PyProof.EqLayable
import HandS.SortRule
import PyProof.EnumMake
import PyProof.Draws
import KE.KExcSuper
import HandS.ExcSuper
import HandS.ExcField
import HandS.WordsExc
import PyProof.Rows.TmSorted
import PyProof.Rows.StrJoinMade
import HandS.More
import HandS.Dict
import HandS.TupLe
import HandS.EndTab
import KE.KNest
section
set_option Elab.async false
set_option linter.all false
set_option maxRecDepth 100000
set_option maxHeartbeats 4000000
namespace VK
open PySem L2
def topS (i : Nat) : Stmt := PySem.Challenge.pw_versionkept_k16_clashes_that_are_remembe.main.body.getD i (.Pass ⟨0, 0, 0, 0⟩)
/-- the drawing state: what is left of the cell, the place, the script, the mixer -/
abbrev stL (s0 p : Int) (sc : Addr) (s3 : Int) : List V := [.int s0, .int p, .ref sc, .int s3]
structure StAt (K : PySem.W.Frag) (H : Hp) (st sc : Addr) (ns : List Int) : Prop where
  at_ : ∃ s0 p s3, H st = some (.lst (stL s0 p sc s3)) ∧ 0 ≤ p
  hsc : H sc = some (.lst (ns.map V.int))
  ne : sc ≠ st
theorem rd_upd {H : Hp} {a b : Addr} {o u : HO} (h : Rd H a u) (n : a ≠ b) : Rd (upd H b o) a u := by
  rcases h with h | ⟨x, h⟩
  · exact .inl (by rw [upd_ne n]; exact h)
  · exact .inr ⟨x, by rw [upd_ne n]; exact h⟩
theorem sql_upd {K : PySem.W.Frag} {H : Hp} {a b : Addr} {o : HO} {xs : List V} (h : SqL K H a xs) (n : a ≠ b) : SqL K (upd H b o) a xs := by
  rcases h with h | h
  · exact .inl (rd_upd h n)
  · exact .inr h
theorem sqt_upd {K : PySem.W.Frag} {H : Hp} {a b : Addr} {o : HO} {xs : List V} (h : SqT K H a xs) (n : a ≠ b) : SqT K (upd H b o) a xs := by
  rcases h with h | h
  · exact .inl (rd_upd h n)
  · exact .inr h
/-- a cut: what holds behind the first of two statements -/
theorem cut {t u : TS} {D : Ends} {σ : St} {H : Hp} (C : St → Hp → Prop) (h1 : ∀ nx : St → Hp → Prop, (∀ σ' H', C σ' H' → nx σ' H') → t { D with nx := nx } σ H) (h2 : ∀ σ' H', C σ' H' → u D σ' H') : tSeq t u D σ H := h1 (u D) h2
theorem seq_c {v : V} {i : Nat} {u : TS} {D : Ends} {σ : St} {H : Hp} (h : u D (σ.set i (some v)) H) : tSeq (tAsg (tC v) (gName i)) u D σ H := h
/-! rules whose reading names the written part itself: for a comprehension's block -/
def rLenQ (K : PySem.W.Frag) : List V → Hp → VK → Prop := fun xs H Q => ∃ (p : Addr) (ys : List V), xs = [.ref p] ∧ (SqL K H p ys ∨ SqT K H p ys) ∧ Q (.int (ys.length : Int)) H
theorem call_lenQ {X : Cx} {K : PySem.W.Frag} (h : X.K = K) : CallR X (.builtin "len") (rLenQ K) := by
  subst h
  exact call_len_seq
theorem ix_listQ {X : Cx} {K : PySem.W.Frag} (h : X.K = K) : IxR X (rIxL K) := by
  subst h
  exact ix_list
theorem ix_tupQ {X : Cx} {K : PySem.W.Frag} (h : X.K = K) : IxR X (rIxT K) := by
  subst h
  exact ix_tup
/-- a def of the top -/
structure Df (K : PySem.W.Frag) (mg : Str → Option Value) (nm : Str) (st : Stmt) (ps : List Str) (f : Addr) (fd : FuncData) : Prop where
  F : Fun K nm nm st f fd
  m : mg nm = some (.ref f)
  b : Binds K fd ps []
/-- all but what stands at st is kept -/
def Sv (st : Addr) (H H' : Hp) : Prop := ∀ a o, a ≠ st → H a = some o → H' a = some o
theorem Sv.refl (st : Addr) (H : Hp) : Sv st H H := fun _ _ _ e => e
theorem Sv.trans {st : Addr} {H H1 H2 : Hp} (a : Sv st H H1) (b : Sv st H1 H2) : Sv st H H2 := fun x o n e => b x o n (a x o n e)
theorem Sv.same {st : Addr} {H H' : Hp} (h : Same H H') : Sv st H H' := fun a o _ e => h a o e
theorem Sv.at_ {st : Addr} {H : Hp} {o : HO} : Sv st H (upd H st o) := fun a x n e => by rw [upd_ne n]; exact e
theorem Sv.new {st p : Addr} {H : Hp} {o : HO} (h : H p = none) : Sv st H (upd H p o) := fun a x _ e => by rw [upd_ne (ne_of_none e h)]; exact e
/-- what was free ahead may change -/
theorem Sv.mut {st p : Addr} {H H' : Hp} {o : HO} (e : Sv st H H') (h : H p = none) : Sv st H (upd H' p o) := fun a x n q => by rw [upd_ne (ne_of_none q h)]; exact e a x n q
theorem same_new {p : Addr} {H : Hp} {o : HO} (h : H p = none) : Same H (upd H p o) := fun a x e => by rw [upd_ne (ne_of_none e h)]; exact e
theorem same_mut {p : Addr} {H H' : Hp} {o : HO} (e : Same H H') (h : H p = none) : Same H (upd H' p o) := fun a x q => by rw [upd_ne (ne_of_none q h)]; exact e a x q
theorem tOr_pure {t u : TT} {x y : Bool} {σ : St} {H : Hp} {Q : Bool → Hp → Prop} (ht : ∀ Q : Bool → Hp → Prop, Q x H → t σ H Q) (hu : ∀ Q : Bool → Hp → Prop, Q y H → u σ H Q) (h : Q (x || y) H) : tOr t u σ H Q := by
  refine ht _ ?_
  cases x with
  | true => exact h
  | false => exact hu _ (by simpa using h)
theorem tAnd_pure {t u : TT} {x y : Bool} {σ : St} {H : Hp} {Q : Bool → Hp → Prop} (ht : ∀ Q : Bool → Hp → Prop, Q x H → t σ H Q) (hu : ∀ Q : Bool → Hp → Prop, Q y H → u σ H Q) (h : Q (x && y) H) : tAnd t u σ H Q := by
  refine ht _ ?_
  cases x with
  | true => exact hu _ (by simpa using h)
  | false => exact h
theorem none_of {H H' : Hp} {a : Addr} (s : Same H H') (h : H' a = none) : H a = none := by
  rcases e : H a with _ | o
  · rfl
  · rw [s _ _ e] at h; cases h
theorem _root_.L2.Same.rdS {H H' : Hp} (s : Same H H') {a : Addr} {u : HO} (h : Rd H a u) : Rd H' a u := by
  rcases h with h | ⟨x, h⟩
  · exact .inl (s _ _ h)
  · exact .inr ⟨x, s _ _ h⟩
theorem _root_.L2.Same.seqT {K : PySem.W.Frag} {H H' : Hp} (s : Same H H') {a : Addr} {xs : List V} (h : SqT K H a xs) : SqT K H' a xs := by
  rcases h with h | h
  · exact .inl (s.rdS h)
  · exact .inr h
theorem Sv.rd {st : Addr} {H H' : Hp} (s : Sv st H H') {a : Addr} {u : HO} (h : Rd H a u) (n : a ≠ st) : Rd H' a u := by
  rcases h with h | ⟨x, h⟩
  · exact .inl (s _ _ n h)
  · exact .inr ⟨x, s _ _ n h⟩
theorem Sv.sql {K : PySem.W.Frag} {st : Addr} {H H' : Hp} (s : Sv st H H') {a : Addr} {xs : List V} (h : SqL K H a xs) (n : a ≠ st) : SqL K H' a xs := by
  rcases h with h | h
  · exact .inl (s.rd h n)
  · exact .inr h
/-- the state behind, from what it is now -/
theorem StAt.to {K : PySem.W.Frag} {H H' : Hp} {st sc : Addr} {ns : List Int} (h : StAt K H st sc ns) (s : Sv st H H') {s0 p s3 : Int} (e : H' st = some (.lst (stL s0 p sc s3))) (hp : 0 ≤ p) : StAt K H' st sc ns :=
  ⟨⟨s0, p, s3, e, hp⟩, s _ _ h.ne h.hsc, h.ne⟩
theorem StAt.sv {K : PySem.W.Frag} {H H' : Hp} {st sc : Addr} {ns : List Int} (h : StAt K H st sc ns) (s : Same H H') : StAt K H' st sc ns := by
  obtain ⟨s0, p, s3, e, hp⟩ := h.at_
  exact h.to (Sv.same s) (s _ _ e) hp
theorem StAt.some {K : PySem.W.Frag} {H : Hp} {st sc : Addr} {ns : List Int} (h : StAt K H st sc ns) : ∃ l, H st = Option.some (.lst l) := by
  obtain ⟨s0, p, s3, e, hp⟩ := h.at_
  exact ⟨_, e⟩
/-- a list of ours, apart from the state, is written -/
theorem StAt.put {K : PySem.W.Frag} {H : Hp} {st sc p : Addr} {ns : List Int} {o : HO} {l : List V} (h : StAt K H st sc ns) (hp : H p = Option.some (.lst l)) (n : p ≠ st) (n2 : p ≠ sc) : StAt K (upd H p o) st sc ns := by
  obtain ⟨s0, q, s3, e, hq⟩ := h.at_
  exact ⟨⟨s0, q, s3, by rw [upd_ne n.symm]; exact e, hq⟩, by rw [upd_ne n2.symm]; exact h.hsc, h.ne⟩
/-- a line: one sign and the end -/
def Ln (x : Str) : Prop := ∃ c : Nat, c ≠ 10 ∧ c < 256 ∧ x.cps.toList = [c, 10]
def Lns (ls : List Str) : Prop := ∀ x ∈ ls, Ln x
/-- facts of the top -/
structure Txt0 (mg : Str → Option Value) : Prop where
  z_len : mg "len" = none
  z_int : mg "int" = none
  z_range : mg "range" = none
  z_tuple : mg "tuple" = none
  z_list : mg "list" = none
  z_min : mg "min" = none
  z_max : mg "max" = none
  z_enumerate : mg "enumerate" = none
end VK
end

section
set_option Elab.async false
set_option linter.all false
set_option maxRecDepth 100000
set_option maxHeartbeats 4000000
namespace VK
open PySem L2
abbrev s__law_draw : Stmt := topS 37
theorem sc__law_draw : FnScope ["state", "limit", "position", "cell", "mixed", "digit"] ["state", "limit"] (defScope s__law_draw) := ⟨rfl, rfl, rfl, by decide +kernel, rfl, by decide +kernel, by decide +kernel⟩
def spDraw (K : PySem.W.Frag) : Sp := fun vs H Q _ => ∃ (st sc : Addr) (ns : List Int) (lim : Int), vs = [.ref st, .int lim] ∧ StAt K H st sc ns ∧ 0 < lim ∧ lim < 1000000000 ∧
  ∀ (d s0 p s3 : Int), 0 ≤ d → d < lim → 0 ≤ p → Q (.int d) (upd H st (.lst (stL s0 p sc s3)))
theorem nz1 : (2147483629 : Int) ≠ 0 := by decide
theorem nz2 : (2147483647 : Int) ≠ 0 := by decide
theorem nz3 : (2147483587 : Int) ≠ 0 := by decide
section
variable {P : Program} {w : World} {K : PySem.W.Frag} {mg : Str → Option Value} {base : Heap}
theorem ok_draw {f : Addr} {fd : FuncData} (F : Fun K "_law_draw" "_law_draw" s__law_draw f fd) (T : Txt0 mg) : FnOk P w K mg base CX0 1 f fd ["state", "limit"] (spDraw K) := by
  refine F.ok sc__law_draw (fun vs H Q E h => ?_) (fun cdv A outer s H vs Q E hr h => ?_)
  · obtain ⟨st, sc, ns, lim, rfl, _⟩ := h
    rfl
  · obtain ⟨st, sc, ns, lim, rfl, ⟨⟨s0, p, s3, hst, hp⟩, hsc, hne⟩, hl, hl2, k⟩ := h
    refine ⟨_, (pss_cons (ps_if (pt_cmpR op_lt (pe_ix ix_list (pv 0) pe_int (fun _ _ => rfl)) (pv 1) (nomark _))
        (pss_cons (ps_set (i := 2) sc__law_draw.nd rfl (Or.inl rfl) (pe_ix ix_list (pv 0) pe_int (fun _ _ => rfl)))
        (pss_cons (ps_asg (pe_op op_add (pv 2) pe_int) (pg_sub (pv 0) pe_int set_list))
        (pss_cons (ps_set (i := 3) sc__law_draw.nd rfl (Or.inl rfl) pe_int)
        (pss_cons (ps_if (pt_cmpR op_lt (pv 2) (pe_callB call_len_seq (by rfl) T.z_len PySem.boot_len (pa_cons (pe_ix ix_list (pv 0) pe_int (fun _ _ => rfl)) pa_nil)) (nomark _))
          (pss_one (ps_set (i := 3) sc__law_draw.nd rfl (Or.inl rfl) (pe_ix ix_list (pe_ix ix_list (pv 0) pe_int (fun _ _ => rfl)) (pv 2) (fun _ _ => rfl))))
          pss_nil)
        (pss_one (ps_if (pt_cmpR op_ge (pv 3) (pe_op op_pow pe_int pe_int) (nomark _))
          (pss_one (ps_asg (pv 3) (pg_sub (pv 0) pe_int set_list)))
          (pss_cons (ps_asg (pe_op op_modN (pe_callTy call_int1 (by rfl) T.z_int (by decide +kernel) (pa_cons (pe_op op_mul (pe_op op_add (pe_op op_add (pe_op op_add (pe_ix ix_list (pv 0) pe_int (fun _ _ => rfl)) (pe_op op_modN (pe_callTy call_int1 (by rfl) T.z_int (by decide +kernel) (pa_cons (pv 3) pa_nil)) pe_int)) (pv 2)) pe_int) pe_int) pa_nil)) pe_int) (pg_sub (pv 0) pe_int set_list))
          (pss_cons (ps_set (i := 4) sc__law_draw.nd rfl (Or.inl rfl) (pe_op op_modN (pe_callTy call_int1 (by rfl) T.z_int (by decide +kernel) (pa_cons (pe_op op_add (pe_op op_mul (pe_ix ix_list (pv 0) pe_int (fun _ _ => rfl)) pe_int) pe_int) pa_nil)) pe_int))
          (pss_one (ps_asg (pe_op op_add (pe_op op_mul (pv 4) pe_int) (pe_op op_modN (pe_callTy call_int1 (by rfl) T.z_int (by decide +kernel) (pa_cons (pe_op op_add (pe_op op_mul (pv 4) pe_int) (pe_ix ix_list (pv 0) pe_int (fun _ _ => rfl))) pa_nil)) pe_int)) (pg_sub (pv 0) pe_int set_list)))))))))))
        pss_nil)
      (pss_cons (ps_set (i := 5) sc__law_draw.nd rfl (Or.inl rfl) (pe_op op_modN (pe_callTy call_int1 (by rfl) T.z_int (by decide +kernel) (pa_cons (pe_ix ix_list (pv 0) pe_int (fun _ _ => rfl)) pa_nil)) (pv 1)))
      (pss_cons (ps_asg (pe_op op_fdivN (pe_ix ix_list (pv 0) pe_int (fun _ _ => rfl)) (pv 1)) (pg_sub (pv 0) pe_int set_list))
      (pss_one (ps_ret (pv 5)))))), ?_⟩
    refine cut (fun σ' H' => ∃ (a b c : Option V) (t0 tp t3 : Int), 0 ≤ tp ∧ σ' = [some (.ref st), some (.int lim), a, b, c, none] ∧ H' = upd H st (.lst (stL t0 tp sc t3))) (fun nx hn => ?_) (fun σ' H' hC => ?_)
    · -- state[0] < limit
      refine ⟨_, rfl, _, _, _, _, rfl, rfl, SqL.of hst, rfl, _, rfl, _, _, rfl, rfl, _, rfl, ?_⟩
      refine ite2 (fun _ => ?_) (fun _ => hn _ _ ⟨none, none, none, s0, p, s3, hp, rfl, ?_⟩)
      · -- position = state[1]; state[1] = position + 1; cell = 0
        refine ⟨_, rfl, _, _, _, _, rfl, rfl, SqL.of hst, rfl, ?_⟩
        refine ⟨_, rfl, _, _, rfl, rfl, _, rfl, st, _, _, 1, rfl, rfl, hst, rfl, ?_⟩
        have h1 : upd H st (.lst (List.set (stL s0 p sc s3) 1 (.int (p + 1)))) = upd H st (.lst (stL s0 (p + 1) sc s3)) := rfl
        have hsc1 : SqL K (upd H st (.lst (stL s0 (p + 1) sc s3))) sc (ns.map V.int) := SqL.of (by rw [upd_ne hne]; exact hsc)
        obtain ⟨pn, rfl⟩ : ∃ pn : Nat, p = (pn : Int) := ⟨p.toNat, by omega⟩
        dsimp only
        refine seq_c ?_
        refine cut (fun σ' H' => ∃ (c : Int), σ' = [some (.ref st), some (.int lim), some (.int (pn : Int)), some (.int c), none, none] ∧ H' = upd H st (.lst (stL s0 ((pn : Int) + 1) sc s3))) (fun nx' hn' => ?_) (fun σ' H' hC => ?_)
        · refine ⟨_, rfl, _, rfl, _, _, _, _, rfl, rfl, SqL.of upd_same, rfl, sc, _, rfl, .inl hsc1, _, _, rfl, rfl, _, rfl, ?_⟩
          refine ite2 (fun e => ?_) (fun _ => hn' _ _ ⟨0, rfl, rfl⟩)
          have e' : pn < (ns.map V.int).length := by
            have q : ((pn : Int)) < (((ns.map V.int).length : Nat) : Int) := of_decide_eq_true e
            omega
          have e2 : (ns.map V.int)[pn]? = some (V.int (ns[pn]'(by simpa using e'))) := by simp at e'; simp [e']
          refine ⟨_, rfl, _, _, _, _, rfl, rfl, SqL.of upd_same, rfl, _, rfl, sc, _, _, _, rfl, rfl, hsc1, atI_nat e2, hn' _ _ ⟨_, rfl, rfl⟩⟩
        · obtain ⟨c, rfl, rfl⟩ := hC
          -- if cell >= 10 ** 18
          refine ⟨_, rfl, _, _, rfl, rfl, ⟨by decide, by decide, by decide⟩, _, _, rfl, rfl, _, rfl, ?_⟩
          refine ite2 (fun _ => ?_) (fun _ => ?_)
          · refine ⟨_, rfl, _, rfl, st, _, _, 0, rfl, rfl, upd_same, rfl, ?_⟩
            exact hn _ _ ⟨_, _, _, c, (pn : Int) + 1, s3, by omega, rfl, upd_upd⟩
          · -- state[3] = ..
            refine ⟨_, rfl, _, _, _, _, rfl, rfl, SqL.of upd_same, rfl, _, rfl, .inl ⟨_, rfl, _, _, rfl, rfl, nz1, _, _, rfl, rfl, _, rfl, _, _, rfl, rfl, _, _, rfl, rfl, _, _, rfl, rfl, .inr (by decide), .inl ⟨_, rfl, _, _, rfl, rfl, nz2, ?_⟩⟩⟩
            refine ⟨_, rfl, st, _, _, 3, rfl, rfl, upd_same, rfl, ?_⟩
            rw [upd_upd]
            -- mixed = ..
            refine ⟨_, rfl, _, _, _, _, rfl, rfl, SqL.of upd_same, rfl, _, _, rfl, rfl, .inr (by decide), _, _, rfl, rfl, .inl ⟨_, rfl, _, _, rfl, rfl, nz1, ?_⟩⟩
            -- state[0] = ..
            refine ⟨_, rfl, _, _, rfl, rfl, .inr (by decide), _, rfl, _, _, rfl, rfl, .inr (by decide), _, rfl, _, _, _, _, rfl, rfl, SqL.of upd_same, rfl, _, _, rfl, rfl, .inl ⟨_, rfl, _, _, rfl, rfl, nz3, _, _, rfl, rfl, ?_⟩⟩
            refine ⟨_, rfl, st, _, _, 0, rfl, rfl, upd_same, rfl, ?_⟩
            exact hn _ _ ⟨_, _, _, _, (pn : Int) + 1, _, by omega, rfl, upd_upd⟩
      · funext b
        by_cases hb : b = st
        · subst hb
          rw [upd_same, hst]
        · rw [upd_ne hb]
    · obtain ⟨a, b, c, t0, tp, t3, htp, rfl, rfl⟩ := hC
      -- digit = int(state[0]) % limit
      refine ⟨_, rfl, _, _, _, _, rfl, rfl, SqL.of upd_same, rfl, .inl ⟨_, rfl, _, rfl, _, _, rfl, rfl, ?_, ?_⟩⟩
      · show lim ≠ 0
        omega
      -- state[0] = state[0] // limit
      refine ⟨_, rfl, _, _, _, _, rfl, rfl, SqL.of upd_same, rfl, _, rfl, _, _, rfl, rfl, ⟨by omega, by omega⟩, _, rfl, st, _, _, 0, rfl, rfl, upd_same, rfl, ?_⟩
      refine ⟨_, rfl, ?_⟩
      rw [upd_upd]
      exact k _ _ tp t3 (by rw [Int.fmod_eq_emod_of_nonneg _ (by omega)]; exact Int.emod_nonneg _ (by omega)) (by rw [Int.fmod_eq_emod_of_nonneg _ (by omega)]; exact Int.emod_lt_of_pos _ hl) htp
end
end VK
end

section
set_option Elab.async false
set_option linter.all false
set_option maxRecDepth 100000
set_option maxHeartbeats 4000000
namespace VK
open PySem L2
abbrev s__law_lines : Stmt := topS 39
theorem sc__law_lines : FnScope ["state", "many", "k"] ["state", "many"] (defScope s__law_lines) := ⟨rfl, rfl, rfl, by decide +kernel, rfl, by decide +kernel, by decide +kernel⟩
theorem abcd_at {d : Int} (h0 : 0 ≤ d) (h1 : d < 4) : ∃ c : Nat, (c ≠ 10 ∧ c < 256) ∧ atI ("abcd" : Str).cps.toList d = some c := by
  have h : d = 0 ∨ d = 1 ∨ d = 2 ∨ d = 3 := by omega
  rcases h with rfl | rfl | rfl | rfl
  · exact ⟨97, ⟨by decide, by decide⟩, by decide +kernel⟩
  · exact ⟨98, ⟨by decide, by decide⟩, by decide +kernel⟩
  · exact ⟨99, ⟨by decide, by decide⟩, by decide +kernel⟩
  · exact ⟨100, ⟨by decide, by decide⟩, by decide +kernel⟩
theorem ln_mk (c : Nat) (h : c ≠ 10 ∧ c < 256) : Ln ((⟨#[c]⟩ : Str) ++ ("\n" : Str)) := ⟨c, h.1, h.2, by
  show ((#[c] : Array Nat) ++ #[10]).toList = [c, 10]
  simp⟩
def spLines (K : PySem.W.Frag) : Sp := fun vs H Q _ => ∃ (st sc : Addr) (ns : List Int) (many : Int), vs = [.ref st, .int many] ∧ StAt K H st sc ns ∧ 0 ≤ many ∧ many < 100 ∧
  ∀ (H' : Hp) (t : Addr) (ls : List Str), Sv st H H' → StAt K H' st sc ns → H' t = some (.tup (ls.map V.str)) → Lns ls → (ls.length : Int) ≤ many → Q (.ref t) H'
section
variable {P : Program} {w : World} {K : PySem.W.Frag} {mg : Str → Option Value} {base : Heap}
theorem ok_lines {f fD : Addr} {fd fdD : FuncData} (F : Fun K "_law_lines" "_law_lines" s__law_lines f fd) (T : Txt0 mg) (D : Df K mg "_law_draw" s__law_draw ["state", "limit"] fD fdD) : FnOk P w K mg base CX0 2 f fd ["state", "many"] (spLines K) := by
  have GD : FnOk P w K mg base CX0 1 fD fdD ["state", "limit"] (spDraw K) := ok_draw D.F T
  refine F.ok sc__law_lines (fun vs H Q E h => ?_) (fun cdv A outer s H vs Q E hr h => ?_)
  · obtain ⟨st, sc, ns, many, rfl, _⟩ := h
    rfl
  · obtain ⟨st, sc, ns, many, rfl, hS, hm0, hm1, k⟩ := h
    refine ⟨_, (pss_one (ps_ret (pe_callTy call_tuple_of (by rfl) T.z_tuple (by decide +kernel) (pa_cons (pe_lc (own := [("k", 2)]) (g := gName 2) (tt := tYes) rfl sc__law_lines.nd (pi_range1 (by rfl) T.z_range (pa_cons (pe_call GD hr rfl D.m D.F.kp D.b .nil pass0 (pa_cons (pv 0) (pa_cons (pe_op op_add (pv 1) pe_int) pa_nil))) pa_nil)) (blkOk_by (own := [("k", 2)]) (N := ["state", "many", "k"]) (sc := defScope s__law_lines) (by decide +kernel)) (fun _ _ _ _ _ => (pg_name (i := 2) sc__law_lines.nd rfl (Or.inl rfl))) (fun _ _ _ _ _ => pts_nil) (fun _ _ _ _ _ => (pe_op op_add_str (pe_ix ix_str pe_str (pe_call GD hr rfl D.m D.F.kp D.b .nil pass0 (pa_cons (pv 0) (pa_cons pe_int pa_nil))) (fun _ _ => rfl)) pe_str))) pa_nil)))), ?_⟩
    refine ⟨_, rfl, _, rfl, _, _, rfl, rfl, st, sc, ns, _, rfl, hS, by show (0 : Int) < many + 1; omega, by show many + 1 < (1000000000 : Int); omega, fun d s0 p s3 hd0 hd1 hp => ?_⟩
    have hd1 : d < many + 1 := hd1
    refine ⟨d, rfl, by omega, by omega, fun D hD => ?_⟩
    have S1 : StAt K (upd H st (.lst (stL s0 p sc s3))) st sc ns := hS.to Sv.at_ upd_same hp
    have nDst : D ≠ st := fun e => by rw [e, upd_same] at hD; cases hD
    have hD0 : H D = none := by rw [upd_ne nDst] at hD; exact hD
    refine lc_range (lo := 0) (n := d.toNat) (fun i H' => ∃ ls : List Str, H' D = some (.lst (ls.map V.str)) ∧ ls.length = i ∧ Lns ls ∧ Sv st H H' ∧ StAt K H' st sc ns) ⟨[], upd_same, rfl, (fun _ h => nomatch h), Sv.at_.trans (Sv.new hD), S1.sv (same_new hD)⟩ ?_ ?_
    · rintro i H' hi ⟨ls, hl, hn, hL, hv, hs⟩
      refine ⟨rfl, _, rfl, st, sc, ns, 4, rfl, hs, by decide, by decide, fun d2 t0 tp t3 h0 h4 hp2 => ?_⟩
      obtain ⟨c, hc, hat⟩ := abcd_at h0 h4
      refine ⟨_, d2, c, rfl, rfl, by decide +kernel, hat, _, _, rfl, rfl, (by show (1 : Nat) + 1 ≤ sizeLine; decide), ls.map V.str, ?_, ?_, ?_⟩
      · rw [upd_ne nDst]; exact hl
      · rw [List.length_map, hn]
        exact Nat.lt_of_lt_of_le (show i < 100 by omega) (by decide)
      · have hs2 : StAt K (upd H' st (.lst (stL t0 tp sc t3))) st sc ns := hs.to Sv.at_ upd_same hp2
        have hsD : sc ≠ D := ne_of_none hS.hsc hD0
        refine ⟨ls ++ [(⟨#[c]⟩ : Str) ++ ("\n" : Str)], ?_, ?_, ?_, ?_, ?_⟩
        · rw [upd_same, List.map_append]; rfl
        · rw [List.length_append, hn]; rfl
        · intro x hx
          rcases List.mem_append.mp hx with hx | hx
          · exact hL x hx
          · rw [List.mem_singleton.mp hx]; exact ln_mk c hc
        · exact (hv.trans Sv.at_).mut hD0
        · exact hs2.put (l := ls.map V.str) (by rw [upd_ne nDst]; exact hl) nDst hsD.symm
    · rintro H' ⟨ls, hl, hn, hL, hv, hs⟩
      refine ⟨D, _, rfl, .inl ⟨SqL.of hl, fun t ht => ?_⟩⟩
      exact k _ t ls (hv.trans (Sv.new ht)) (hs.sv (same_new ht)) upd_same hL (by omega)
end
end VK
end

section
set_option Elab.async false
set_option linter.all false
set_option maxRecDepth 100000
set_option maxHeartbeats 4000000
namespace VK
open PySem PySem.Spec PyProof.Rows L2
/-- X(), an own exception class without __init__ -/
theorem pmk_own0 {X : Cx} {C : Addr} {bmB : List Value} {B newId initId : String} {x : Str} {p pos : Pos}
    (F : ExcBaseFacts B newId initId bmB) (q : PySem.W.excIn X.K C bmB newId = true) (gC : X.mg x = some (.ref C))
    (kC : PySem.W.keepIn X.K (.ref C) = true) (r : Raises X (.ref C)) (hg : Gl X x)
    (hdb : (x == ("__debug__" : Str)) = false := by decide) : L2N.PMk X (.Call (.Name x p) [] [] pos) (fun _ H Q => Q (.ref C) none H) := by
  intro pins s σ H Q I h
  refine wpAny_Call_Name_kw (ld_glob I hg gC ?_ hdb)
  refine PySem.W.callWith_K0 I.kIn kC ?_
  show wpAny _ _ (call (.ref C) []) _ _ _
  obtain ⟨bm, N, nm, qn, bs, hdct, sn, sub, ab, col, dd, k0, k1, k2, k3, k5, mN, hC, hN, hni, T⟩ := exc_obj I.kIn q
  exact wpAny_call_exc_subT F T hC hN hni (fun h' e hm => L2N.mk_of I hm r h (I.hok.gone hm.new)) (Nat.zero_le _)
/-- nothing is wished of what is raised: it is shown not to be -/
theorem pass_no {P : Program} {w : World} {X : Cx} : Passes (L2N.CX P w) X (fun _ _ _ => False) := fun _ _ _ _ _ _ _ h => by
  obtain ⟨_, _, _, _, _, _, _, _, _, _, _, _, h⟩ := h
  exact h.elim
/-- in a def that may raise: what the callee raises is what this one raises -/
theorem pass_on {P : Program} {w : World} {X : Cx} {E : XK} (hP : X.prog = P) (hw : X.w = w) (tk : L2N.Takes X (fun cls d _ H => E cls d H)) : Passes (L2N.CX P w) X E := fun pins σ H s e s' I h => by
  subst hP hw
  exact L2N.passes_call tk (fun _ _ _ _ z => z) pins σ H s e s' I h
section
variable {P : Program} {w : World} {K : PySem.W.Frag} {mg : Str → Option Value} {base : Heap}
/-- as Fun.okX, for exceptions without a context -/
theorem okXN {x qual : Str} {st : Stmt} {f : Addr} {fd : FuncData} {N ps : List Str} {k : Nat} {sp : Sp} (F : Fun K x qual st f fd) (S : FnScope N ps (defScope st)) (len : ∀ vs H Q E, sp vs H Q E → vs.length = ps.length)
    (hbody : ∀ (cdv : Value) (A : Around) (outer : List Env) (s : Shared) (H : Hp) (vs : List V) (Q : VK) (E : XK), Room k (A.deeper (PyProof.Rows.envOfC qual (defScope st) s.heap.objs.size f cdv)) → sp vs H Q E →
      ∃ t, PSs (cxOf (L2N.CX P w) P w K mg base N qual (defScope st) f cdv A outer s H E) (defBody st) t ∧ t { nx := fun _ H' => Q .non H', rt := Q } (start N vs) H) : FnOk P w K mg base (L2N.CX P w) (k + 1) f fd ps sp := by
  obtain ⟨oc, od, kV, doc, pm, an, cdv, ct, osl, rfl, lk, hcd⟩ := F.ex
  exact fn_of lk hcd S len fun A outer s H vs Q E hr hsp => hbody cdv A outer s H vs Q E hr hsp
end
/-- the class TooLarge -/
structure TL (K : PySem.W.Frag) (mg : Str → Option Value) (C : Addr) : Prop where
  g : mg "TooLarge" = some (.ref C)
  x : PySem.W.excIn K C [.type "ValueError", .type "Exception", .type "BaseException", .type "object"] "ValueError.__new__" = true
  k : PySem.W.keepIn K (.ref C) = true
  s : PySem.W.subIn K (.ref C) (.type "BaseException") = some true
  t : PySem.W.typeIn K (.ref C) = some (.type "type")
end VK
end

section
set_option Elab.async false
set_option linter.all false
set_option maxRecDepth 100000
set_option maxHeartbeats 4000000
namespace VK
open PySem L2
/-! ### the length of a longest common row -/
def lcs : List Str → List Str → Nat
  | [], _ => 0
  | _ :: _, [] => 0
  | x :: xs, y :: ys => if x = y then lcs xs ys + 1 else max (lcs xs (y :: ys)) (lcs (x :: xs) ys)
termination_by xs ys => xs.length + ys.length
decreasing_by all_goals (simp_wf <;> omega)
theorem lcs_nil (ys : List Str) : lcs [] ys = 0 := by unfold lcs; rfl
theorem lcs_nil2 (xs : List Str) : lcs xs [] = 0 := by cases xs <;> (unfold lcs; rfl)
theorem lcs_cons (x y : Str) (xs ys : List Str) : lcs (x :: xs) (y :: ys) = if x = y then lcs xs ys + 1 else max (lcs xs (y :: ys)) (lcs (x :: xs) ys) := by
  rw [lcs]
/-- the table -/
def T (one two : List Str) (i j : Nat) : Nat := lcs (one.drop i) (two.drop j)
theorem T_end1 {one two : List Str} {i j : Nat} (h : one.length ≤ i) : T one two i j = 0 := by
  unfold T
  rw [List.drop_eq_nil_of_le h, lcs_nil]
theorem T_end2 {one two : List Str} {i j : Nat} (h : two.length ≤ j) : T one two i j = 0 := by
  unfold T
  rw [List.drop_eq_nil_of_le h, lcs_nil2]
theorem T_eq {one two : List Str} {i j : Nat} {x : Str} (h1 : one[i]? = some x) (h2 : two[j]? = some x) : T one two i j = T one two (i + 1) (j + 1) + 1 := by
  obtain ⟨a1, a2⟩ := List.getElem?_eq_some_iff.mp h1
  obtain ⟨b1, b2⟩ := List.getElem?_eq_some_iff.mp h2
  unfold T
  rw [List.drop_eq_getElem_cons a1, List.drop_eq_getElem_cons b1, lcs_cons, a2, b2, if_pos rfl]
theorem T_ne {one two : List Str} {i j : Nat} {x y : Str} (h1 : one[i]? = some x) (h2 : two[j]? = some y) (n : x ≠ y) : T one two i j = max (T one two (i + 1) j) (T one two i (j + 1)) := by
  obtain ⟨a1, a2⟩ := List.getElem?_eq_some_iff.mp h1
  obtain ⟨b1, b2⟩ := List.getElem?_eq_some_iff.mp h2
  unfold T
  rw [List.drop_eq_getElem_cons a1, List.drop_eq_getElem_cons b1, lcs_cons, a2, b2, if_neg n]
theorem lcs_le1 : ∀ (xs ys : List Str), lcs xs ys ≤ xs.length
  | [], ys => by rw [lcs_nil]; exact Nat.zero_le _
  | x :: xs, [] => by rw [lcs_nil2]; exact Nat.zero_le _
  | x :: xs, y :: ys => by
    rw [lcs_cons]
    have h1 := lcs_le1 xs ys
    have h2 := lcs_le1 xs (y :: ys)
    have h3 := lcs_le1 (x :: xs) ys
    simp only [List.length_cons] at h3 ⊢
    split <;> omega
termination_by xs ys => xs.length + ys.length
decreasing_by all_goals (simp_wf <;> omega)
/-! ### rows of ints in the heap -/
def rowL (m : Nat) (g : Nat → Int) : List V := (List.range (m + 1)).map fun j => V.int (g j)
theorem rowL_len (m : Nat) (g : Nat → Int) : (rowL m g).length = m + 1 := by unfold rowL; simp
theorem rowL_at {m : Nat} {g : Nat → Int} {k : Nat} (h : k ≤ m) : (rowL m g)[k]? = some (V.int (g k)) := by
  unfold rowL
  rw [List.getElem?_map, List.getElem?_range (by omega)]
  rfl
theorem rowL_set {m : Nat} {g : Nat → Int} {k : Nat} {v : Int} (h : k ≤ m) : (rowL m g).set k (V.int v) = rowL m fun j => if j = k then v else g j := by
  apply List.ext_getElem?
  intro i
  by_cases hi : i ≤ m
  · rw [rowL_at hi, List.getElem?_set]
    by_cases e : k = i
    · subst e
      simp [rowL_len, h, Nat.lt_succ_of_le h]
    · rw [if_neg e, rowL_at hi, if_neg (fun q => e q.symm)]
  · rw [List.getElem?_eq_none (by rw [List.length_set, rowL_len]; omega), List.getElem?_eq_none (by rw [rowL_len]; omega)]
/-- a list of lists of ints -/
structure Tb (H : Hp) (t : Addr) (as : List Addr) (m : Nat) (g : Nat → Nat → Int) : Prop where
  at_ : H t = some (.lst (as.map V.ref))
  row : ∀ (i : Nat) a, as[i]? = some a → H a = some (.lst (rowL m (g i)))
  nd : ∀ (i j : Nat) a, as[i]? = some a → as[j]? = some a → i = j
  nt : ∀ (i : Nat) a, as[i]? = some a → a ≠ t
theorem Tb.put {H : Hp} {t a : Addr} {as : List Addr} {m i k : Nat} {g : Nat → Nat → Int} {v : Int} (h : Tb H t as m g) (ha : as[i]? = some a) (hk : k ≤ m) :
    Tb (upd H a (.lst ((rowL m (g i)).set k (V.int v)))) t as m (fun i' j => if i' = i ∧ j = k then v else g i' j) where
  at_ := by rw [upd_ne (h.nt i a ha).symm]; exact h.at_
  row := fun i' b hb => by
    by_cases e : i' = i
    · subst e
      have q : b = a := Option.some.inj (hb.symm.trans ha)
      subst q
      rw [upd_same, rowL_set hk]
      have q2 : (fun j => if j = k then v else g i' j) = (fun j => if i' = i' ∧ j = k then v else g i' j) := by funext j; simp
      rw [q2]
    · have q : b ≠ a := fun z => e (h.nd i' i a (z ▸ hb) ha)
      rw [upd_ne q, h.row i' b hb]
      have q2 : (fun j => g i' j) = (fun j => if i' = i ∧ j = k then v else g i' j) := by funext j; simp [e]
      rw [← q2]
  nd := h.nd
  nt := h.nt
theorem Tb.same {H H' : Hp} {t : Addr} {as : List Addr} {m : Nat} {g : Nat → Nat → Int} (h : Tb H t as m g) (s : Same H H') : Tb H' t as m g :=
  ⟨s _ _ h.at_, fun i a e => s _ _ (h.row i a e), h.nd, h.nt⟩
/-- the table of two rows of lines stands at t -/
def TabOk (H : Hp) (t : Addr) (one two : List Str) : Prop :=
  ∃ as g, as.length = one.length + 1 ∧ Tb H t as two.length g ∧ ∀ i j, i ≤ one.length → j ≤ two.length → g i j = (T one two i j : Int)
theorem TabOk.same {H H' : Hp} {t : Addr} {one two : List Str} (h : TabOk H t one two) (s : Same H H') : TabOk H' t one two := by
  obtain ⟨as, g, h1, h2, h3⟩ := h
  exact ⟨as, g, h1, h2.same s, h3⟩
/-- an entry -/
theorem TabOk.get {H : Hp} {t : Addr} {one two : List Str} (h : TabOk H t one two) {i j : Nat} (hi : i ≤ one.length) (hj : j ≤ two.length) :
    ∃ as a row, H t = some (.lst as) ∧ as[i]? = some (V.ref a) ∧ H a = some (.lst row) ∧ row[j]? = some (V.int (T one two i j : Int)) := by
  obtain ⟨as, g, h1, h2, h3⟩ := h
  have hl : i < as.length := by omega
  have ha : as[i]? = some as[i] := List.getElem?_eq_getElem hl
  refine ⟨_, as[i], _, h2.at_, by rw [List.getElem?_map, ha]; rfl, h2.row i _ ha, ?_⟩
  rw [rowL_at hj, h3 i j hi hj]
/-- .. and its rows are new -/
def TabAt (H0 H : Hp) (t : Addr) (one two : List Str) : Prop :=
  ∃ as g, as.length = one.length + 1 ∧ Tb H t as two.length g ∧ (∀ i j, i ≤ one.length → j ≤ two.length → g i j = (T one two i j : Int)) ∧ H0 t = none ∧ ∀ (i : Nat) a, as[i]? = some a → H0 a = none
theorem TabAt.ok {H0 H : Hp} {t : Addr} {one two : List Str} (h : TabAt H0 H t one two) : TabOk H t one two := by
  obtain ⟨as, g, h1, h2, h3, h4, h5⟩ := h
  exact ⟨as, g, h1, h2, h3⟩
/-- what was there ahead is no part of it -/
theorem TabAt.sv {H0 H H' : Hp} {t fo : Addr} {o : HO} {one two : List Str} (h : TabAt H0 H t one two) (ho : H0 fo = some o) (s : Sv fo H H') : TabAt H0 H' t one two := by
  obtain ⟨as, g, h1, h2, h3, h4, h5⟩ := h
  have n1 : t ≠ fo := fun e => by rw [e, ho] at h4; cases h4
  have n2 : ∀ (i : Nat) a, as[i]? = some a → a ≠ fo := fun i a e z => by
    have := h5 i a e
    rw [z, ho] at this; cases this
  exact ⟨as, g, h1, ⟨s _ _ n1 h2.at_, fun i a e => s _ _ (n2 i a e) (h2.row i a e), h2.nd, h2.nt⟩, h3, h4, h5⟩
end VK
end

section
set_option Elab.async false
set_option linter.all false
set_option maxRecDepth 100000
set_option maxHeartbeats 4000000
namespace VK
open PySem L2
abbrev s_common_table : Stmt := topS 8
theorem sc_common_table : FnScope ["one", "two", "table", "first", "row", "below", "second", "_"] ["one", "two"] (defScope s_common_table) := ⟨rfl, rfl, rfl, by decide +kernel, rfl, by decide +kernel, by decide +kernel⟩
/-- rows of a table, new since H: fresh, unlike, apart from the table -/
structure Fr (H0 : Hp) (t : Addr) (as : List Addr) : Prop where
  t : H0 t = none
  row : ∀ (i : Nat) a, as[i]? = some a → H0 a = none
theorem rep_zero (m : Nat) : (List.replicate (((m : Int) + 1).toNat) [V.int 0]).flatten = rowL m fun _ => 0 := by
  have e : ((m : Int) + 1).toNat = m + 1 := by omega
  rw [e]
  unfold rowL
  generalize m + 1 = k
  induction k with
  | zero => rfl
  | succ k ih => rw [List.replicate_succ', List.flatten_append, ih, List.range_succ, List.map_append]; rfl
def spTable (K : PySem.W.Frag) (C : Addr) : Sp := fun vs H Q E => ∃ (a b : Addr) (one two : List Str), vs = [.ref a, .ref b] ∧ SqT K H a (one.map V.str) ∧ SqT K H b (two.map V.str) ∧ one.length ≤ 1000 ∧ two.length ≤ 1000 ∧
  (40000 < one.length * two.length → E (.ref C) none H) ∧ (one.length * two.length ≤ 40000 → ∀ (H' : Hp) (t : Addr), Same H H' → TabAt H H' t one two → Q (.ref t) H')
/-- the making of a table of zeros: what the comprehension keeps -/
structure Mk0 (H0 H : Hp) (D : Addr) (m i : Nat) (as : List Addr) : Prop where
  len : as.length = i
  at_ : H D = some (.lst (as.map V.ref))
  row : ∀ (k : Nat) a, as[k]? = some a → H a = some (.lst (rowL m fun _ => 0)) ∧ H0 a = none ∧ a ≠ D
  nd : ∀ (j k : Nat) a, as[j]? = some a → as[k]? = some a → j = k
  same : Same H0 H
theorem Mk0.more {H0 H : Hp} {D p q : Addr} {m i : Nat} {as : List Addr} {xs : List V} (h : Mk0 H0 H D m i as) (h0 : H0 D = none) (hp : H p = none) (hq : upd H p (.lst xs) q = none) :
    Mk0 H0 (upd (upd (upd H p (.lst xs)) q (.lst (rowL m fun _ => 0))) D (.lst ((as.map V.ref) ++ [V.ref q]))) D m (i + 1) (as ++ [q]) where
  len := by rw [List.length_append, h.len]; rfl
  at_ := by rw [upd_same, List.map_append]; rfl
  row := fun k a e => by
    have nqp : q ≠ p := fun z => by rw [z, upd_same] at hq; cases hq
    have hq' : H q = none := by rw [upd_ne nqp] at hq; exact hq
    have nqD : q ≠ D := (ne_of_none h.at_ hq').symm
    by_cases hk : k < as.length
    · rw [List.getElem?_append_left hk] at e
      obtain ⟨h1, h2, h3⟩ := h.row k a e
      refine ⟨?_, h2, h3⟩
      rw [upd_ne h3, upd_ne (ne_of_none h1 hq'), upd_ne (ne_of_none h1 hp)]
      exact h1
    · have hk2 : k = as.length := by
        have z := (List.getElem?_eq_some_iff.mp e).1
        rw [List.length_append] at z
        simp at z
        omega
      subst hk2
      rw [List.getElem?_append_right (Nat.le_refl _)] at e
      simp at e
      subst e
      refine ⟨by rw [upd_ne nqD, upd_same], h.same.free hq', nqD⟩
  nd := fun j k a e1 e2 => by
    have nqp : q ≠ p := fun z => by rw [z, upd_same] at hq; cases hq
    have hq' : H q = none := by rw [upd_ne nqp] at hq; exact hq
    have old : ∀ j a, as[j]? = some a → a ≠ q := fun j a e => ne_of_none (h.row j a e).1 hq'
    have lst : ∀ j a, (as ++ [q])[j]? = some a → as[j]? = some a ∨ (j = as.length ∧ a = q) := fun j a e => by
      by_cases hj : j < as.length
      · rw [List.getElem?_append_left hj] at e; exact .inl e
      · have z := (List.getElem?_eq_some_iff.mp e).1
        rw [List.length_append] at z
        simp at z
        have hj2 : j = as.length := by omega
        subst hj2
        rw [List.getElem?_append_right (Nat.le_refl _)] at e
        simp at e
        exact .inr ⟨rfl, e.symm⟩
    rcases lst j a e1 with x | ⟨x, y⟩
    · rcases lst k a e2 with x2 | ⟨x2, y2⟩
      · exact h.nd j k a x x2
      · exact absurd y2 (old j a x)
    · rcases lst k a e2 with x2 | ⟨x2, y2⟩
      · exact absurd y (old k a x2)
      · rw [x, x2]
  same := by
    refine fun b o e => ?_
    have e1 := h.same b o e
    have nbp : b ≠ p := ne_of_none e1 hp
    have e2 : upd H p (.lst xs) b = some o := by rw [upd_ne nbp]; exact e1
    have nbq : b ≠ q := ne_of_none e2 hq
    rw [upd_ne (ne_of_none e h0), upd_ne nbq]
    exact e2
section
variable {P : Program} {w : World} {K : PySem.W.Frag} {mg : Str → Option Value} {base : Heap}
theorem ok_table {f C : Addr} {fd : FuncData} (F : Fun K "common_table" "common_table" s_common_table f fd) (T0 : Txt0 mg) (L : TL K mg C) {tM : Tok} (hc : mg "MOST_PLACES" = some (.int 40000 tM)) : FnOk P w K mg base (L2N.CX P w) 1 f fd ["one", "two"] (spTable K C) := by
  refine okXN F sc_common_table (fun vs H Q E h => ?_) (fun cdv A outer s H vs Q E hr h => ?_)
  · obtain ⟨a, b, one, two, rfl, _⟩ := h
    rfl
  · obtain ⟨a, b, one, two, rfl, hA, hB, ha, hb, kE, k⟩ := h
    refine ⟨_, (pss_cons (ps_if (pt_cmpR op_gt (pe_op op_mul (pe_callB call_len_seq (by rfl) T0.z_len PySem.boot_len (pa_cons (pv 0) pa_nil)) (pe_callB call_len_seq (by rfl) T0.z_len PySem.boot_len (pa_cons (pv 1) pa_nil))) (pe_glob (v := .int 40000) rfl hc ⟨_, rfl⟩) (nomark _))
        (pss_one (L2N.ps_raise rfl (L2N.takes_of rfl rfl rfl rfl) (pmk_own0 PySem.F.excBase_ValueError L.x L.g L.k (raises_own L.s L.t) rfl)))
        pss_nil)
      (pss_cons (ps_setLc (i := 2) (own := [("_", 7)]) (g := gName 7) (tt := tYes) rfl sc_common_table.nd rfl rfl (sw_true rfl rfl rfl (by decide +kernel)) (pi_range1 (by rfl) T0.z_range (pa_cons (pe_op op_add (pe_callB call_len_seq (by rfl) T0.z_len PySem.boot_len (pa_cons (pv 0) pa_nil)) pe_int) pa_nil)) (blkOk_by (own := [("_", 7)]) (N := ["one", "two", "table", "first", "row", "below", "second", "_"]) (sc := defScope s_common_table) (by decide +kernel)) (fun _ _ _ _ _ => (pg_name (i := 7) sc_common_table.nd rfl (Or.inl rfl))) (fun _ _ _ _ _ => pts_nil) (fun _ _ _ _ _ => (pe_op op_rep (pe_lst (pa_cons pe_int pa_nil)) (pe_op op_add (pe_callB (call_lenQ (K := K) rfl) (by rfl) T0.z_len PySem.boot_len (pa_cons (pv 1) pa_nil)) pe_int))))
      (pss_cons (ps_for (passes_of rfl) rfl (pi_range3 (by rfl) T0.z_range (pa_cons (pe_op op_sub (pe_callB call_len_seq (by rfl) T0.z_len PySem.boot_len (pa_cons (pv 0) pa_nil)) pe_int) (pa_cons (pe_un un_neg pe_int) (pa_cons (pe_un un_neg pe_int) pa_nil)))) (pg_name (i := 3) sc_common_table.nd rfl (Or.inl rfl))
        (pss_cons (ps_par (i := 4) (j := 5) (by rfl) sc_common_table.nd rfl rfl (by decide) rfl rfl (pa_cons (pe_ix ix_list (pv 2) (pv 3) (fun _ _ => rfl)) (pa_cons (pe_ix ix_list (pv 2) (pe_op op_add (pv 3) pe_int) (fun _ _ => rfl)) pa_nil)) (by rfl))
        (pss_one (ps_for (passes_of rfl) rfl (pi_range3 (by rfl) T0.z_range (pa_cons (pe_op op_sub (pe_callB call_len_seq (by rfl) T0.z_len PySem.boot_len (pa_cons (pv 1) pa_nil)) pe_int) (pa_cons (pe_un un_neg pe_int) (pa_cons (pe_un un_neg pe_int) pa_nil)))) (pg_name (i := 6) sc_common_table.nd rfl (Or.inl rfl))
          (pss_one (ps_if (pt_cmpR op_eq (pe_ix ix_tup (pv 0) (pv 3) (fun _ _ => rfl)) (pe_ix ix_tup (pv 1) (pv 6) (fun _ _ => rfl)) (nomark _))
            (pss_one (ps_asg (pe_op op_add (pe_ix ix_list (pv 5) (pe_op op_add (pv 6) pe_int) (fun _ _ => rfl)) pe_int) (pg_sub (pv 4) (pv 6) set_list)))
            (pss_one (ps_asg (pe_callB (call_max2 rfl) (by rfl) T0.z_max (by decide +kernel) (pa_cons (pe_ix ix_list (pv 5) (pv 6) (fun _ _ => rfl)) (pa_cons (pe_ix ix_list (pv 4) (pe_op op_add (pv 6) pe_int) (fun _ _ => rfl)) pa_nil))) (pg_sub (pv 4) (pv 6) set_list)))))))))
      (pss_one (ps_ret (pv 2)))))), ?_⟩
    -- if len(one) * len(two) > MOST_PLACES
    refine ⟨_, rfl, a, _, rfl, .inr hA, _, rfl, b, _, rfl, .inr hB, _, _, rfl, rfl, .inl (by simp only [List.length_map]; omega), _, _, rfl, rfl, _, rfl, ?_⟩
    simp only [List.length_map]
    refine ite2 (fun e => kE ?_) (fun e => ?_)
    · have q : (40000 : Int) < (one.length : Int) * (two.length : Int) := of_decide_eq_true e
      have q2 : ((one.length * two.length : Nat) : Int) = (one.length : Int) * (two.length : Int) := Int.natCast_mul _ _
      omega
    have hle : one.length * two.length ≤ 40000 := by
      have q2 : ((one.length * two.length : Nat) : Int) = (one.length : Int) * (two.length : Int) := Int.natCast_mul _ _
      have q : ¬ (40000 : Int) < (one.length : Int) * (two.length : Int) := fun z => e (decide_eq_true z)
      omega
    have k := k hle
    -- table = [[0] * (len(two) + 1) for _ in range(len(one) + 1)]
    refine ⟨_, rfl, a, _, rfl, .inr hA, _, _, rfl, rfl, _, rfl, ?_, ?_, fun D hD => ?_⟩
    · simp only [List.length_map]; omega
    · simp only [List.length_map]; omega
    have en : ((one.map V.str).length : Int) + 1 = ((one.length + 1 : Nat) : Int) := by simp
    refine lc_range (lo := 0) (n := (((one.map V.str).length : Int) + 1).toNat) (fun i H' => ∃ as, Mk0 H H' D two.length i as) ⟨[], rfl, upd_same, (fun k a e => nomatch e), (fun j k a e => nomatch e), same_new hD⟩ ?_ ?_
    · rintro i H' hi ⟨as, M⟩
      refine ⟨rfl, by show 1 ≤ sizeLine; decide, fun p hp => ?_⟩
      have hB' : SqT K (upd H' p (.lst [V.int 0])) b (two.map V.str) := (M.same.trans (same_new hp)).seqT hB
      refine ⟨_, rfl, b, _, rfl, .inr hB', _, _, rfl, rfl, p, _, _, rfl, rfl, upd_same, ?_, ?_, ?_, fun q hq => ?_⟩
      · simp only [List.length_map]; omega
      · simp only [List.length_map]; omega
      · simp only [List.length_map, List.length_singleton]
        exact Nat.le_trans (show 1 * ((two.length : Int) + 1).toNat ≤ 1001 by omega) (by decide)
      · have e0 : (List.replicate (((two.map V.str).length : Int) + 1).toNat [V.int 0]).flatten = rowL two.length fun _ => 0 := by
          rw [List.length_map]
          exact rep_zero two.length
        have nD : D ≠ p := ne_of_none M.at_ hp
        have e1 : upd H' p (.lst [V.int 0]) D = some (.lst (as.map V.ref)) := by rw [upd_ne nD]; exact M.at_
        have nDq : D ≠ q := ne_of_none e1 hq
        refine ⟨as.map V.ref, by rw [upd_ne nDq]; exact e1, ?_, as ++ [q], ?_⟩
        · rw [List.length_map, M.len]
          have hi' : i < one.length + 1 := by rw [en] at hi; simpa using hi
          exact Nat.lt_of_lt_of_le (show i < 2000 by omega) (by decide)
        · have e2 : (fun i j => V.int (i + j)) ((two.map V.str).length : Int) 1 = V.int (((two.map V.str).length : Int) + 1) := rfl
          rw [e0]
          exact M.more hD hp hq
    · rintro H1 ⟨as, M⟩
      have hlen : as.length = one.length + 1 := by rw [M.len, en]; simp
      have tb0 : Tb H1 D as two.length fun _ _ => 0 := ⟨M.at_, fun i a e => (M.row i a e).1, M.nd, fun i a e => (M.row i a e).2.2⟩
      have fr : ∀ (i : Nat) a, as[i]? = some a → H a = none := fun i a e => (M.row i a e).2.1
      -- for first in range(len(one) - 1, -1, -1)
      have hA1 : SqT K H1 a (one.map V.str) := M.same.seqT hA
      refine ⟨_, rfl, a, _, rfl, .inr hA1, _, _, rfl, rfl, _, rfl, _, rfl, (one.length : Int) - 1, -1, -1, one.length, ?_, ?_, ?_⟩
      · simp only [List.length_map]
      · have q := RgC.neg (i := (one.length : Int) - 1) (j := -1) (by omega) (by omega) (by omega) (by omega)
        have e : ((one.length : Int) - 1 - -1).toNat = one.length := by omega
        rw [e] at q
        exact q
      refine for_it walk_rangeC (fun i σ H' => ∃ (g : Nat → Nat → Int) (x3 x4 x5 x6 : Option V), σ = [some (.ref a), some (.ref b), some (.ref D), x3, x4, x5, x6, none] ∧ Tb H' D as two.length g ∧ Same H H' ∧
          ∀ r j, r ≤ one.length → j ≤ two.length → g r j = if one.length - i ≤ r then (T one two r j : Int) else 0) ?_ (fun _ _ _ _ _ => trivial) ?_ ?_
      · refine ⟨fun _ _ => 0, none, none, none, none, rfl, tb0, M.same, fun r j hr hj => ?_⟩
        by_cases e : one.length - 0 ≤ r
        · rw [if_pos e, T_end1 (by omega)]; rfl
        · rw [if_neg e]
      · rintro i x σ H2o H2 hi ⟨g, x3, x4, x5, x6, rfl, tb, sm, hg⟩ ⟨rfl, hx⟩
        obtain ⟨r, hr⟩ : ∃ r : Nat, r = one.length - 1 - i := ⟨_, rfl⟩
        have er : ((one.length : Int) - 1 + (i : Nat) * -1) = (r : Int) := by omega
        obtain rfl : x = V.int (r : Int) := hx.trans (congrArg V.int er)
        have l1 : r < as.length := by omega
        have l2 : r + 1 < as.length := by omega
        have r1 : as[r]? = some as[r] := List.getElem?_eq_getElem l1
        have r2 : as[r + 1]? = some as[r + 1] := List.getElem?_eq_getElem l2
        have q1 : (as.map V.ref)[r]? = some (V.ref as[r]) := by rw [List.getElem?_map, r1]; rfl
        have q2 : (as.map V.ref)[r + 1]? = some (V.ref as[r + 1]) := by rw [List.getElem?_map, r2]; rfl
        -- row, below = (table[first], table[first + 1])
        refine ⟨_, rfl, _, rfl, D, _, _, _, rfl, rfl, SqL.of tb.at_, atI_nat q1, _, rfl, _, rfl, _, _, rfl, rfl, D, _, _, _, rfl, rfl, SqL.of tb.at_, atI_nat (j := r + 1) q2, _, _, rfl, ?_⟩
        -- for second in range(len(two) - 1, -1, -1)
        have hB1 : SqT K H2 b (two.map V.str) := sm.seqT hB
        refine ⟨_, rfl, b, _, rfl, .inr hB1, _, _, rfl, rfl, _, rfl, _, rfl, (two.length : Int) - 1, -1, -1, two.length, ?_, ?_, ?_⟩
        · simp only [List.length_map]
        · have q := RgC.neg (i := (two.length : Int) - 1) (j := -1) (by omega) (by omega) (by omega) (by omega)
          have e : ((two.length : Int) - 1 - -1).toNat = two.length := by omega
          rw [e] at q
          exact q
        refine for_it walk_rangeC (fun t σ H3 => ∃ (g' : Nat → Nat → Int) (y6 : Option V), σ = [some (.ref a), some (.ref b), some (.ref D), some (.int (r : Int)), some (.ref as[r]), some (.ref as[r + 1]), y6, none] ∧ Tb H3 D as two.length g' ∧ Same H H3 ∧
            ∀ r' j, r' ≤ one.length → j ≤ two.length → g' r' j = if r + 1 ≤ r' then (T one two r' j : Int) else if r' = r ∧ two.length - t ≤ j then (T one two r j : Int) else 0) ?_ (fun _ _ _ _ _ => trivial) ?_ ?_
        · refine ⟨g, x6, rfl, tb, sm, fun r' j h1 h2 => ?_⟩
          rw [hg r' j h1 h2]
          by_cases e : r + 1 ≤ r'
          · rw [if_pos e, if_pos (by omega)]
          · rw [if_neg e, if_neg (by omega)]
            by_cases e2 : r' = r ∧ two.length - 0 ≤ j
            · rw [if_pos e2, T_end2 (by omega)]; rfl
            · rw [if_neg e2]
        · rintro t x σ H3o H3 ht ⟨g', y6, rfl, tb', sm', hg'⟩ ⟨rfl, hx⟩
          obtain ⟨s, hs⟩ : ∃ s : Nat, s = two.length - 1 - t := ⟨_, rfl⟩
          have es : ((two.length : Int) - 1 + (t : Nat) * -1) = (s : Int) := by omega
          obtain rfl : x = V.int (s : Int) := hx.trans (congrArg V.int es)
          have hA2 : SqT K H3 a (one.map V.str) := sm'.seqT hA
          have hB2 : SqT K H3 b (two.map V.str) := sm'.seqT hB
          have o1 : r < one.length := by omega
          have o2 : s < two.length := by omega
          have n1 : one[r]? = some one[r] := List.getElem?_eq_getElem o1
          have n2 : two[s]? = some two[s] := List.getElem?_eq_getElem o2
          have m1 : (one.map V.str)[r]? = some (V.str one[r]) := by rw [List.getElem?_map, n1]; rfl
          have m2 : (two.map V.str)[s]? = some (V.str two[s]) := by rw [List.getElem?_map, n2]; rfl
          have w1 := tb'.row r _ r1
          have w2 := tb'.row (r + 1) _ r2
          have v1 : (rowL two.length (g' (r + 1)))[s + 1]? = some (V.int (T one two (r + 1) (s + 1) : Int)) := by
            rw [rowL_at (by omega), hg' (r + 1) (s + 1) (by omega) (by omega), if_pos (Nat.le_refl _)]
          have v2 : (rowL two.length (g' (r + 1)))[s]? = some (V.int (T one two (r + 1) s : Int)) := by
            rw [rowL_at (by omega), hg' (r + 1) s (by omega) (by omega), if_pos (Nat.le_refl _)]
          have v3 : (rowL two.length (g' r))[s + 1]? = some (V.int (T one two r (s + 1) : Int)) := by
            rw [rowL_at (by omega), hg' r (s + 1) (by omega) (by omega), if_neg (by omega), if_pos ⟨rfl, by omega⟩]
          have ixs : ixN (rowL two.length (g' r)).length (s : Int) = some s := by
            rw [rowL_len]
            unfold ixN
            rw [if_pos (by omega), if_pos (by omega)]
            rfl
          have fin : ∀ v : Int, v = (T one two r s : Int) → ∃ (gg : Nat → Nat → Int) (y6 : Option V), [some (V.ref a), some (.ref b), some (.ref D), some (.int (r : Int)), some (.ref as[r]), some (.ref as[r + 1]), some (.int (s : Int)), none] = [some (V.ref a), some (.ref b), some (.ref D), some (.int (r : Int)), some (.ref as[r]), some (.ref as[r + 1]), y6, none] ∧
              Tb (upd H3 as[r] (.lst ((rowL two.length (g' r)).set s (V.int v)))) D as two.length gg ∧ Same H (upd H3 as[r] (.lst ((rowL two.length (g' r)).set s (V.int v)))) ∧
            ∀ r' j, r' ≤ one.length → j ≤ two.length → gg r' j = if r + 1 ≤ r' then (T one two r' j : Int) else if r' = r ∧ two.length - (t + 1) ≤ j then (T one two r j : Int) else 0 := by
            intro v hv
            refine ⟨_, some (.int (s : Int)), rfl, tb'.put r1 (show s ≤ two.length by omega), same_mut sm' (fr r _ r1), fun r' j h1 h2 => ?_⟩
            by_cases e : r' = r ∧ j = s
            · obtain ⟨e1, e2⟩ := e
              subst e1 e2
              rw [if_pos ⟨rfl, rfl⟩, if_neg (by omega), if_pos ⟨rfl, by omega⟩, hv]
            · rw [if_neg e, hg' r' j h1 h2]
              by_cases e3 : r + 1 ≤ r'
              · rw [if_pos e3, if_pos e3]
              · rw [if_neg e3, if_neg e3]
                by_cases e4 : r' = r
                · by_cases e5 : two.length - t ≤ j
                  · rw [if_pos ⟨e4, e5⟩, if_pos ⟨e4, by omega⟩]
                  · have e6 : j ≠ s := fun z => e ⟨e4, z⟩
                    rw [if_neg (fun z => e5 z.2), if_neg (fun z => by have := z.2; omega)]
                · rw [if_neg (fun z => e4 z.1), if_neg (fun z => e4 z.1)]
          refine ⟨_, rfl, _, rfl, a, _, _, _, rfl, rfl, hA2, atI_nat m1, _, rfl, _, rfl, b, _, _, _, rfl, rfl, hB2, atI_nat m2, rfl, _, rfl, ?_⟩
          refine ite2 (fun e => ?_) (fun e => ?_)
          · have e' : one[r] = two[s] := V.str.inj (of_decide_eq_true e)
            refine ⟨_, rfl, _, rfl, _, _, rfl, rfl, _, _, _, _, rfl, rfl, SqL.of w2, atI_nat (j := s + 1) v1, _, _, rfl, rfl, _, rfl, _, rfl, _, _, _, s, rfl, rfl, w1, ixs, ?_⟩
            refine fin _ ?_
            rw [T_eq n1 (e' ▸ n2)]
            omega
          · have e' : one[r] ≠ two[s] := fun z => e (decide_eq_true (congrArg V.str z))
            refine ⟨_, rfl, _, rfl, _, _, _, _, rfl, rfl, SqL.of w2, atI_nat (j := s) v2, _, rfl, _, rfl, _, _, rfl, rfl, _, _, _, _, rfl, rfl, SqL.of w1, atI_nat (j := s + 1) v3, _, _, rfl, _, rfl, _, rfl, _, _, _, s, rfl, rfl, w1, ixs, ?_⟩
            refine fin _ ?_
            rw [T_ne n1 n2 e']
            split <;> omega
        · rintro σ H3 ⟨g', y6, rfl, tb', sm', hg'⟩
          refine ⟨g', _, _, _, y6, rfl, tb', sm', fun r' j h1 h2 => ?_⟩
          rw [hg' r' j h1 h2]
          by_cases e : r + 1 ≤ r'
          · rw [if_pos e, if_pos (by omega)]
          · rw [if_neg e]
            by_cases e2 : r' = r
            · subst e2
              rw [if_pos ⟨rfl, by omega⟩, if_pos (by omega)]
            · rw [if_neg (fun z => e2 z.1), if_neg (by omega)]
      · rintro σ H2 ⟨g, x3, x4, x5, x6, rfl, tb, sm, hg⟩
        refine ⟨_, rfl, k H2 D sm ⟨as, g, hlen, tb, fun i j h1 h2 => ?_, hD, fr⟩⟩
        rw [hg i j h1 h2, if_pos (by omega)]
end
end VK
end

section
set_option Elab.async false
set_option linter.all false
set_option maxRecDepth 100000
set_option maxHeartbeats 4000000
namespace VK
open PySem L2
abbrev s__law_table : Stmt := topS 40
theorem sc__law_table : FnScope ["one", "two", "table", "i", "j", "k"] ["one", "two"] (defScope s__law_table) := ⟨rfl, rfl, rfl, by decide +kernel, rfl, by decide +kernel, by decide +kernel⟩
def spLTable (K : PySem.W.Frag) : Sp := fun vs H Q _ => ∃ (a b : Addr) (one two : List Str), vs = [.ref a, .ref b] ∧ SqT K H a (one.map V.str) ∧ SqT K H b (two.map V.str) ∧ one.length ≤ 1000 ∧ two.length ≤ 1000 ∧
  ∀ (H' : Hp) (t : Addr), Same H H' → H t = none → TabOk H' t one two → Q (.ref t) H'
section
variable {P : Program} {w : World} {K : PySem.W.Frag} {mg : Str → Option Value} {base : Heap}
theorem ok_ltable {f : Addr} {fd : FuncData} (F : Fun K "_law_table" "_law_table" s__law_table f fd) (T0 : Txt0 mg) : FnOk P w K mg base CX0 1 f fd ["one", "two"] (spLTable K) := by
  refine F.ok sc__law_table (fun vs H Q E h => ?_) (fun cdv A outer s H vs Q E hr h => ?_)
  · obtain ⟨a, b, one, two, rfl, _⟩ := h
    rfl
  · obtain ⟨a, b, one, two, rfl, hA, hB, ha, hb, k⟩ := h
    refine ⟨_, (pss_cons (ps_setLc (i := 2) (own := [("k", 5)]) (g := gName 5) (tt := tYes) rfl sc__law_table.nd rfl rfl (sw_true rfl rfl rfl (by decide +kernel)) (pi_range1 (by rfl) T0.z_range (pa_cons (pe_op op_add (pe_callB call_len_seq (by rfl) T0.z_len PySem.boot_len (pa_cons (pv 0) pa_nil)) pe_int) pa_nil)) (blkOk_by (own := [("k", 5)]) (N := ["one", "two", "table", "i", "j", "k"]) (sc := defScope s__law_table) (by decide +kernel)) (fun _ _ _ _ _ => (pg_name (i := 5) sc__law_table.nd rfl (Or.inl rfl))) (fun _ _ _ _ _ => pts_nil) (fun _ _ _ _ _ => (pe_op op_rep (pe_lst (pa_cons pe_int pa_nil)) (pe_op op_add (pe_callB (call_lenQ (K := K) rfl) (by rfl) T0.z_len PySem.boot_len (pa_cons (pv 1) pa_nil)) pe_int))))
      (pss_cons (ps_for PassesOwn.never rfl (pi_range3 (by rfl) T0.z_range (pa_cons (pe_op op_sub (pe_callB call_len_seq (by rfl) T0.z_len PySem.boot_len (pa_cons (pv 0) pa_nil)) pe_int) (pa_cons (pe_op op_sub pe_int pe_int) (pa_cons (pe_op op_sub pe_int pe_int) pa_nil)))) (pg_name (i := 3) sc__law_table.nd rfl (Or.inl rfl))
        (pss_one (ps_for PassesOwn.never rfl (pi_range3 (by rfl) T0.z_range (pa_cons (pe_op op_sub (pe_callB call_len_seq (by rfl) T0.z_len PySem.boot_len (pa_cons (pv 1) pa_nil)) pe_int) (pa_cons (pe_op op_sub pe_int pe_int) (pa_cons (pe_op op_sub pe_int pe_int) pa_nil)))) (pg_name (i := 4) sc__law_table.nd rfl (Or.inl rfl))
          (pss_one (ps_asg (pe_ifExp (pt_cmpR op_eq (pe_ix ix_tup (pv 0) (pv 3) (fun _ _ => rfl)) (pe_ix ix_tup (pv 1) (pv 4) (fun _ _ => rfl)) (nomark _)) (pe_op op_add (pe_ix ix_list (pe_ix ix_list (pv 2) (pe_op op_add (pv 3) pe_int) (fun _ _ => rfl)) (pe_op op_add (pv 4) pe_int) (fun _ _ => rfl)) pe_int) (pe_callB (call_max2 rfl) (by rfl) T0.z_max (by decide +kernel) (pa_cons (pe_ix ix_list (pe_ix ix_list (pv 2) (pe_op op_add (pv 3) pe_int) (fun _ _ => rfl)) (pv 4) (fun _ _ => rfl)) (pa_cons (pe_ix ix_list (pe_ix ix_list (pv 2) (pv 3) (fun _ _ => rfl)) (pe_op op_add (pv 4) pe_int) (fun _ _ => rfl)) pa_nil)))) (pg_sub (pe_ix ix_list (pv 2) (pv 3) (fun _ _ => rfl)) (pv 4) set_list))))))
      (pss_one (ps_ret (pv 2))))), ?_⟩
    -- table = [[0] * (len(two) + 1) for _ in range(len(one) + 1)]
    refine ⟨_, rfl, a, _, rfl, .inr hA, _, _, rfl, rfl, _, rfl, ?_, ?_, fun D hD => ?_⟩
    · simp only [List.length_map]; omega
    · simp only [List.length_map]; omega
    have en : ((one.map V.str).length : Int) + 1 = ((one.length + 1 : Nat) : Int) := by simp
    refine lc_range (lo := 0) (n := (((one.map V.str).length : Int) + 1).toNat) (fun i H' => ∃ as, Mk0 H H' D two.length i as) ⟨[], rfl, upd_same, (fun k a e => nomatch e), (fun j k a e => nomatch e), same_new hD⟩ ?_ ?_
    · rintro i H' hi ⟨as, M⟩
      refine ⟨rfl, by show 1 ≤ sizeLine; decide, fun p hp => ?_⟩
      have hB' : SqT K (upd H' p (.lst [V.int 0])) b (two.map V.str) := (M.same.trans (same_new hp)).seqT hB
      refine ⟨_, rfl, b, _, rfl, .inr hB', _, _, rfl, rfl, p, _, _, rfl, rfl, upd_same, ?_, ?_, ?_, fun q hq => ?_⟩
      · simp only [List.length_map]; omega
      · simp only [List.length_map]; omega
      · simp only [List.length_map, List.length_singleton]
        exact Nat.le_trans (show 1 * ((two.length : Int) + 1).toNat ≤ 1001 by omega) (by decide)
      · have e0 : (List.replicate (((two.map V.str).length : Int) + 1).toNat [V.int 0]).flatten = rowL two.length fun _ => 0 := by
          rw [List.length_map]
          exact rep_zero two.length
        have nD : D ≠ p := ne_of_none M.at_ hp
        have e1 : upd H' p (.lst [V.int 0]) D = some (.lst (as.map V.ref)) := by rw [upd_ne nD]; exact M.at_
        have nDq : D ≠ q := ne_of_none e1 hq
        refine ⟨as.map V.ref, by rw [upd_ne nDq]; exact e1, ?_, as ++ [q], ?_⟩
        · rw [List.length_map, M.len]
          have hi' : i < one.length + 1 := by rw [en] at hi; simpa using hi
          exact Nat.lt_of_lt_of_le (show i < 2000 by omega) (by decide)
        · have e2 : (fun i j => V.int (i + j)) ((two.map V.str).length : Int) 1 = V.int (((two.map V.str).length : Int) + 1) := rfl
          rw [e0]
          exact M.more hD hp hq
    · rintro H1 ⟨as, M⟩
      have hlen : as.length = one.length + 1 := by rw [M.len, en]; simp
      have tb0 : Tb H1 D as two.length fun _ _ => 0 := ⟨M.at_, fun i a e => (M.row i a e).1, M.nd, fun i a e => (M.row i a e).2.2⟩
      have fr : ∀ (i : Nat) a, as[i]? = some a → H a = none := fun i a e => (M.row i a e).2.1
      -- for first in range(len(one) - 1, -1, -1)
      have hA1 : SqT K H1 a (one.map V.str) := M.same.seqT hA
      refine ⟨_, rfl, a, _, rfl, .inr hA1, _, _, rfl, rfl, _, _, rfl, rfl, _, _, rfl, rfl, (one.length : Int) - 1, -1, -1, one.length, ?_, ?_, ?_⟩
      · simp only [List.length_map]; rfl
      · have q := RgC.neg (i := (one.length : Int) - 1) (j := -1) (by omega) (by omega) (by omega) (by omega)
        have e : ((one.length : Int) - 1 - -1).toNat = one.length := by omega
        rw [e] at q
        exact q
      refine for_it walk_rangeC (fun i σ H' => ∃ (g : Nat → Nat → Int) (x3 x4 : Option V), σ = [some (.ref a), some (.ref b), some (.ref D), x3, x4, none] ∧ Tb H' D as two.length g ∧ Same H H' ∧
          ∀ r j, r ≤ one.length → j ≤ two.length → g r j = if one.length - i ≤ r then (T one two r j : Int) else 0) ?_ (fun _ _ _ _ _ => trivial) ?_ ?_
      · refine ⟨fun _ _ => 0, none, none, rfl, tb0, M.same, fun r j hr hj => ?_⟩
        by_cases e : one.length - 0 ≤ r
        · rw [if_pos e, T_end1 (by omega)]; rfl
        · rw [if_neg e]
      · rintro i x σ H2o H2 hi ⟨g, x3, x4, rfl, tb, sm, hg⟩ ⟨rfl, hx⟩
        obtain ⟨r, hr⟩ : ∃ r : Nat, r = one.length - 1 - i := ⟨_, rfl⟩
        have er : ((one.length : Int) - 1 + (i : Nat) * -1) = (r : Int) := by omega
        obtain rfl : x = V.int (r : Int) := hx.trans (congrArg V.int er)
        have l1 : r < as.length := by omega
        have l2 : r + 1 < as.length := by omega
        have r1 : as[r]? = some as[r] := List.getElem?_eq_getElem l1
        have r2 : as[r + 1]? = some as[r + 1] := List.getElem?_eq_getElem l2
        have q1 : (as.map V.ref)[r]? = some (V.ref as[r]) := by rw [List.getElem?_map, r1]; rfl
        have q2 : (as.map V.ref)[r + 1]? = some (V.ref as[r + 1]) := by rw [List.getElem?_map, r2]; rfl
        -- for second in range(len(two) - 1, -1, -1)
        have hB1 : SqT K H2 b (two.map V.str) := sm.seqT hB
        refine ⟨_, rfl, b, _, rfl, .inr hB1, _, _, rfl, rfl, _, _, rfl, rfl, _, _, rfl, rfl, (two.length : Int) - 1, -1, -1, two.length, ?_, ?_, ?_⟩
        · simp only [List.length_map]; rfl
        · have q := RgC.neg (i := (two.length : Int) - 1) (j := -1) (by omega) (by omega) (by omega) (by omega)
          have e : ((two.length : Int) - 1 - -1).toNat = two.length := by omega
          rw [e] at q
          exact q
        refine for_it walk_rangeC (fun t σ H3 => ∃ (g' : Nat → Nat → Int) (y6 : Option V), σ = [some (.ref a), some (.ref b), some (.ref D), some (.int (r : Int)), y6, none] ∧ Tb H3 D as two.length g' ∧ Same H H3 ∧
            ∀ r' j, r' ≤ one.length → j ≤ two.length → g' r' j = if r + 1 ≤ r' then (T one two r' j : Int) else if r' = r ∧ two.length - t ≤ j then (T one two r j : Int) else 0) ?_ (fun _ _ _ _ _ => trivial) ?_ ?_
        · refine ⟨g, x4, rfl, tb, sm, fun r' j h1 h2 => ?_⟩
          rw [hg r' j h1 h2]
          by_cases e : r + 1 ≤ r'
          · rw [if_pos e, if_pos (by omega)]
          · rw [if_neg e, if_neg (by omega)]
            by_cases e2 : r' = r ∧ two.length - 0 ≤ j
            · rw [if_pos e2, T_end2 (by omega)]; rfl
            · rw [if_neg e2]
        · rintro t x σ H3o H3 ht ⟨g', y6, rfl, tb', sm', hg'⟩ ⟨rfl, hx⟩
          obtain ⟨s, hs⟩ : ∃ s : Nat, s = two.length - 1 - t := ⟨_, rfl⟩
          have es : ((two.length : Int) - 1 + (t : Nat) * -1) = (s : Int) := by omega
          obtain rfl : x = V.int (s : Int) := hx.trans (congrArg V.int es)
          have hA2 : SqT K H3 a (one.map V.str) := sm'.seqT hA
          have hB2 : SqT K H3 b (two.map V.str) := sm'.seqT hB
          have o1 : r < one.length := by omega
          have o2 : s < two.length := by omega
          have n1 : one[r]? = some one[r] := List.getElem?_eq_getElem o1
          have n2 : two[s]? = some two[s] := List.getElem?_eq_getElem o2
          have m1 : (one.map V.str)[r]? = some (V.str one[r]) := by rw [List.getElem?_map, n1]; rfl
          have m2 : (two.map V.str)[s]? = some (V.str two[s]) := by rw [List.getElem?_map, n2]; rfl
          have w1 := tb'.row r _ r1
          have w2 := tb'.row (r + 1) _ r2
          have v1 : (rowL two.length (g' (r + 1)))[s + 1]? = some (V.int (T one two (r + 1) (s + 1) : Int)) := by
            rw [rowL_at (by omega), hg' (r + 1) (s + 1) (by omega) (by omega), if_pos (Nat.le_refl _)]
          have v2 : (rowL two.length (g' (r + 1)))[s]? = some (V.int (T one two (r + 1) s : Int)) := by
            rw [rowL_at (by omega), hg' (r + 1) s (by omega) (by omega), if_pos (Nat.le_refl _)]
          have v3 : (rowL two.length (g' r))[s + 1]? = some (V.int (T one two r (s + 1) : Int)) := by
            rw [rowL_at (by omega), hg' r (s + 1) (by omega) (by omega), if_neg (by omega), if_pos ⟨rfl, by omega⟩]
          have ixs : ixN (rowL two.length (g' r)).length (s : Int) = some s := by
            rw [rowL_len]
            unfold ixN
            rw [if_pos (by omega), if_pos (by omega)]
            rfl
          have fin : ∀ v : Int, v = (T one two r s : Int) → ∃ (gg : Nat → Nat → Int) (y6 : Option V), [some (V.ref a), some (.ref b), some (.ref D), some (.int (r : Int)), some (.int (s : Int)), none] = [some (V.ref a), some (.ref b), some (.ref D), some (.int (r : Int)), y6, none] ∧
              Tb (upd H3 as[r] (.lst ((rowL two.length (g' r)).set s (V.int v)))) D as two.length gg ∧ Same H (upd H3 as[r] (.lst ((rowL two.length (g' r)).set s (V.int v)))) ∧
            ∀ r' j, r' ≤ one.length → j ≤ two.length → gg r' j = if r + 1 ≤ r' then (T one two r' j : Int) else if r' = r ∧ two.length - (t + 1) ≤ j then (T one two r j : Int) else 0 := by
            intro v hv
            refine ⟨_, some (.int (s : Int)), rfl, tb'.put r1 (show s ≤ two.length by omega), same_mut sm' (fr r _ r1), fun r' j h1 h2 => ?_⟩
            by_cases e : r' = r ∧ j = s
            · obtain ⟨e1, e2⟩ := e
              subst e1 e2
              rw [if_pos ⟨rfl, rfl⟩, if_neg (by omega), if_pos ⟨rfl, by omega⟩, hv]
            · rw [if_neg e, hg' r' j h1 h2]
              by_cases e3 : r + 1 ≤ r'
              · rw [if_pos e3, if_pos e3]
              · rw [if_neg e3, if_neg e3]
                by_cases e4 : r' = r
                · by_cases e5 : two.length - t ≤ j
                  · rw [if_pos ⟨e4, e5⟩, if_pos ⟨e4, by omega⟩]
                  · have e6 : j ≠ s := fun z => e ⟨e4, z⟩
                    rw [if_neg (fun z => e5 z.2), if_neg (fun z => by have := z.2; omega)]
                · rw [if_neg (fun z => e4 z.1), if_neg (fun z => e4 z.1)]
          refine ⟨_, rfl, _, rfl, a, _, _, _, rfl, rfl, hA2, atI_nat m1, _, rfl, _, rfl, b, _, _, _, rfl, rfl, hB2, atI_nat m2, rfl, _, rfl, ?_⟩
          have q1' : (as.map V.ref)[r]? = some (V.ref as[r]) := q1
          refine ite2 (fun e => ?_) (fun e => ?_)
          · have e' : one[r] = two[s] := V.str.inj (of_decide_eq_true e)
            refine ⟨_, rfl, _, rfl, _, _, rfl, rfl, D, _, _, _, rfl, rfl, SqL.of tb'.at_, atI_nat (j := r + 1) q2, _, rfl, _, _, rfl, rfl, _, _, _, _, rfl, rfl, SqL.of w2, atI_nat (j := s + 1) v1, _, _, rfl, rfl, ?_⟩
            refine ⟨_, rfl, _, rfl, D, _, _, _, rfl, rfl, SqL.of tb'.at_, atI_nat q1, _, rfl, _, _, _, s, rfl, rfl, w1, ixs, ?_⟩
            refine fin _ ?_
            rw [T_eq n1 (e' ▸ n2)]
            omega
          · have e' : one[r] ≠ two[s] := fun z => e (decide_eq_true (congrArg V.str z))
            refine ⟨_, rfl, _, rfl, _, _, rfl, rfl, D, _, _, _, rfl, rfl, SqL.of tb'.at_, atI_nat (j := r + 1) q2, _, rfl, _, _, _, _, rfl, rfl, SqL.of w2, atI_nat (j := s) v2, ?_⟩
            refine ⟨_, rfl, _, rfl, D, _, _, _, rfl, rfl, SqL.of tb'.at_, atI_nat q1, _, rfl, _, _, rfl, rfl, _, _, _, _, rfl, rfl, SqL.of w1, atI_nat (j := s + 1) v3, _, _, rfl, ?_⟩
            refine ⟨_, rfl, _, rfl, D, _, _, _, rfl, rfl, SqL.of tb'.at_, atI_nat q1, _, rfl, _, _, _, s, rfl, rfl, w1, ixs, ?_⟩
            refine fin _ ?_
            rw [T_ne n1 n2 e']
            split <;> omega
        · rintro σ H3 ⟨g', y6, rfl, tb', sm', hg'⟩
          refine ⟨g', _, y6, rfl, tb', sm', fun r' j h1 h2 => ?_⟩
          rw [hg' r' j h1 h2]
          by_cases e : r + 1 ≤ r'
          · rw [if_pos e, if_pos (by omega)]
          · rw [if_neg e]
            by_cases e2 : r' = r
            · subst e2
              rw [if_pos ⟨rfl, by omega⟩, if_pos (by omega)]
            · rw [if_neg (fun z => e2 z.1), if_neg (by omega)]
      · rintro σ H2 ⟨g, x3, x4, rfl, tb, sm, hg⟩
        refine ⟨_, rfl, k H2 D sm hD ⟨as, g, hlen, tb, fun i j h1 h2 => ?_⟩⟩
        rw [hg i j h1 h2, if_pos (by omega)]
end
end VK
end

section
set_option Elab.async false
set_option linter.all false
set_option maxRecDepth 100000
set_option maxHeartbeats 4000000
namespace VK
open PySem L2
/-! ### data without lists: it stays while tuples stay -/
mutual
def imm : PyData → Bool
  | .list _ => false
  | .dict _ => false
  | .tuple ds => immAll ds
  | .none => true
  | .bool _ => true
  | .int _ => true
  | .str _ => true
def immAll : List PyData → Bool
  | [] => true
  | d :: ds => imm d && immAll ds
end
/-- tuples stay -/
def TK (K : PySem.W.Frag) (H H' : Hp) : Prop := ∀ a xs, SqT K H a xs → SqT K H' a xs
theorem TK.refl (K : PySem.W.Frag) (H : Hp) : TK K H H := fun _ _ h => h
theorem TK.trans {K : PySem.W.Frag} {H H1 H2 : Hp} (a : TK K H H1) (b : TK K H1 H2) : TK K H H2 := fun x y h => b x y (a x y h)
theorem TK.same {K : PySem.W.Frag} {H H' : Hp} (s : Same H H') : TK K H H' := fun _ _ h => s.seqT h
/-- a list is written, or something new is laid -/
theorem TK.put {K : PySem.W.Frag} {H : Hp} {p : Addr} {o : HO} (h : H p = none ∨ ∃ l, H p = some (.lst l)) : TK K H (upd H p o) := fun a xs q => by
  rcases q with q | q
  · have n : a ≠ p := by
      rintro rfl
      rcases q with q | ⟨x, q⟩ <;> (rcases h with h | ⟨l, h⟩ <;> (rw [h] at q; cases q))
    exact .inl (rd_upd q n)
  · exact .inr q
theorem TK.new {K : PySem.W.Frag} {H : Hp} {p : Addr} {o : HO} (h : H p = none) : TK K H (upd H p o) := TK.put (.inl h)
theorem TK.lst {K : PySem.W.Frag} {H : Hp} {p : Addr} {o : HO} {l : List V} (h : H p = some (.lst l)) : TK K H (upd H p o) := TK.put (.inr ⟨l, h⟩)
mutual
theorem dp_keep {K : PySem.W.Frag} {H H' : Hp} (t : TK K H H') : ∀ (d : PyData) (v : V), imm d = true → Dp K H v d → Dp K H' v d
  | .none, _, _, h => by cases h; exact .non
  | .bool b, _, _, h => by cases h; exact .bl b
  | .int i, _, _, h => by cases h; exact .int i
  | .str x, _, _, h => by cases h; exact .str x
  | .list _, _, e, _ => by simp [imm] at e
  | .dict _, _, e, _ => by simp [imm] at e
  | .tuple ds, _, e, h => by
    cases h with
    | tup q r => exact .tup (t _ _ q) (dpAll_keep t ds _ (by simpa [imm] using e) r)
theorem dpAll_keep {K : PySem.W.Frag} {H H' : Hp} (t : TK K H H') : ∀ (ds : List PyData) (vs : List V), immAll ds = true → DpAll K H vs ds → DpAll K H' vs ds
  | [], _, _, h => by cases h; exact .nil
  | d :: ds, _, e, h => by
    have e' : imm d = true ∧ immAll ds = true := by simpa [immAll] using e
    cases h with
    | cons a b => exact .cons (dp_keep t d _ e'.1 a) (dpAll_keep t ds _ e'.2 b)
end
theorem immAll_map {α : Type} (f : α → PyData) (h : ∀ x, imm (f x) = true) : ∀ l : List α, immAll (l.map f) = true
  | [] => rfl
  | x :: l => by
    show (imm (f x) && immAll (l.map f)) = true
    rw [h x, immAll_map f h l]
    rfl
theorem dpAll_len {K : PySem.W.Frag} {H : Hp} : ∀ {vs : List V} {ds : List PyData}, DpAll K H vs ds → vs.length = ds.length
  | _, _, .nil => rfl
  | _, _, .cons _ b => by simp [dpAll_len b]
theorem dpAll_app {K : PySem.W.Frag} {H : Hp} : ∀ {vs ws : List V} {ds es : List PyData}, DpAll K H vs ds → DpAll K H ws es → DpAll K H (vs ++ ws) (ds ++ es)
  | _, _, _, _, .nil, h => h
  | _, _, _, _, .cons a b, h => .cons a (dpAll_app b h)
theorem dpAll_one {K : PySem.W.Frag} {H : Hp} {v : V} {d : PyData} (h : Dp K H v d) : DpAll K H [v] [d] := .cons h .nil
theorem dpAll_at {K : PySem.W.Frag} {H : Hp} : ∀ {vs : List V} {ds : List PyData} {k : Nat} {d : PyData}, DpAll K H vs ds → ds[k]? = some d → ∃ v, vs[k]? = some v ∧ Dp K H v d
  | _, _, _, _, .nil, e => by simp at e
  | _, _, 0, d, .cons a _, e => by
    simp at e
    subst e
    exact ⟨_, rfl, a⟩
  | _, _, k + 1, d, .cons _ b, e => by
    obtain ⟨v, h1, h2⟩ := dpAll_at (k := k) b (by simpa using e)
    exact ⟨v, by simpa using h1, h2⟩
theorem dpAll_drop {K : PySem.W.Frag} {H : Hp} : ∀ {vs : List V} {ds : List PyData} (k : Nat), DpAll K H vs ds → DpAll K H (vs.drop k) (ds.drop k)
  | _, _, 0, h => h
  | _, _, _ + 1, .nil => .nil
  | _, _, k + 1, .cons _ b => dpAll_drop k b
theorem dpAll_take {K : PySem.W.Frag} {H : Hp} : ∀ {vs : List V} {ds : List PyData} (k : Nat), DpAll K H vs ds → DpAll K H (vs.take k) (ds.take k)
  | _, _, 0, _ => .nil
  | _, _, _ + 1, .nil => .nil
  | _, _, k + 1, .cons a b => .cons a (dpAll_take k b)
theorem dpAll_set {K : PySem.W.Frag} {H : Hp} {v : V} {d : PyData} (h : Dp K H v d) : ∀ {vs : List V} {ds : List PyData} (k : Nat), DpAll K H vs ds → DpAll K H (vs.set k v) (ds.set k d)
  | _, _, _, .nil => .nil
  | _, _, 0, .cons _ b => .cons h b
  | _, _, k + 1, .cons a b => .cons a (dpAll_set h k b)
theorem dpAll_split {K : PySem.W.Frag} {H : Hp} {d : PyData} : ∀ {ds : List PyData} {vs : List V}, DpAll K H vs (ds ++ [d]) → ∃ ws v, vs = ws ++ [v] ∧ DpAll K H ws ds ∧ Dp K H v d
  | [], _, h => by
    cases h with
    | cons a b =>
      cases b
      exact ⟨[], _, rfl, .nil, a⟩
  | e :: ds, _, h => by
    cases h with
    | cons a b =>
      obtain ⟨ws, v, h1, h2, h3⟩ := dpAll_split (ds := ds) b
      subst h1
      exact ⟨_ :: ws, v, rfl, .cons a h2, h3⟩
/-- texts -/
theorem dpAll_strs {K : PySem.W.Frag} {H : Hp} : ∀ ls : List Str, DpAll K H (ls.map V.str) (ls.map PyData.str)
  | [] => .nil
  | x :: l => .cons (.str x) (dpAll_strs l)
theorem of_strs {K : PySem.W.Frag} {H : Hp} : ∀ {ls : List Str} {vs : List V}, DpAll K H vs (ls.map PyData.str) → vs = ls.map V.str
  | [], _, h => by cases h; rfl
  | x :: l, _, h => by
    cases h with
    | cons a b =>
      cases a
      rw [of_strs b]
      rfl
/-- a tuple of lines; a pair of numbers; a change -/
abbrev linesD (ls : List Str) : PyData := .tuple (ls.map PyData.str)
abbrev pairD (p : Nat × Nat) : PyData := .tuple [.int (p.1 : Int), .int (p.2 : Int)]
structure Hunk where
  start : Nat
  gone : List Str
  come : List Str
abbrev hunkD (h : Hunk) : PyData := .tuple [.int (h.start : Int), linesD h.gone, linesD h.come]
theorem imm_lines (ls : List Str) : imm (linesD ls) = true := by
  show immAll (ls.map PyData.str) = true
  exact immAll_map _ (fun _ => rfl) ls
theorem imm_pair (p : Nat × Nat) : imm (pairD p) = true := rfl
theorem imm_hunk (h : Hunk) : imm (hunkD h) = true := by
  show (imm (.int (h.start : Int)) && (imm (linesD h.gone) && (imm (linesD h.come) && immAll []))) = true
  rw [imm_lines, imm_lines]
  rfl
theorem dp_lines {K : PySem.W.Frag} {H : Hp} {a : Addr} {ls : List Str} (h : SqT K H a (ls.map V.str)) : Dp K H (.ref a) (linesD ls) := .tup h (dpAll_strs ls)
theorem of_lines {K : PySem.W.Frag} {H : Hp} {v : V} {ls : List Str} (h : Dp K H v (linesD ls)) : ∃ a, v = .ref a ∧ SqT K H a (ls.map V.str) := by
  cases h with
  | tup q r => exact ⟨_, rfl, by rw [← of_strs r]; exact q⟩
theorem dp_pair {K : PySem.W.Frag} {H : Hp} {a : Addr} {i j : Nat} (h : SqT K H a [.int (i : Int), .int (j : Int)]) : Dp K H (.ref a) (pairD (i, j)) := .tup h (.cons (.int _) (.cons (.int _) .nil))
theorem of_pair {K : PySem.W.Frag} {H : Hp} {v : V} {p : Nat × Nat} (h : Dp K H v (pairD p)) : ∃ a, v = .ref a ∧ SqT K H a [.int (p.1 : Int), .int (p.2 : Int)] := by
  cases h with
  | tup q r =>
    cases r with
    | cons a b =>
      cases a
      cases b with
      | cons a b =>
        cases a
        cases b
        exact ⟨_, rfl, q⟩
theorem of_hunk {K : PySem.W.Frag} {H : Hp} {v : V} {h : Hunk} (q : Dp K H v (hunkD h)) : ∃ a b c, v = .ref a ∧ SqT K H a [.int (h.start : Int), .ref b, .ref c] ∧ SqT K H b (h.gone.map V.str) ∧ SqT K H c (h.come.map V.str) := by
  cases q with
  | tup q r =>
    cases r with
    | cons x r =>
      cases x
      cases r with
      | cons y r =>
        cases r with
        | cons z r =>
          cases r
          obtain ⟨b, rfl, hb⟩ := of_lines y
          obtain ⟨c, rfl, hc⟩ := of_lines z
          exact ⟨_, b, c, rfl, q, hb, hc⟩
theorem dp_hunk {K : PySem.W.Frag} {H : Hp} {a b c : Addr} {h : Hunk} (q : SqT K H a [.int (h.start : Int), .ref b, .ref c]) (hb : SqT K H b (h.gone.map V.str)) (hc : SqT K H c (h.come.map V.str)) : Dp K H (.ref a) (hunkD h) :=
  .tup q (.cons (.int _) (.cons (dp_lines hb) (.cons (dp_lines hc) .nil)))
/-- pairs, changes in a row -/
theorem pairs_keep {K : PySem.W.Frag} {H H' : Hp} (t : TK K H H') {vs : List V} {ps : List (Nat × Nat)} (h : DpAll K H vs (ps.map pairD)) : DpAll K H' vs (ps.map pairD) :=
  dpAll_keep t _ _ (immAll_map _ imm_pair ps) h
theorem hunks_keep {K : PySem.W.Frag} {H H' : Hp} (t : TK K H H') {vs : List V} {hs : List Hunk} (h : DpAll K H vs (hs.map hunkD)) : DpAll K H' vs (hs.map hunkD) :=
  dpAll_keep t _ _ (immAll_map _ imm_hunk hs) h
end VK
end

section
set_option Elab.async false
set_option linter.all false
set_option maxRecDepth 100000
set_option maxHeartbeats 4000000
namespace VK
open PySem L2
/-! ### the greedy row of pairs -/
theorem lcs_steps : ∀ (n : Nat) (xs ys : List Str), xs.length + ys.length ≤ n →
    (∀ x, lcs xs ys ≤ lcs (x :: xs) ys ∧ lcs (x :: xs) ys ≤ lcs xs ys + 1) ∧ (∀ y, lcs xs ys ≤ lcs xs (y :: ys) ∧ lcs xs (y :: ys) ≤ lcs xs ys + 1)
  | 0, xs, ys, h => by
    have e1 : xs = [] := List.eq_nil_of_length_eq_zero (by omega)
    have e2 : ys = [] := List.eq_nil_of_length_eq_zero (by omega)
    subst e1 e2
    refine ⟨fun x => ?_, fun y => ?_⟩
    · rw [lcs_nil2, lcs_nil2]; omega
    · rw [lcs_nil, lcs_nil]; omega
  | n + 1, xs, ys, h => by
    refine ⟨fun x => ?_, fun y => ?_⟩
    · cases ys with
      | nil => rw [lcs_nil2, lcs_nil2]; omega
      | cons y ys =>
        have i1 := lcs_steps n xs ys (by simp only [List.length_cons] at h; omega)
        have q1 := i1.1 x
        have q2 := i1.2 y
        rw [lcs_cons]
        by_cases e : x = y
        · rw [if_pos e]; omega
        · rw [if_neg e]; omega
    · cases xs with
      | nil => rw [lcs_nil, lcs_nil]; omega
      | cons x xs =>
        have i1 := lcs_steps n xs ys (by simp only [List.length_cons] at h; omega)
        have q1 := i1.1 x
        have q2 := i1.2 y
        rw [lcs_cons]
        by_cases e : x = y
        · rw [if_pos e]; omega
        · rw [if_neg e]; omega
theorem T_mono1 (one two : List Str) (i j : Nat) : T one two (i + 1) j ≤ T one two i j := by
  by_cases h : i < one.length
  · have q := (lcs_steps _ (one.drop (i + 1)) (two.drop j) (Nat.le_refl _)).1 one[i]
    unfold T
    rw [List.drop_eq_getElem_cons h]
    exact q.1
  · rw [T_end1 (by omega)]; omega
theorem T_mono2 (one two : List Str) (i j : Nat) : T one two i (j + 1) ≤ T one two i j := by
  by_cases h : j < two.length
  · have q := (lcs_steps _ (one.drop i) (two.drop (j + 1)) (Nat.le_refl _)).2 two[j]
    unfold T
    rw [List.drop_eq_getElem_cons h]
    exact q.1
  · rw [T_end2 (by omega)]; omega
theorem T_mono2s (one two : List Str) (i : Nat) : ∀ (d j : Nat), T one two i (j + d) ≤ T one two i j
  | 0, j => Nat.le_refl _
  | d + 1, j => by
    have h1 := T_mono2 one two i (j + d)
    have h2 := T_mono2s one two i d j
    have e : j + (d + 1) = j + d + 1 := by omega
    rw [e]; omega
def hitP (one two : List Str) (i j k : Nat) : Bool := decide (one[i]? = two[k]?) && decide (T one two (i + 1) (k + 1) + 1 = T one two i j)
/-- the first place from j on -/
def hit (one two : List Str) (i j : Nat) : Option Nat := (List.range' j (two.length - j)).find? (hitP one two i j)
theorem hit_some {one two : List Str} {i j k : Nat} (h : hit one two i j = some k) : j ≤ k ∧ k < two.length ∧ one[i]? = two[k]? ∧ i < one.length ∧ T one two (i + 1) (k + 1) + 1 = T one two i j ∧ ∀ k', j ≤ k' → k' < k → hitP one two i j k' = false := by
  have h1 := List.mem_of_find?_eq_some h
  have h2 := List.find?_some h
  rw [List.mem_range'_1] at h1
  unfold hitP at h2
  rw [Bool.and_eq_true, decide_eq_true_eq, decide_eq_true_eq] at h2
  have hk : k < two.length := by omega
  refine ⟨h1.1, hk, h2.1, ?_, h2.2, fun k' a b => ?_⟩
  · have e := h2.1
    rw [List.getElem?_eq_getElem hk] at e
    exact (List.getElem?_eq_some_iff.mp e).1
  · unfold hit at h
    rw [List.find?_eq_some_iff_append] at h
    obtain ⟨_, as, bs, e, hn⟩ := h
    have hm : k' ∈ as := by
      have : as ++ k :: bs = List.range' j (two.length - j) := e.symm
      have m : k' ∈ as ++ k :: bs := by rw [this, List.mem_range'_1]; omega
      rcases List.mem_append.mp m with m | m
      · exact m
      · exfalso
        have sorted : (as ++ k :: bs).Pairwise (· < ·) := by rw [this]; exact List.pairwise_lt_range'
        rw [List.pairwise_append] at sorted
        rcases List.mem_cons.mp m with m | m
        · omega
        · have := (List.pairwise_cons.mp sorted.2.1).1 k' m
          omega
    have := hn k' hm
    simpa using this
theorem hit_none {one two : List Str} {i j : Nat} (h : hit one two i j = none) {k : Nat} (h1 : j ≤ k) (h2 : k < two.length) : ¬ (one[i]? = two[k]? ∧ T one two (i + 1) (k + 1) + 1 = T one two i j) := by
  unfold hit at h
  rw [List.find?_eq_none] at h
  have q := h k (by rw [List.mem_range'_1]; omega)
  unfold hitP at q
  simpa using q
/-- a row is left, or a place is there -/
theorem T_step {one two : List Str} {i : Nat} (hi : i < one.length) : ∀ (d j : Nat), two.length - j = d → T one two i j = T one two (i + 1) j ∨ ∃ k, j ≤ k ∧ k < two.length ∧ one[i]? = two[k]? ∧ T one two (i + 1) (k + 1) + 1 = T one two i j
  | 0, j, e => by
    left
    rw [T_end2 (i := i) (by omega), T_end2 (i := i + 1) (by omega)]
  | d + 1, j, e => by
    have hj : j < two.length := by omega
    have n1 : one[i]? = some one[i] := List.getElem?_eq_getElem hi
    have n2 : two[j]? = some two[j] := List.getElem?_eq_getElem hj
    by_cases q : one[i] = two[j]
    · right
      exact ⟨j, Nat.le_refl _, hj, by rw [n1, n2, q], by rw [T_eq n1 (q ▸ n2)]⟩
    · have t := T_ne n1 n2 q
      have m := T_mono2 one two (i + 1) j
      rcases T_step (two := two) hi d (j + 1) (by omega) with r | ⟨k, a, b, c, r⟩
      · left
        omega
      · by_cases z : T one two (i + 1) j = T one two i j
        · exact .inl z.symm
        · right
          exact ⟨k, by omega, b, c, by omega⟩
theorem T_none {one two : List Str} {i j : Nat} (h : hit one two i j = none) : T one two (i + 1) j = T one two i j := by
  by_cases hi : i < one.length
  · rcases T_step hi _ j rfl with r | ⟨k, a, b, c, r⟩
    · exact r.symm
    · exact absurd ⟨c, r⟩ (hit_none h a b)
  · rw [T_end1 (i := i + 1) (by omega), T_end1 (i := i) (by omega)]
/-- the row from (i, j) on -/
def pairsF (one two : List Str) : Nat → Nat → Nat → List (Nat × Nat)
  | 0, _, _ => []
  | n + 1, i, j => match hit one two i j with
    | some k => (i, k) :: pairsF one two n (i + 1) (k + 1)
    | none => pairsF one two n (i + 1) j
def PR (one two : List Str) (i j : Nat) : List (Nat × Nat) := pairsF one two (one.length - i) i j
theorem PR_some {one two : List Str} {i j k : Nat} (h : hit one two i j = some k) : PR one two i j = (i, k) :: PR one two (i + 1) (k + 1) := by
  have hi := (hit_some h).2.2.2.1
  unfold PR
  have e : one.length - i = (one.length - (i + 1)) + 1 := by omega
  rw [e, pairsF, h]
theorem PR_none {one two : List Str} {i j : Nat} (h : hit one two i j = none) : PR one two i j = PR one two (i + 1) j := by
  unfold PR
  by_cases hi : i < one.length
  · have e : one.length - i = (one.length - (i + 1)) + 1 := by omega
    rw [e, pairsF, h]
  · have e : one.length - i = 0 := by omega
    have e2 : one.length - (i + 1) = 0 := by omega
    rw [e, e2]; rfl
theorem PR_end {one two : List Str} {i j : Nat} (h : one.length ≤ i) : PR one two i j = [] := by
  unfold PR
  have e : one.length - i = 0 := by omega
  rw [e]; rfl
theorem PR_len {one two : List Str} : ∀ (d i j : Nat), one.length - i = d → (PR one two i j).length = T one two i j
  | 0, i, j, e => by rw [PR_end (by omega), T_end1 (by omega)]; rfl
  | d + 1, i, j, e => by
    cases h : hit one two i j with
    | some k =>
      rw [PR_some h, List.length_cons, PR_len d (i + 1) (k + 1) (by omega)]
      exact (hit_some h).2.2.2.2.1
    | none => rw [PR_none h, PR_len d (i + 1) j (by omega), T_none h]
theorem PR_zero {one two : List Str} {i j : Nat} (h : T one two i j = 0) : PR one two i j = [] :=
  List.eq_nil_of_length_eq_zero (by rw [PR_len _ i j rfl, h])
/-- all pairs are places of the same line, and both rise -/
def Row (one two : List Str) : Nat → Nat → List (Nat × Nat) → Prop
  | _, _, [] => True
  | i, j, (a, b) :: r => i ≤ a ∧ j ≤ b ∧ a < one.length ∧ b < two.length ∧ one[a]? = two[b]? ∧ Row one two (a + 1) (b + 1) r
theorem Row.le {one two : List Str} : ∀ {r : List (Nat × Nat)} {i j i' j' : Nat}, i' ≤ i → j' ≤ j → Row one two i j r → Row one two i' j' r
  | [], _, _, _, _, _, _, _ => trivial
  | (a, b) :: r, _, _, _, _, h1, h2, ⟨x, y, z⟩ => ⟨by omega, by omega, z⟩
theorem PR_row {one two : List Str} : ∀ (d i j : Nat), one.length - i = d → Row one two i j (PR one two i j)
  | 0, i, j, e => by rw [PR_end (by omega)]; trivial
  | d + 1, i, j, e => by
    cases h : hit one two i j with
    | some k =>
      rw [PR_some h]
      obtain ⟨a, b, c, hi, _⟩ := hit_some h
      exact ⟨Nat.le_refl _, a, hi, b, c, PR_row d (i + 1) (k + 1) (by omega)⟩
    | none =>
      rw [PR_none h]
      exact (PR_row d (i + 1) j (by omega)).le (by omega) (Nat.le_refl _)
/-- the law's row -/
def pairs (one two : List Str) : List (Nat × Nat) := PR one two 0 0
theorem pairs_len (one two : List Str) : (pairs one two).length = T one two 0 0 := PR_len _ 0 0 rfl
theorem pairs_row (one two : List Str) : Row one two 0 0 (pairs one two) := PR_row _ 0 0 rfl
end VK
end

section
set_option Elab.async false
set_option linter.all false
set_option maxRecDepth 100000
set_option maxHeartbeats 4000000
namespace VK
open PySem L2
abbrev s__law_pairs : Stmt := topS 41
theorem sc__law_pairs : FnScope ["one", "two", "table", "found", "i", "j", "hits", "k"] ["one", "two"] (defScope s__law_pairs) := ⟨rfl, rfl, rfl, by decide +kernel, rfl, by decide +kernel, by decide +kernel⟩
def spLPairs (K : PySem.W.Frag) : Sp := fun vs H Q _ => ∃ (a b : Addr) (one two : List Str), vs = [.ref a, .ref b] ∧ SqT K H a (one.map V.str) ∧ SqT K H b (two.map V.str) ∧ one.length ≤ 1000 ∧ two.length ≤ 1000 ∧
  ∀ (H' : Hp) (t : Addr) (ws : List V), Same H H' → H t = none → H' t = some (.lst ws) → DpAll K H' ws ((pairs one two).map pairD) → Q (.ref t) H'
section
variable {P : Program} {w : World} {K : PySem.W.Frag} {mg : Str → Option Value} {base : Heap}
theorem ok_lpairs {f fT : Addr} {fd fdT : FuncData} (F : Fun K "_law_pairs" "_law_pairs" s__law_pairs f fd) (T0 : Txt0 mg) (DT : Df K mg "_law_table" s__law_table ["one", "two"] fT fdT) : FnOk P w K mg base CX0 2 f fd ["one", "two"] (spLPairs K) := by
  have GT : FnOk P w K mg base CX0 1 fT fdT ["one", "two"] (spLTable K) := ok_ltable DT.F T0
  refine F.ok sc__law_pairs (fun vs H Q E h => ?_) (fun cdv A outer s H vs Q E hr h => ?_)
  · obtain ⟨a, b, one, two, rfl, _⟩ := h
    rfl
  · obtain ⟨a, b, one, two, rfl, hA, hB, ha, hb, k⟩ := h
    refine ⟨_, (pss_cons (ps_set (i := 2) sc__law_pairs.nd rfl (Or.inr rfl) (pe_call GT hr rfl DT.m DT.F.kp DT.b .nil pass0 (pa_cons (pv 0) (pa_cons (pv 1) pa_nil))))
      (pss_cons (ps_set (i := 3) sc__law_pairs.nd rfl (Or.inl rfl) (pe_lst pa_nil))
      (pss_cons (ps_set (i := 4) sc__law_pairs.nd rfl (Or.inr rfl) pe_int)
      (pss_cons (ps_set (i := 5) sc__law_pairs.nd rfl (Or.inr rfl) pe_int)
      (pss_cons (ps_while PassesOwn.never (pt_cmpR op_gt (pe_ix ix_list (pe_ix ix_list (pv 2) (pv 4) (fun _ _ => rfl)) (pv 5) (fun _ _ => rfl)) pe_int (nomark _))
        (pss_cons (ps_setLc (i := 6) (own := [("k", 7)]) (g := gName 7) (tt := _) rfl sc__law_pairs.nd rfl rfl (sw_true rfl rfl rfl (by decide +kernel)) (pi_range2 (by rfl) T0.z_range (pa_cons (pv 5) (pa_cons (pe_callB call_len_seq (by rfl) T0.z_len PySem.boot_len (pa_cons (pv 1) pa_nil)) pa_nil))) (blkOk_by (own := [("k", 7)]) (N := ["one", "two", "table", "found", "i", "j", "hits", "k"]) (sc := defScope s__law_pairs) (by decide +kernel)) (fun _ _ _ _ _ => (pg_name (i := 7) sc__law_pairs.nd rfl (Or.inl rfl))) (fun _ _ _ _ _ => (pts_one (PW.pt (pw_and (pt_cmpR op_eq (pe_ix (ix_tupQ (K := K) rfl) (pv 0) (pv 4) (fun _ _ => rfl)) (pe_ix (ix_tupQ (K := K) rfl) (pv 1) (pv 7) (fun _ _ => rfl)) (nomark _)) (pw_and1 (pt_cmpR op_eq (pe_op op_add (pe_ix (ix_listQ (K := K) rfl) (pe_ix (ix_listQ (K := K) rfl) (pv 2) (pe_op op_add (pv 4) pe_int) (fun _ _ => rfl)) (pe_op op_add (pv 7) pe_int) (fun _ _ => rfl)) pe_int) (pe_ix (ix_listQ (K := K) rfl) (pe_ix (ix_listQ (K := K) rfl) (pv 2) (pv 4) (fun _ _ => rfl)) (pv 5) (fun _ _ => rfl)) (nomark _))))))) (fun _ _ _ _ _ => (pv 7)))
        (pss_cons (ps_if (pt_cmpR op_gt (pe_callB call_len_seq (by rfl) T0.z_len PySem.boot_len (pa_cons (pv 6) pa_nil)) pe_int (nomark _))
          (pss_cons (ps_expr (pe_bm PySem.F.plainAttrs_list PySem.F.slot_list_append PySem.F.type_list_append mt_append (pv 3) (pa_cons (pe_tup (pa_cons (pv 4) (pa_cons (pe_ix ix_list (pv 6) pe_int (fun _ _ => rfl)) pa_nil))) pa_nil)))
          (pss_one (ps_set (i := 5) sc__law_pairs.nd rfl (Or.inr rfl) (pe_op op_add (pe_ix ix_list (pv 6) pe_int (fun _ _ => rfl)) pe_int))))
          pss_nil)
        (pss_one (ps_set (i := 4) sc__law_pairs.nd rfl (Or.inr rfl) (pe_op op_add (pv 4) pe_int))))))
      (pss_one (ps_ret (pv 3)))))))), ?_⟩
    refine ⟨_, rfl, _, rfl, a, b, one, two, rfl, hA, hB, ha, hb, fun H1 t s1 ht0 tab => ?_⟩
    refine ⟨by show 0 ≤ sizeLine; decide, fun fo hfo => ?_⟩
    refine seq_c ?_
    refine seq_c ?_
    refine ⟨fun m σ H' => ∃ (i j : Nat) (ws : List V) (dn : List (Nat × Nat)) (x6 : Option V), m = one.length - i ∧ σ = [some (.ref a), some (.ref b), some (.ref t), some (.ref fo), some (.int (i : Int)), some (.int (j : Int)), x6, none] ∧
        Same H1 H' ∧ H' fo = some (.lst ws) ∧ DpAll K H' ws (dn.map pairD) ∧ dn ++ PR one two i j = pairs one two ∧ i ≤ one.length ∧ j ≤ two.length, ⟨_, 0, 0, [], [], none, rfl, rfl, same_new hfo, upd_same, .nil, rfl, Nat.zero_le _, Nat.zero_le _⟩, ?_⟩
    rintro m σ H2 ⟨i, j, ws, dn, x6, rfl, rfl, s2, hw, hd, hp, hi, hj⟩
    have tab2 := tab.same s2
    obtain ⟨as, r, row, hT, hr1, hr2, hr3⟩ := tab2.get hi hj
    refine ⟨_, rfl, _, rfl, t, as, (i : Int), _, rfl, rfl, SqL.of hT, atI_nat hr1, _, rfl, r, row, (j : Int), _, rfl, rfl, SqL.of hr2, atI_nat hr3, _, _, rfl, rfl, ?_⟩
    refine ⟨_, rfl, ?_⟩
    refine ite2 (fun e => ?_) (fun e => ?_)
    · have e : (0 : Int) < (T one two i j : Int) := of_decide_eq_true e
      have hi1 : i < one.length := by
        rcases Nat.lt_or_ge i one.length with z | z
        · exact z
        · rw [T_end1 z] at e; omega
      have hj1 : j < two.length := by
        rcases Nat.lt_or_ge j two.length with z | z
        · exact z
        · rw [T_end2 z] at e; omega
      refine ⟨fun σ' H' => ∃ m', m' < one.length - i ∧ ∃ (i j : Nat) (ws : List V) (dn : List (Nat × Nat)) (x6 : Option V), m' = one.length - i ∧ σ' = [some (.ref a), some (.ref b), some (.ref t), some (.ref fo), some (.int (i : Int)), some (.int (j : Int)), x6, none] ∧
        Same H1 H' ∧ H' fo = some (.lst ws) ∧ DpAll K H' ws (dn.map pairD) ∧ dn ++ PR one two i j = pairs one two ∧ i ≤ one.length ∧ j ≤ two.length, fun _ _ h => h, ?_⟩
      have hA2 := (s1.trans s2).seqT hA
      have hB2 := (s1.trans s2).seqT hB
      refine ⟨_, rfl, _, rfl, b, _, rfl, .inr hB2, _, _, rfl, ⟨?_, ?_, ?_, ?_⟩, fun D hD => ?_⟩
      · omega
      · omega
      · simp only [List.length_map]; omega
      · simp only [List.length_map]; omega
      have en : (((two.map V.str).length : Int) - (j : Int)).toNat = two.length - j := by rw [List.length_map]; omega
      rw [en]
      refine lc_range (lo := (j : Int)) (n := two.length - j) (fun q H' => Same H2 H' ∧ H' D = some (.lst (((List.range' j q).filter (hitP one two i j)).map fun n : Nat => V.int (n : Int)))) ⟨same_new hD, upd_same⟩ ?_ ?_
      · rintro q H3 hq ⟨s3, hl⟩
        refine ⟨rfl, ?_⟩
        have hA3 := s3.seqT hA2
        have hB3 := s3.seqT hB2
        obtain ⟨m, hm⟩ : ∃ m : Nat, m = j + q := ⟨_, rfl⟩
        have hm' : ((j : Int) + (q : Nat)) = (m : Int) := by omega
        rw [hm']
        have hm2 : m < two.length := by omega
        have n1 : one[i]? = some one[i] := List.getElem?_eq_getElem hi1
        have n2 : two[m]? = some two[m] := List.getElem?_eq_getElem hm2
        have m1 : (one.map V.str)[i]? = some (V.str one[i]) := by rw [List.getElem?_map, n1]; rfl
        have m2 : (two.map V.str)[m]? = some (V.str two[m]) := by rw [List.getElem?_map, n2]; rfl
        refine ⟨_, rfl, _, rfl, a, _, _, _, rfl, rfl, hA3, atI_nat m1, _, rfl, _, rfl, b, _, _, _, rfl, rfl, hB3, atI_nat m2, rfl, _, rfl, ?_⟩
        have r1 : List.range' j (q + 1) = List.range' j q ++ [m] := by rw [List.range'_1_concat, hm]
        have yes : hitP one two i j m = true → (List.range' j (q + 1)).filter (hitP one two i j) = (List.range' j q).filter (hitP one two i j) ++ [m] := fun z => by
          rw [r1, List.filter_append, List.filter_cons_of_pos z]; rfl
        have no : hitP one two i j m = false → (List.range' j (q + 1)).filter (hitP one two i j) = (List.range' j q).filter (hitP one two i j) := fun z => by
          rw [r1, List.filter_append, List.filter_cons_of_neg (by rw [z]; exact Bool.false_ne_true)]; simp
        dsimp only
        refine ite2 (fun e1 => ?_) (fun e1 => ?_)
        · have e1' : one[i] = two[m] := V.str.inj (of_decide_eq_true e1)
          have tab3 := tab2.same s3
          obtain ⟨as1, r', row1, q1, q2, q3, q4⟩ := tab3.get (i := i + 1) (j := m + 1) (by omega) (by omega)
          obtain ⟨as2, r'', row2, p1, p2, p3, p4⟩ := tab3.get hi hj
          refine ⟨_, rfl, _, rfl, _, _, rfl, rfl, t, as1, _, _, rfl, rfl, SqL.of q1, atI_nat (j := i + 1) q2, _, rfl, _, _, rfl, rfl, _, _, _, _, rfl, rfl, SqL.of q3, atI_nat (j := m + 1) q4, _, _, rfl, rfl, _, rfl, _, rfl, t, as2, _, _, rfl, rfl, SqL.of p1, atI_nat p2, _, rfl, _, _, _, _, rfl, rfl, SqL.of p3, atI_nat p4, rfl, _, rfl, ?_⟩
          refine ite2 (fun e2 => ?_) (fun e2 => ?_)
          · have e2' : T one two (i + 1) (m + 1) + 1 = T one two i j := by
              have := V.int.inj (of_decide_eq_true e2)
              omega
            have hh : hitP one two i j m = true := by unfold hitP; rw [n1, n2, e1', e2']; simp
            refine ⟨_, rfl, _, hl, ?_, same_mut s3 hD, ?_⟩
            · rw [List.length_map]
              have := List.length_filter_le (hitP one two i j) (List.range' j q)
              rw [List.length_range'] at this
              exact Nat.lt_of_lt_of_le (show _ < 2000 by omega) (by decide)
            · rw [upd_same, yes hh, List.map_append]; rfl
          · refine ⟨s3, ?_⟩
            have hh : hitP one two i j m = false := by
              unfold hitP
              have : ¬ T one two (i + 1) (m + 1) + 1 = T one two i j := fun z => e2 (decide_eq_true (congrArg V.int (by omega)))
              rw [decide_eq_false this, Bool.and_false]
            rw [no hh]; exact hl
        · refine ⟨s3, ?_⟩
          have hh : hitP one two i j m = false := by
            unfold hitP
            have : ¬ one[i]? = two[m]? := fun z => e1 (decide_eq_true (congrArg V.str (by rw [n1, n2] at z; exact Option.some.inj z)))
            rw [decide_eq_false this, Bool.false_and]
          rw [no hh]; exact hl
      · rintro H3 ⟨s3, hl⟩
        have hh : ((List.range' j (two.length - j)).filter (hitP one two i j)).head? = hit one two i j := List.head?_filter
        obtain ⟨hs, ehs⟩ : ∃ hs, hs = (List.range' j (two.length - j)).filter (hitP one two i j) := ⟨_, rfl⟩
        rw [← ehs] at hl hh
        dsimp only [gName]
        have hfo3 : H3 fo = some (.lst ws) := s3 _ _ hw
        have hd3 : DpAll K H3 ws (dn.map pairD) := pairs_keep (TK.same s3) hd
        refine ⟨_, rfl, D, _, rfl, .inl (SqL.of hl), _, _, rfl, rfl, _, rfl, ?_⟩
        cases hs with
        | nil => 
          refine ite2 (fun z => ?_) (fun z => ?_)
          · cases z
          · have e0 : PR one two i j = PR one two (i + 1) j := PR_none hh.symm
            refine ⟨_, rfl, _, _, rfl, rfl, _, ?_, i + 1, j, ws, dn, _, rfl, rfl, s2.trans s3, hfo3, hd3, by rw [← e0]; exact hp, hi1, hj⟩
            omega
        | cons h0 hs =>
          refine ite2 (fun z => ?_) (fun z => ?_)
          · have e1 : hit one two i j = some h0 := hh.symm
            have e0 := PR_some e1
            refine ⟨_, rfl, .inl ⟨rfl, _, SqL.of hfo3⟩, _, rfl, _, rfl, D, _, _, _, rfl, rfl, SqL.of hl, atI_nat (j := 0) rfl, by show 2 ≤ sizeLine; decide, fun p hp2 => ?_⟩
            have nfp : fo ≠ p := ne_of_none hfo3 hp2
            have nDp : D ≠ p := ne_of_none hl hp2
            have hfo4 : upd H3 p (.tup [.int (i : Int), .int (h0 : Int)]) fo = some (.lst ws) := by rw [upd_ne nfp]; exact hfo3
            have lw : ws.length < 2000 := by
              have q1 := dpAll_len hd3
              have q2 := congrArg List.length hp
              rw [List.length_append, pairs_len] at q2
              have q3 : T one two 0 0 ≤ one.length := lcs_le1 _ _
              rw [List.length_map] at q1
              omega
            have nDf : D ≠ fo := by
              rintro rfl
              rw [hw] at hD; cases hD
            refine ⟨fo, ws, _, rfl, rfl, hfo4, Nat.lt_of_lt_of_le lw (by decide), ?_⟩
            have hl4 : upd (upd H3 p (.tup [.int (i : Int), .int (h0 : Int)])) fo (.lst (ws ++ [.ref p])) D = some (.lst ((h0 :: hs).map fun n : Nat => V.int (n : Int))) := by
              rw [upd_ne nDf, upd_ne nDp]; exact hl
            refine ⟨_, rfl, D, _, _, _, rfl, rfl, SqL.of hl4, atI_nat (j := 0) rfl, _, _, rfl, rfl, ?_⟩
            refine ⟨_, rfl, _, _, rfl, rfl, _, ?_, i + 1, h0 + 1, _, dn ++ [(i, h0)], _, rfl, rfl, ?_, upd_same, ?_, ?_, hi1, (hit_some e1).2.1⟩
            · omega
            · exact (s2.trans s3).trans (same_new hp2) |> fun q => same_mut q hfo
            · rw [List.map_append]
              have tk : TK K H3 (upd (upd H3 p (.tup [.int (i : Int), .int (h0 : Int)])) fo (.lst (ws ++ [.ref p]))) := (TK.new hp2).trans (TK.lst hfo4)
              refine dpAll_app (pairs_keep tk hd3) (dpAll_one (dp_pair ?_))
              refine TK.lst hfo4 _ _ ?_
              exact .inl (.inl upd_same)
            · rw [List.append_assoc, ← hp, e0]; rfl
          · exact absurd (decide_eq_true (show (0 : Int) < ((((h0 :: hs).map fun n : Nat => V.int (n : Int)).length : Nat) : Int) by simp)) z
    · have h0 : ¬ (0 : Int) < (T one two i j : Int) := fun z => e (decide_eq_true z)
      have z : T one two i j = 0 := by omega
      rw [PR_zero z, List.append_nil] at hp
      exact ⟨_, rfl, k _ fo ws (s1.trans s2) (none_of s1 hfo) hw (by rw [← hp]; exact hd)⟩
end
end VK
end

section
set_option Elab.async false
set_option linter.all false
set_option maxRecDepth 100000
set_option maxHeartbeats 4000000
namespace VK
open PySem L2
def cutL {α : Type} (xs : List α) (i h : Nat) : List α := (xs.drop i).take (h - i)
theorem cutV_nat (xs : List V) (i h : Nat) : cutV xs (some (i : Int)) (some (h : Int)) = cutL xs i h := by
  unfold cutV cutL
  rw [HT.sIx_nat, HT.sIx_nat]
  by_cases h1 : xs.length ≤ i
  · rw [Nat.min_eq_right h1, List.drop_eq_nil_of_le (Nat.le_refl _), List.drop_eq_nil_of_le h1]; simp
  · rw [Nat.min_eq_left (a := i) (by omega)]
    by_cases h2 : h ≤ xs.length
    · rw [Nat.min_eq_left h2]
    · rw [Nat.min_eq_right (a := h) (by omega), List.take_of_length_le (by rw [List.length_drop]; omega), List.take_of_length_le (by rw [List.length_drop]; omega)]
theorem cutV_from (xs : List V) (i : Nat) : cutV xs (some (i : Int)) none = xs.drop i := by
  unfold cutV
  rw [HT.sIx_nat, HT.sIx_none]
  by_cases h1 : xs.length ≤ i
  · rw [Nat.min_eq_right h1, List.drop_eq_nil_of_le (Nat.le_refl _), List.drop_eq_nil_of_le h1]; simp
  · rw [Nat.min_eq_left (by omega), List.take_of_length_le (by rw [List.length_drop]; omega)]
theorem cutV_to (xs : List V) (h : Nat) : cutV xs none (some (h : Int)) = xs.take h := by
  unfold cutV
  rw [HT.sIx_nat, HT.sIx_none, List.drop_zero, Nat.sub_zero]
  by_cases h1 : h ≤ xs.length
  · rw [Nat.min_eq_left h1]
  · rw [Nat.min_eq_right (by omega), List.take_of_length_le (Nat.le_refl _), List.take_of_length_le (by omega)]
theorem cutV_init (xs : List V) (v : V) : cutV (xs ++ [v]) none (some (-1)) = xs := by
  unfold cutV
  have e : HT.sIx (xs ++ [v]).length (xs ++ [v]).length (some (-1)) = xs.length := by
    unfold HT.sIx
    rw [List.length_append]
    simp
    omega
  rw [e, HT.sIx_none, List.drop_zero, Nat.sub_zero, List.take_append_of_le_length (Nat.le_refl _), List.take_length]
theorem cutL_map {α β : Type} (f : α → β) (xs : List α) (i h : Nat) : cutL (xs.map f) i h = (cutL xs i h).map f := by
  unfold cutL
  rw [List.map_take, List.map_drop]
theorem cutL_len {α : Type} (xs : List α) (i h : Nat) : (cutL xs i h).length ≤ xs.length := by
  unfold cutL
  rw [List.length_take, List.length_drop]
  omega
/-- a slice of a tuple -/
theorem sl_tupK {K : PySem.W.Frag} {H : Hp} {a : Addr} {xs : List V} {lo hi : Option Int} {Q : VK} (hx : SqT K H a xs) (k : ∀ H' p, Same H H' → SqT K H' p (cutV xs lo hi) → Q (.ref p) H') : rSlA K (.ref a) lo hi H Q := by
  refine ⟨a, xs, rfl, hx, fun h => k H a (fun _ _ e => e) ?_, fun _ p hp => k _ p (same_new hp) (.inl (.inl upd_same))⟩
  unfold cutV
  rw [h.1, h.2, List.drop_zero, Nat.sub_zero, List.take_length]
  exact hx
/-- two tuples behind each other -/
theorem cat_tupK {K : PySem.W.Frag} {H : Hp} {a b : Addr} {xs ys : List V} {Q : VK} (hx : SqT K H a xs) (hy : SqT K H b ys) (hl : xs.length + ys.length ≤ sizeLine) (k : ∀ H' p, Same H H' → SqT K H' p (xs ++ ys) → Q (.ref p) H') : rCatA K (.ref a) (.ref b) H Q := by
  refine ⟨a, b, xs, ys, rfl, rfl, hx, hy, hl, fun e => ?_, fun _ e => ?_, fun _ _ p hp => k _ p (same_new hp) (.inl (.inl upd_same))⟩
  · subst e
    exact k H b (fun _ _ e => e) hy
  · subst e
    exact k H a (fun _ _ e => e) (by rw [List.append_nil]; exact hx)
/-- a slice of lines -/
theorem sl_lines {K : PySem.W.Frag} {H : Hp} {a : Addr} {ls : List Str} {i h : Nat} {Q : VK} (hx : SqT K H a (ls.map V.str)) (k : ∀ H' p, Same H H' → SqT K H' p ((cutL ls i h).map V.str) → Q (.ref p) H') : rSlA K (.ref a) (some (i : Int)) (some (h : Int)) H Q :=
  sl_tupK hx fun H' p s q => k H' p s (by rw [cutV_nat, cutL_map] at q; exact q)
theorem sl_linesFrom {K : PySem.W.Frag} {H : Hp} {a : Addr} {ls : List Str} {i : Nat} {Q : VK} (hx : SqT K H a (ls.map V.str)) (k : ∀ H' p, Same H H' → SqT K H' p ((ls.drop i).map V.str) → Q (.ref p) H') : rSlA K (.ref a) (some (i : Int)) none H Q :=
  sl_tupK hx fun H' p s q => k H' p s (by rw [cutV_from, ← List.map_drop] at q; exact q)
theorem sl_linesTo {K : PySem.W.Frag} {H : Hp} {a : Addr} {ls : List Str} {h : Nat} {Q : VK} (hx : SqT K H a (ls.map V.str)) (k : ∀ H' p, Same H H' → SqT K H' p ((ls.take h).map V.str) → Q (.ref p) H') : rSlA K (.ref a) none (some (h : Int)) H Q :=
  sl_tupK hx fun H' p s q => k H' p s (by rw [cutV_to, ← List.map_take] at q; exact q)
theorem cat_lines {K : PySem.W.Frag} {H : Hp} {a b : Addr} {xs ys : List Str} {Q : VK} (hx : SqT K H a (xs.map V.str)) (hy : SqT K H b (ys.map V.str)) (hl : xs.length + ys.length ≤ 100000) (k : ∀ H' p, Same H H' → SqT K H' p ((xs ++ ys).map V.str) → Q (.ref p) H') : rCatA K (.ref a) (.ref b) H Q :=
  cat_tupK hx hy (by rw [List.length_map, List.length_map]; exact Nat.le_trans hl (by decide)) fun H' p s q => k H' p s (by rw [List.map_append]; exact q)
/-- the changes of a row of pairs -/
def hunksF (one two : List Str) : Nat → Nat → List (Nat × Nat) → List Hunk
  | _, _, [] => []
  | i, j, (h, t) :: r => (if i < h ∨ j < t then [⟨i, cutL one i h, cutL two j t⟩] else []) ++ hunksF one two (h + 1) (t + 1) r
def hunksL (one two : List Str) : List Hunk := hunksF one two 0 0 (pairs one two ++ [(one.length, two.length)])
theorem hunksF_len (one two : List Str) : ∀ (r : List (Nat × Nat)) (i j : Nat), (hunksF one two i j r).length ≤ r.length
  | [], _, _ => Nat.le_refl _
  | (h, t) :: r, i, j => by
    have := hunksF_len one two r (h + 1) (t + 1)
    rw [hunksF, List.length_append, List.length_cons]
    split <;> simp <;> omega
abbrev hunksD (hs : List Hunk) : PyData := .tuple (hs.map hunkD)
abbrev pairsD (ps : List (Nat × Nat)) : PyData := .tuple (ps.map pairD)
theorem of_tupD {K : PySem.W.Frag} {H : Hp} {v : V} {ds : List PyData} (h : Dp K H v (.tuple ds)) : ∃ a ws, v = .ref a ∧ SqT K H a ws ∧ DpAll K H ws ds := by
  cases h with
  | tup q r => exact ⟨_, _, rfl, q, r⟩
theorem imm_hunks (hs : List Hunk) : imm (hunksD hs) = true := by
  show immAll (hs.map hunkD) = true
  exact immAll_map _ imm_hunk hs
theorem imm_pairs (ps : List (Nat × Nat)) : imm (pairsD ps) = true := by
  show immAll (ps.map pairD) = true
  exact immAll_map _ imm_pair ps
end VK
end

section
set_option Elab.async false
set_option linter.all false
set_option maxRecDepth 100000
set_option maxHeartbeats 4000000
namespace VK
open PySem L2
abbrev s__law_hunks : Stmt := topS 42
theorem sc__law_hunks : FnScope ["one", "two", "found", "i", "j", "here", "there"] ["one", "two"] (defScope s__law_hunks) := ⟨rfl, rfl, rfl, by decide +kernel, rfl, by decide +kernel, by decide +kernel⟩
def spLHunks (K : PySem.W.Frag) : Sp := fun vs H Q _ => ∃ (a b : Addr) (one two : List Str), vs = [.ref a, .ref b] ∧ SqT K H a (one.map V.str) ∧ SqT K H b (two.map V.str) ∧ one.length ≤ 1000 ∧ two.length ≤ 1000 ∧
  ∀ (H' : Hp) (v : V), Same H H' → Dp K H' v (hunksD (hunksL one two)) → Q v H'
section
variable {P : Program} {w : World} {K : PySem.W.Frag} {mg : Str → Option Value} {base : Heap}
theorem ok_lhunks {f fT fP : Addr} {fd fdT fdP : FuncData} (F : Fun K "_law_hunks" "_law_hunks" s__law_hunks f fd) (T0 : Txt0 mg) (DT : Df K mg "_law_table" s__law_table ["one", "two"] fT fdT) (DP : Df K mg "_law_pairs" s__law_pairs ["one", "two"] fP fdP) : FnOk P w K mg base CX0 3 f fd ["one", "two"] (spLHunks K) := by
  have GP : FnOk P w K mg base CX0 2 fP fdP ["one", "two"] (spLPairs K) := ok_lpairs DP.F T0 DT
  refine F.ok sc__law_hunks (fun vs H Q E h => ?_) (fun cdv A outer s H vs Q E hr h => ?_)
  · obtain ⟨a, b, one, two, rfl, _⟩ := h
    rfl
  · obtain ⟨a, b, one, two, rfl, hA, hB, ha, hb, k⟩ := h
    refine ⟨_, (pss_cons (ps_set (i := 2) sc__law_hunks.nd rfl (Or.inl rfl) (pe_lst pa_nil))
      (pss_cons (ps_set (i := 3) sc__law_hunks.nd rfl (Or.inl rfl) pe_int)
      (pss_cons (ps_set (i := 4) sc__law_hunks.nd rfl (Or.inl rfl) pe_int)
      (pss_cons (ps_for PassesOwn.never rfl (pi_list (pe_op op_cat (pe_call GP hr rfl DP.m DP.F.kp DP.b .nil pass0 (pa_cons (pv 0) (pa_cons (pv 1) pa_nil))) (pe_lst (pa_cons (pe_tup (pa_cons (pe_callB call_len_seq (by rfl) T0.z_len PySem.boot_len (pa_cons (pv 0) pa_nil)) (pa_cons (pe_callB call_len_seq (by rfl) T0.z_len PySem.boot_len (pa_cons (pv 1) pa_nil)) pa_nil))) pa_nil)))) (pg_tup rfl (pgs_cons (pg_name (i := 5) sc__law_hunks.nd rfl (Or.inl rfl)) (pgs_cons (pg_name (i := 6) sc__law_hunks.nd rfl (Or.inl rfl)) pgs_nil)))
        (pss_cons (ps_if (PW.pt (pw_or (pt_cmpR op_gt (pv 5) (pv 3) (nomark _)) (pw_or1 (pt_cmpR op_gt (pv 6) (pv 4) (nomark _)))))
          (pss_one (ps_expr (pe_bm PySem.F.plainAttrs_list PySem.F.slot_list_append PySem.F.type_list_append mt_append (pv 2) (pa_cons (pe_tup (pa_cons (pv 3) (pa_cons (pe_callTy call_tupleT (by rfl) T0.z_tuple (by decide +kernel) (pa_cons (pe_slice sl_tupA (pv 0) (po_some (pv 3)) (po_some (pv 5))) pa_nil)) (pa_cons (pe_callTy call_tupleT (by rfl) T0.z_tuple (by decide +kernel) (pa_cons (pe_slice sl_tupA (pv 1) (po_some (pv 4)) (po_some (pv 6))) pa_nil)) pa_nil)))) pa_nil))))
          pss_nil)
        (pss_cons (ps_set (i := 3) sc__law_hunks.nd rfl (Or.inl rfl) (pe_op op_add (pv 5) pe_int))
        (pss_one (ps_set (i := 4) sc__law_hunks.nd rfl (Or.inl rfl) (pe_op op_add (pv 6) pe_int))))))
      (pss_one (ps_ret (pe_callTy call_tuple_of (by rfl) T0.z_tuple (by decide +kernel) (pa_cons (pv 2) pa_nil)))))))), ?_⟩
    refine ⟨by show 0 ≤ sizeLine; decide, fun fo hfo => ?_⟩
    refine seq_c ?_
    refine seq_c ?_
    have s0 : Same H (upd H fo (.lst [])) := same_new hfo
    refine ⟨_, rfl, _, rfl, a, b, one, two, rfl, s0.seqT hA, s0.seqT hB, ha, hb, fun H1 lp ws s1 hlp hlp1 hd => ?_⟩
    have s01 := s0.trans s1
    refine ⟨_, rfl, a, _, rfl, .inr (s01.seqT hA), _, rfl, b, _, rfl, .inr (s01.seqT hB), by show 2 ≤ sizeLine; decide, fun pp hpp => ⟨by show 1 ≤ sizeLine; decide, fun lq hlq => ?_⟩⟩
    obtain ⟨H2, e2⟩ : ∃ H2, H2 = upd H1 pp (.tup [.int ((one.map V.str).length : Int), .int ((two.map V.str).length : Int)]) := ⟨_, rfl⟩
    rw [← e2] at hlq ⊢
    have s12 : Same H1 H2 := by rw [e2]; exact same_new hpp
    have hpp2 : H2 pp = some (.tup [.int (one.length : Int), .int (two.length : Int)]) := by rw [e2, upd_same, List.length_map, List.length_map]
    obtain ⟨H3, e3⟩ : ∃ H3, H3 = upd H2 lq (.lst [.ref pp]) := ⟨_, rfl⟩
    rw [← e3]
    have s23 : Same H2 H3 := by rw [e3]; exact same_new hlq
    have s13 := s12.trans s23
    have lws : ws.length ≤ 1000 := by
      have q1 := dpAll_len hd
      have q3 : T one two 0 0 ≤ one.length := lcs_le1 _ _
      rw [List.length_map, pairs_len] at q1
      omega
    refine ⟨lp, lq, ws, [.ref pp], rfl, rfl, s13 _ _ hlp1, by rw [e3, upd_same], Nat.le_trans (show ws.length + 1 ≤ 2000 by omega) (by decide), fun L hL => ?_⟩
    obtain ⟨H4, e4⟩ : ∃ H4, H4 = upd H3 L (.lst (ws ++ [.ref pp])) := ⟨_, rfl⟩
    rw [← e4]
    have s34 : Same H3 H4 := by rw [e4]; exact same_new hL
    have hL4 : H4 L = some (.lst (ws ++ [.ref pp])) := by rw [e4, upd_same]
    obtain ⟨full, hfull⟩ : ∃ full, full = pairs one two ++ [(one.length, two.length)] := ⟨_, rfl⟩
    have d4 : DpAll K H4 (ws ++ [.ref pp]) (full.map pairD) := by
      rw [hfull, List.map_append]
      refine dpAll_app (pairs_keep (TK.same (s13.trans s34)) hd) (dpAll_one (dp_pair ?_))
      exact (s23.trans s34).seqT (.inl (.inl hpp2))
    have hfo1 : H1 fo = some (.lst []) := s1 _ _ upd_same
    have hfo4 : H4 fo = some (.lst []) := (s13.trans s34) _ _ hfo1
    have nLfo : L ≠ fo := by
      rintro rfl
      rw [s13 _ _ hfo1] at hL; cases hL
    have s4 : Same H H4 := s01.trans (s13.trans s34)
    have ln : (ws ++ [V.ref pp]).length = full.length := by rw [dpAll_len d4, List.length_map]
    have lf : full.length ≤ 1001 := by rw [← ln, List.length_append]; simp; omega
    refine ⟨L, rfl, ⟨_, SqL.of hL4⟩, ?_⟩
    refine for_it (walk_list (xs := ws ++ [.ref pp])) (fun c σ H' => ∃ (i j : Nat) (vs : List V) (dn : List Hunk) (x5 x6 : Option V), σ = [some (.ref a), some (.ref b), some (.ref fo), some (.int (i : Int)), some (.int (j : Int)), x5, x6] ∧ Same H H' ∧ TK K H4 H' ∧ H' L = some (.lst (ws ++ [.ref pp])) ∧
        H' fo = some (.lst vs) ∧ DpAll K H' vs (dn.map hunkD) ∧ dn ++ hunksF one two i j (full.drop c) = hunksL one two ∧ dn.length ≤ c) ?_ (fun c σ H' _ h => ?_) ?_ ?_
    · exact ⟨0, 0, [], [], none, none, rfl, s4, TK.refl _ _, hL4, hfo4, .nil, by rw [hfull]; rfl, Nat.le_refl _⟩
    · obtain ⟨i, j, vs, dn, x5, x6, rfl, h1, h2, h3, h4⟩ := h
      exact SqL.of h3
    · rintro c x σ H5o H5 hc ⟨i, j, vs, dn, x5, x6, rfl, sm, tk, hLL, hv, hdd, hp, hl⟩ ⟨rfl, hx⟩
      have hcf : c < full.length := by rw [← ln]; exact hc
      obtain ⟨⟨h, t⟩, ht⟩ : ∃ q, q = full[c] := ⟨_, rfl⟩
      have hf : full[c]? = some (h, t) := by rw [List.getElem?_eq_getElem hcf, ht]
      obtain ⟨v, hv1, hv2⟩ := dpAll_at (pairs_keep tk d4) (k := c) (d := pairD (h, t)) (by rw [List.getElem?_map, hf]; rfl)
      obtain rfl : v = x := Option.some.inj (hv1.symm.trans hx)
      obtain ⟨q, rfl, hq⟩ := of_pair hv2
      have ed : full.drop c = (h, t) :: full.drop (c + 1) := by rw [List.drop_eq_getElem_cons hcf, ← ht]
      rw [ed, hunksF] at hp
      refine ⟨q, _, rfl, hq, rfl, ?_⟩
      have fin : ∀ (vs' : List V) (dn' : List Hunk) (H' : Hp), Same H H' → TK K H4 H' → H' L = some (.lst (ws ++ [.ref pp])) → H' fo = some (.lst vs') → DpAll K H' vs' (dn'.map hunkD) → dn' ++ hunksF one two (h + 1) (t + 1) (full.drop (c + 1)) = hunksL one two → dn'.length ≤ c + 1 →
          ∃ (i j : Nat) (vs : List V) (dn : List Hunk) (x5 x6 : Option V), [some (.ref a), some (.ref b), some (.ref fo), some (V.int ((h : Int) + 1)), some (V.int ((t : Int) + 1)), some (V.int (h : Int)), some (V.int (t : Int))] = [some (.ref a), some (.ref b), some (.ref fo), some (.int (i : Int)), some (.int (j : Int)), x5, x6] ∧ Same H H' ∧ TK K H4 H' ∧ H' L = some (.lst (ws ++ [.ref pp])) ∧
        H' fo = some (.lst vs) ∧ DpAll K H' vs (dn.map hunkD) ∧ dn ++ hunksF one two i j (full.drop (c + 1)) = hunksL one two ∧ dn.length ≤ c + 1 := fun vs' dn' H' p1 p2 p3 p4 p5 p6 p7 => ⟨h + 1, t + 1, vs', dn', _, _, rfl, p1, p2, p3, p4, p5, p6, p7⟩
      refine ⟨_, _, rfl, _, _, rfl, rfl, ?_⟩
      refine cut (fun σ' H' => σ' = [some (.ref a), some (.ref b), some (.ref fo), some (V.int (i : Int)), some (V.int (j : Int)), some (V.int (h : Int)), some (V.int (t : Int))] ∧ ∃ (vs' : List V) (dn' : List Hunk), Same H H' ∧ TK K H4 H' ∧ H' L = some (.lst (ws ++ [.ref pp])) ∧ H' fo = some (.lst vs') ∧ DpAll K H' vs' (dn'.map hunkD) ∧ dn' ++ hunksF one two (h + 1) (t + 1) (full.drop (c + 1)) = hunksL one two ∧ dn'.length ≤ c + 1) (fun nx hn => ?_) ?_
      · refine tOr_pure (fun Q h => ⟨_, rfl, _, rfl, _, _, rfl, rfl, _, rfl, h⟩) (fun Q h => ⟨_, rfl, _, rfl, _, _, rfl, rfl, _, rfl, h⟩) ?_
        refine ite2 (fun e => ?_) (fun e => ?_)
        · have hc2 : i < h ∨ j < t := by
            rw [Bool.or_eq_true, decide_eq_true_eq, decide_eq_true_eq] at e
            omega
          rw [if_pos hc2] at hp
          refine ⟨_, rfl, .inl ⟨rfl, _, SqL.of hv⟩, _, rfl, _, rfl, _, rfl, _, rfl, _, rfl, _, rfl, sl_lines (sm.seqT hA) fun H6 p s56 hp6 => ?_⟩
          refine ⟨p, _, rfl, hp6, _, rfl, _, rfl, _, rfl, _, rfl, _, rfl, sl_lines ((sm.trans s56).seqT hB) fun H7 r s67 hr7 => ?_⟩
          refine ⟨r, _, rfl, hr7, by show 3 ≤ sizeLine; decide, fun z hz => ?_⟩
          have s57 := s56.trans s67
          have hv7 : H7 fo = some (.lst vs) := s57 _ _ hv
          have nfz : fo ≠ z := ne_of_none hv7 hz
          have hv8 : upd H7 z (.tup [.int (i : Int), .ref p, .ref r]) fo = some (.lst vs) := by rw [upd_ne nfz]; exact hv7
          have lvs : vs.length < 2000 := by
            have q1 := dpAll_len hdd
            rw [List.length_map] at q1
            omega
          refine ⟨fo, vs, _, rfl, rfl, hv8, Nat.lt_of_lt_of_le lvs (by decide), ?_⟩
          have tk8 : TK K H5 (upd (upd H7 z (.tup [.int (i : Int), .ref p, .ref r])) fo (.lst (vs ++ [.ref z]))) := ((TK.same s57).trans (TK.new hz)).trans (TK.lst hv8)
          refine hn _ _ ⟨rfl, vs ++ [.ref z], dn ++ [⟨i, cutL one i h, cutL two j t⟩], ?_, tk.trans tk8, ?_, upd_same, ?_, ?_, ?_⟩
          · exact same_mut ((sm.trans s57).trans (same_new hz)) hfo
          · rw [upd_ne nLfo, upd_ne (ne_of_none (s57 _ _ hLL) hz)]; exact s57 _ _ hLL
          · rw [List.map_append]
            refine dpAll_app (hunks_keep tk8 hdd) (dpAll_one (dp_hunk (b := p) (c := r) ?_ ?_ ?_))
            · exact TK.lst hv8 _ _ (.inl (.inl upd_same))
            · exact ((TK.new hz).trans (TK.lst hv8)) _ _ (s67.seqT hp6)
            · exact ((TK.new hz).trans (TK.lst hv8)) _ _ hr7
          · rw [List.append_assoc]; exact hp
          · rw [List.length_append]; exact Nat.succ_le_succ hl
        · have hc2 : ¬ (i < h ∨ j < t) := by
            intro q
            apply e
            rw [Bool.or_eq_true, decide_eq_true_eq, decide_eq_true_eq]
            omega
          rw [if_neg hc2] at hp
          exact hn _ _ ⟨rfl, vs, dn, sm, tk, hLL, hv, hdd, hp, Nat.le_succ_of_le hl⟩
      · rintro σ6 H6 ⟨rfl, vs', dn', p1, p2, p3, p4, p5, p6, p7⟩
        exact ⟨_, rfl, _, _, rfl, rfl, _, rfl, _, _, rfl, rfl, fin _ _ _ p1 p2 p3 p4 p5 p6 p7⟩
    · rintro σ H5 ⟨i, j, vs, dn, x5, x6, rfl, sm, tk, hLL, hv, hdd, hp, hl⟩
      rw [ln, List.drop_length] at hp
      have hp : dn = hunksL one two := by rw [← hp]; exact (List.append_nil dn).symm
      refine ⟨_, rfl, fo, _, rfl, .inl ⟨SqL.of hv, fun l hl2 => ?_⟩⟩
      refine k _ _ (sm.trans (same_new hl2)) ?_
      refine .tup (.inl (.inl upd_same)) ?_
      rw [← hp]
      exact hunks_keep (TK.new hl2) hdd
end
end VK
end

section
set_option Elab.async false
set_option linter.all false
set_option maxRecDepth 100000
set_option maxHeartbeats 4000000
namespace VK
open PySem L2
/-- the lines that a row of changes makes -/
def applyF (ls : List Str) : Nat → List Hunk → List Str
  | i, [] => ls.drop i
  | i, h :: r => cutL ls i h.start ++ h.come ++ applyF ls (h.start + h.gone.length) r
abbrev s__law_apply : Stmt := topS 43
theorem sc__law_apply : FnScope ["lines", "patch", "found", "here", "start", "gone", "come"] ["lines", "patch"] (defScope s__law_apply) := ⟨rfl, rfl, rfl, by decide +kernel, rfl, by decide +kernel, by decide +kernel⟩
def spApply (K : PySem.W.Frag) : Sp := fun vs H Q _ => ∃ (a b : Addr) (ls : List Str) (hs : List Hunk), vs = [.ref a, .ref b] ∧ SqT K H a (ls.map V.str) ∧ Dp K H (.ref b) (hunksD hs) ∧ (applyF ls 0 hs).length ≤ 10000 ∧
  ∀ (H' : Hp) (p : Addr), Same H H' → SqT K H' p ((applyF ls 0 hs).map V.str) → Q (.ref p) H'
section
variable {P : Program} {w : World} {K : PySem.W.Frag} {mg : Str → Option Value} {base : Heap}
theorem ok_apply {f : Addr} {fd : FuncData} (F : Fun K "_law_apply" "_law_apply" s__law_apply f fd) (T0 : Txt0 mg) : FnOk P w K mg base CX0 1 f fd ["lines", "patch"] (spApply K) := by
  refine F.ok sc__law_apply (fun vs H Q E h => ?_) (fun cdv A outer s H vs Q E hr h => ?_)
  · obtain ⟨a, b, ls, hs, rfl, _⟩ := h
    rfl
  · obtain ⟨a, b, ls, hs, rfl, hA, hB, hlen, k⟩ := h
    refine ⟨_, (pss_cons (ps_set (i := 2) sc__law_apply.nd rfl (Or.inl rfl) (pe_tup pa_nil))
      (pss_cons (ps_set (i := 3) sc__law_apply.nd rfl (Or.inl rfl) pe_int)
      (pss_cons (ps_for PassesOwn.never rfl (pi_tup (pv 1)) (pg_tup rfl (pgs_cons (pg_name (i := 4) sc__law_apply.nd rfl (Or.inl rfl)) (pgs_cons (pg_name (i := 5) sc__law_apply.nd rfl (Or.inl rfl)) (pgs_cons (pg_name (i := 6) sc__law_apply.nd rfl (Or.inl rfl)) pgs_nil))))
        (pss_cons (ps_set (i := 2) sc__law_apply.nd rfl (Or.inl rfl) (pe_op op_catA (pe_op op_catA (pv 2) (pe_callTy call_tupleT (by rfl) T0.z_tuple (by decide +kernel) (pa_cons (pe_slice sl_tupA (pv 0) (po_some (pv 3)) (po_some (pv 4))) pa_nil))) (pv 6)))
        (pss_one (ps_set (i := 3) sc__law_apply.nd rfl (Or.inl rfl) (pe_op op_add (pv 4) (pe_callB call_len_seq (by rfl) T0.z_len PySem.boot_len (pa_cons (pv 5) pa_nil)))))))
      (pss_one (ps_ret (pe_op op_catA (pv 2) (pe_callTy call_tupleT (by rfl) T0.z_tuple (by decide +kernel) (pa_cons (pe_slice sl_tupA (pv 0) (po_some (pv 3)) po_none) pa_nil)))))))), ?_⟩
    refine ⟨by show 0 ≤ sizeLine; decide, fun fo hfo => ?_⟩
    refine seq_c ?_
    have s0 : Same H (upd H fo (.tup [])) := same_new hfo
    obtain ⟨b', ws, eb, hb, hd⟩ := of_tupD hB
    cases eb
    have ln : ws.length = hs.length := by rw [dpAll_len hd, List.length_map]
    refine ⟨_, rfl, b, rfl, ⟨_, s0.seqT hb⟩, ?_⟩
    refine for_it (walk_tup (xs := ws)) (fun c σ H' => ∃ (i : Nat) (q : Addr) (fs : List Str) (x4 x5 x6 : Option V), σ = [some (.ref a), some (.ref b), some (.ref q), some (.int (i : Int)), x4, x5, x6] ∧ Same H H' ∧ SqT K H' q (fs.map V.str) ∧ fs ++ applyF ls i (hs.drop c) = applyF ls 0 hs) ?_ (fun c σ H' _ h => ?_) ?_ ?_
    · exact ⟨0, fo, [], none, none, none, rfl, s0, .inl (.inl upd_same), rfl⟩
    · obtain ⟨i, q, fs, x4, x5, x6, rfl, h1, h2, h3⟩ := h
      exact h1.seqT hb
    · rintro c x σ H5o H5 hc ⟨i, q, fs, x4, x5, x6, rfl, sm, hq, hp⟩ ⟨rfl, hx⟩
      have hcf : c < hs.length := by rw [← ln]; exact hc
      obtain ⟨h, ht⟩ : ∃ h, h = hs[c] := ⟨_, rfl⟩
      have hf : hs[c]? = some h := by rw [List.getElem?_eq_getElem hcf, ht]
      obtain ⟨v, hv1, hv2⟩ := dpAll_at (hunks_keep (TK.same sm) hd) (k := c) (d := hunkD h) (by rw [List.getElem?_map, hf]; rfl)
      obtain rfl : v = x := Option.some.inj (hv1.symm.trans hx)
      obtain ⟨z, g, m, rfl, hz, hg, hm⟩ := of_hunk hv2
      have ed : hs.drop c = h :: hs.drop (c + 1) := by rw [List.drop_eq_getElem_cons hcf, ← ht]
      rw [ed, applyF] at hp
      have hl := congrArg List.length hp
      simp only [List.length_append] at hl
      refine ⟨z, _, rfl, hz, rfl, _, _, rfl, _, _, rfl, _, _, rfl, rfl, ?_⟩
      refine ⟨_, rfl, _, rfl, _, rfl, _, rfl, _, rfl, _, rfl, sl_lines (sm.seqT hA) fun H6 p s56 hp6 => ?_⟩
      refine ⟨p, _, rfl, hp6, ?_⟩
      refine cat_lines (s56.seqT hq) hp6 (by omega) fun H7 r s67 hr7 => ?_
      refine ⟨_, rfl, cat_lines hr7 ((s56.trans s67).seqT hm) (by rw [List.length_append]; omega) fun H8 y s78 hy8 => ?_⟩
      have s58 := s56.trans (s67.trans s78)
      refine ⟨_, rfl, _, rfl, g, _, rfl, .inr (s58.seqT hg), _, _, rfl, rfl, ?_⟩
      refine ⟨h.start + h.gone.length, y, fs ++ cutL ls i h.start ++ h.come, some (.int (h.start : Int)), some (.ref g), some (.ref m), ?_, sm.trans s58, hy8, ?_⟩
      · show [_, _, _, some (V.int ((h.start : Int) + ((h.gone.map V.str).length : Int))), _, _, _] = _
        rw [List.length_map]; rfl
      · rw [← hp]; simp [List.append_assoc]
    · rintro σ H5 ⟨i, q, fs, x4, x5, x6, rfl, sm, hq, hp⟩
      rw [ln, List.drop_length, applyF] at hp
      have hl := congrArg List.length hp
      simp only [List.length_append] at hl
      refine ⟨_, rfl, _, rfl, _, rfl, _, rfl, ?_⟩
      dsimp only [tNoPart]
      refine sl_linesFrom (sm.seqT hA) fun H6 p s56 hp6 => ?_
      refine ⟨p, _, rfl, hp6, ?_⟩
      refine cat_lines (s56.seqT hq) hp6 (by omega) fun H7 r s67 hr7 => ?_
      exact k _ r (sm.trans (s56.trans s67)) (by rw [← hp]; exact hr7)
end
/-- what the changes make of the first lines are the second -/
theorem cutL_drop {α : Type} (xs : List α) {i h : Nat} (h1 : i ≤ h) : cutL xs i h ++ xs.drop h = xs.drop i := by
  unfold cutL
  have e : xs.drop h = (xs.drop i).drop (h - i) := by rw [List.drop_drop]; congr 1; omega
  rw [e, List.take_append_drop]
theorem cutL_self {α : Type} (xs : List α) (i : Nat) : cutL xs i i = [] := by unfold cutL; simp
theorem cutL_app {α : Type} (xs : List α) {i j k : Nat} (h1 : i ≤ j) (h2 : j ≤ k) : cutL xs i k = cutL xs i j ++ cutL xs j k := by
  unfold cutL
  have e : xs.drop j = (xs.drop i).drop (j - i) := by rw [List.drop_drop]; congr 1; omega
  have e2 : k - i = (j - i) + (k - j) := by omega
  rw [e, e2, List.take_add]
theorem cutL_length {α : Type} (xs : List α) {i h : Nat} (h1 : h ≤ xs.length) : (cutL xs i h).length = h - i := by
  unfold cutL
  rw [List.length_take, List.length_drop]; omega
theorem cutL_end {α : Type} (xs : List α) {i h : Nat} (h1 : xs.length ≤ h) : cutL xs i h = xs.drop i := by
  unfold cutL
  rw [List.take_of_length_le]
  rw [List.length_drop]; omega
theorem cutL_one {α : Type} {xs : List α} {h : Nat} {x : α} (e : xs[h]? = some x) : cutL xs h (h + 1) = [x] := by
  obtain ⟨h1, h2⟩ := List.getElem?_eq_some_iff.mp e
  unfold cutL
  rw [List.drop_eq_getElem_cons h1, h2]
  have e1 : h + 1 - h = 1 := by omega
  rw [e1]; rfl
theorem apply_hunks (one two : List Str) : ∀ (ps : List (Nat × Nat)) (i j i0 : Nat), Row one two i j ps → i ≤ one.length → j ≤ two.length → i0 ≤ i →
    applyF one i0 (hunksF one two i j (ps ++ [(one.length, two.length)])) = cutL one i0 i ++ two.drop j
  | [], i, j, i0, _, h1, h2, h3 => by
    rw [List.nil_append, hunksF, hunksF, List.append_nil]
    by_cases e : i < one.length ∨ j < two.length
    · rw [if_pos e, applyF, applyF]
      dsimp only
      have e1 : i + (one.length - i) = one.length := by omega
      rw [cutL_length one (Nat.le_refl _), cutL_end two (Nat.le_refl _), e1, List.drop_length, List.append_nil]
    · rw [if_neg e, applyF]
      have e1 : i = one.length := by omega
      have e2 : j = two.length := by omega
      rw [e1, e2, cutL_end one (Nat.le_refl _), List.drop_length, List.append_nil]
  | (h, t) :: ps, i, j, i0, ⟨r1, r2, r3, r4, r5, r6⟩, h1, h2, h3 => by
    rw [List.cons_append, hunksF]
    have x1 : one[h]? = some two[t] := by rw [r5, List.getElem?_eq_getElem r4]
    have x2 : two[t]? = some two[t] := List.getElem?_eq_getElem r4
    have e3 : two.drop t = two[t] :: two.drop (t + 1) := List.drop_eq_getElem_cons r4
    by_cases e : i < h ∨ j < t
    · rw [if_pos e, List.singleton_append, applyF]
      dsimp only
      have e1 : i + (cutL one i h).length = h := by rw [cutL_length one (by omega)]; omega
      rw [e1, apply_hunks one two ps (h + 1) (t + 1) h r6 r3 r4 (by omega), cutL_one x1, List.append_assoc, List.singleton_append, ← e3, cutL_drop two r2]
    · rw [if_neg e, List.nil_append, apply_hunks one two ps (h + 1) (t + 1) i0 r6 r3 r4 (by omega)]
      have e1 : i = h := by omega
      have e2 : j = t := by omega
      rw [cutL_app one (show i0 ≤ h by omega) (show h ≤ h + 1 by omega), cutL_one x1, List.append_assoc, List.singleton_append, ← e3, e1, e2]
theorem apply_law (one two : List Str) : applyF one 0 (hunksL one two) = two := by
  unfold hunksL
  rw [apply_hunks one two _ 0 0 0 (pairs_row one two) (Nat.zero_le _) (Nat.zero_le _) (Nat.le_refl _), cutL_self]
  rfl
end VK
end

section
set_option Elab.async false
set_option linter.all false
set_option maxRecDepth 100000
set_option maxHeartbeats 4000000
namespace VK
open PySem L2
theorem hit_mk {one two : List Str} {i j k : Nat} (h1 : j ≤ k) (h2 : k < two.length) (h : hitP one two i j k = true) (n : ∀ k', j ≤ k' → k' < k → hitP one two i j k' = false) : hit one two i j = some k := by
  cases e : hit one two i j with
  | none =>
    exfalso
    refine hit_none e h1 h2 ?_
    unfold hitP at h
    simpa using h
  | some k2 =>
    obtain ⟨a, b, c, d, f, g⟩ := hit_some e
    have q2 : hitP one two i j k2 = true := by unfold hitP; rw [c, f]; simp
    rcases Nat.lt_trichotomy k k2 with z | z | z
    · rw [g k h1 z] at h; cases h
    · rw [z]
    · rw [n k2 a z] at q2; cases q2
theorem hit_no {one two : List Str} {i j : Nat} (n : ∀ k', j ≤ k' → k' < two.length → hitP one two i j k' = false) : hit one two i j = none := by
  cases e : hit one two i j with
  | none => rfl
  | some k2 =>
    obtain ⟨a, b, c, d, f, g⟩ := hit_some e
    have q2 : hitP one two i j k2 = true := by unfold hitP; rw [c, f]; simp
    rw [n k2 a b] at q2; cases q2
abbrev s_next_pair : Stmt := topS 10
theorem sc_next_pair : FnScope ["one", "two", "table", "place", "first", "second", "whole", "other"] ["one", "two", "table", "place"] (defScope s_next_pair) := ⟨rfl, rfl, rfl, by decide +kernel, rfl, by decide +kernel, by decide +kernel⟩
def spNext (K : PySem.W.Frag) : Sp := fun vs H Q _ => ∃ (a b t pl : Addr) (one two : List Str) (i j : Nat), vs = [.ref a, .ref b, .ref t, .ref pl] ∧ SqT K H a (one.map V.str) ∧ SqT K H b (two.map V.str) ∧ TabOk H t one two ∧ SqT K H pl [.int (i : Int), .int (j : Int)] ∧ 0 < T one two i j ∧ one.length ≤ 1000 ∧ two.length ≤ 1000 ∧
  ∀ (H' : Hp) (p : Addr) (i' k : Nat), Same H H' → SqT K H' p [.int (i' : Int), .int (k : Int)] → PR one two i j = (i', k) :: PR one two (i' + 1) (k + 1) → i' < one.length → k < two.length → Q (.ref p) H'
section
variable {P : Program} {w : World} {K : PySem.W.Frag} {mg : Str → Option Value} {base : Heap}
theorem ok_next {f : Addr} {fd : FuncData} (F : Fun K "next_pair" "next_pair" s_next_pair f fd) (T0 : Txt0 mg) : FnOk P w K mg base CX0 1 f fd ["one", "two", "table", "place"] (spNext K) := by
  refine F.ok sc_next_pair (fun vs H Q E h => ?_) (fun cdv A outer s H vs Q E hr h => ?_)
  · obtain ⟨a, b, t, pl, one, two, i, j, rfl, _⟩ := h
    rfl
  · obtain ⟨a, b, t, pl, one, two, i, j, rfl, hA, hB, tab, hpl, hpos, ha, hb, k⟩ := h
    refine ⟨_, (pss_cons (ps_asg (pv 3) (pg_tup rfl (pgs_cons (pg_name (i := 4) sc_next_pair.nd rfl (Or.inl rfl)) (pgs_cons (pg_name (i := 5) sc_next_pair.nd rfl (Or.inl rfl)) pgs_nil))))
      (pss_cons (ps_set (i := 6) sc_next_pair.nd rfl (Or.inl rfl) (pe_ix ix_list (pe_ix ix_list (pv 2) (pv 4) (fun _ _ => rfl)) (pv 5) (fun _ _ => rfl)))
      (pss_one (ps_while PassesOwn.never (pt_val pe_bl)
        (pss_cons (ps_for PassesOwn.never rfl (pi_range2 (by rfl) T0.z_range (pa_cons (pv 5) (pa_cons (pe_callB call_len_seq (by rfl) T0.z_len PySem.boot_len (pa_cons (pv 1) pa_nil)) pa_nil))) (pg_name (i := 7) sc_next_pair.nd rfl (Or.inl rfl))
          (pss_one (ps_if (PW.pt (pw_and (pt_cmpR op_eq (pe_ix ix_tup (pv 0) (pv 4) (fun _ _ => rfl)) (pe_ix ix_tup (pv 1) (pv 7) (fun _ _ => rfl)) (nomark _)) (pw_and1 (pt_cmpR op_eq (pe_op op_add (pe_ix ix_list (pe_ix ix_list (pv 2) (pe_op op_add (pv 4) pe_int) (fun _ _ => rfl)) (pe_op op_add (pv 7) pe_int) (fun _ _ => rfl)) pe_int) (pv 6) (nomark _)))))
            (pss_one (ps_ret (pe_tup (pa_cons (pv 4) (pa_cons (pv 7) pa_nil)))))
            pss_nil)))
        (pss_one (ps_aug (i := 4) sc_next_pair.nd rfl (Or.inl rfl) pe_int ip_add))))))), ?_⟩
    have hi : i < one.length := by
      rcases Nat.lt_or_ge i one.length with z | z
      · exact z
      · rw [T_end1 z] at hpos; omega
    have hj : j < two.length := by
      rcases Nat.lt_or_ge j two.length with z | z
      · exact z
      · rw [T_end2 z] at hpos; omega
    obtain ⟨as, r, row, hT, hr1, hr2, hr3⟩ := tab.get (Nat.le_of_lt hi) (Nat.le_of_lt hj)
    refine ⟨_, rfl, pl, _, rfl, hpl, rfl, _, _, rfl, _, _, rfl, rfl, ?_⟩
    refine ⟨_, rfl, _, rfl, t, as, (i : Int), _, rfl, rfl, SqL.of hT, atI_nat hr1, _, rfl, r, row, (j : Int), _, rfl, rfl, SqL.of hr2, atI_nat hr3, ?_⟩
    refine ⟨fun m σ H' => ∃ (q : Nat) (x7 : Option V), m = one.length - q ∧ σ = [some (.ref a), some (.ref b), some (.ref t), some (.ref pl), some (.int (q : Int)), some (.int (j : Int)), some (.int (T one two i j : Int)), x7] ∧
        H' = H ∧ T one two q j = T one two i j ∧ PR one two i j = PR one two q j, ⟨_, i, none, rfl, rfl, rfl, rfl, rfl⟩, ?_⟩
    rintro m σ H2 ⟨q, x7, rfl, rfl, rfl, eT, eP⟩
    have hq : q < one.length := by
      rcases Nat.lt_or_ge q one.length with z | z
      · exact z
      · rw [T_end1 z] at eT; omega
    refine ⟨_, rfl, ?_⟩
    refine ite2 (fun _ => ?_) (fun e => absurd rfl e)
    refine ⟨fun σ' H' => ∃ m', m' < one.length - q ∧ ∃ (q : Nat) (x7 : Option V), m' = one.length - q ∧ σ' = [some (.ref a), some (.ref b), some (.ref t), some (.ref pl), some (.int (q : Int)), some (.int (j : Int)), some (.int (T one two i j : Int)), x7] ∧
        H' = H2 ∧ T one two q j = T one two i j ∧ PR one two i j = PR one two q j, fun _ _ h => h, ?_⟩
    refine ⟨_, rfl, _, rfl, b, _, rfl, .inr hB, _, _, rfl, ⟨by omega, by omega, ?_, ?_⟩, ?_⟩
    · simp only [List.length_map]; omega
    · simp only [List.length_map]; omega
    have en : (((two.map V.str).length : Int) - (j : Int)).toNat = two.length - j := by rw [List.length_map]; omega
    rw [en]
    refine for_it walk_range (fun c σ H' => ∃ (x7 : Option V), σ = [some (.ref a), some (.ref b), some (.ref t), some (.ref pl), some (.int (q : Int)), some (.int (j : Int)), some (.int (T one two i j : Int)), x7] ∧ H' = H2 ∧ ∀ k', j ≤ k' → k' < j + c → hitP one two q j k' = false) ⟨x7, rfl, rfl, fun k' h1 h2 => by omega⟩ (fun _ _ _ _ _ => trivial) ?_ ?_
    · rintro c x σ H3o H3 hc ⟨x7, rfl, rfl, hn⟩ ⟨rfl, hx⟩
      obtain ⟨m, hm⟩ : ∃ m : Nat, m = j + c := ⟨_, rfl⟩
      have hm' : ((j : Int) + (c : Nat)) = (m : Int) := by omega
      obtain rfl : x = V.int (m : Int) := hx.trans (congrArg V.int hm')
      have hm2 : m < two.length := by omega
      have n1 : one[q]? = some one[q] := List.getElem?_eq_getElem hq
      have n2 : two[m]? = some two[m] := List.getElem?_eq_getElem hm2
      have m1 : (one.map V.str)[q]? = some (V.str one[q]) := by rw [List.getElem?_map, n1]; rfl
      have m2 : (two.map V.str)[m]? = some (V.str two[m]) := by rw [List.getElem?_map, n2]; rfl
      obtain ⟨as1, r', row1, q1, q2, q3, q4⟩ := tab.get (i := q + 1) (j := m + 1) (by omega) (by omega)
      have n0 : T one two q j = T one two i j := eT
      refine tAnd_pure (fun Q h => ⟨_, rfl, _, rfl, a, _, _, _, rfl, rfl, hA, atI_nat m1, _, rfl, _, rfl, b, _, _, _, rfl, rfl, hB, atI_nat m2, rfl, _, rfl, h⟩)
        (fun Q h => ⟨_, rfl, _, rfl, _, _, rfl, rfl, t, as1, _, _, rfl, rfl, SqL.of q1, atI_nat (j := q + 1) q2, _, rfl, _, _, rfl, rfl, _, _, _, _, rfl, rfl, SqL.of q3, atI_nat (j := m + 1) q4, _, _, rfl, rfl, _, rfl, rfl, _, rfl, h⟩) ?_
      have hh : hitP one two q j m = (decide (V.str one[q] = V.str two[m]) && decide ((fun i j => V.int (i + j)) (T one two (q + 1) (m + 1) : Int) 1 = V.int (T one two i j : Int))) := by
        unfold hitP
        rw [n1, n2, n0]
        congr 1
        · apply decide_eq_decide.mpr
          constructor
          · intro z; rw [Option.some.inj z]
          · intro z; rw [V.str.inj z]
        · apply decide_eq_decide.mpr
          constructor
          · intro z; rw [← z]; rfl
          · intro z
            have := V.int.inj z
            omega
      dsimp only at hh ⊢
      refine ite2 (fun e => ?_) (fun e => ?_)
      · rw [e] at hh
        have e1 := hit_mk (i := q) (by omega) hm2 hh (fun k' h1 h2 => hn k' h1 (by omega))
        exact ⟨_, rfl, _, rfl, by show 2 ≤ sizeLine; decide, fun p hp => k _ p q m (same_new hp) (.inl (.inl upd_same)) (by rw [eP, PR_some e1]) hq hm2⟩
      · rw [Bool.not_eq_true] at e
        rw [e] at hh
        refine ⟨_, rfl, rfl, fun k' h1 h2 => ?_⟩
        by_cases z : k' < j + c
        · exact hn k' h1 z
        · have z2 : k' = m := by omega
          rw [z2]; exact hh
    · rintro σ H3 ⟨x7, rfl, rfl, hn⟩
      have e1 : hit one two q j = none := hit_no fun k' h1 h2 => hn k' h1 (by omega)
      exact ⟨_, rfl, _, _, rfl, rfl, _, by omega, q + 1, x7, rfl, rfl, rfl, by rw [T_none e1]; exact eT, by rw [eP, PR_none e1]⟩
end
end VK
end

section
set_option Elab.async false
set_option linter.all false
set_option maxRecDepth 100000
set_option maxHeartbeats 4000000
namespace VK
open PySem L2
theorem T_shift (one two : List Str) (s i j : Nat) : T one two (s + i) (s + j) = T (one.drop s) (two.drop s) i j := by
  unfold T
  rw [List.drop_drop, List.drop_drop]
theorem hitP_shift (one two : List Str) (s i j k : Nat) : hitP one two (s + i) (s + j) (s + k) = hitP (one.drop s) (two.drop s) i j k := by
  unfold hitP
  have e1 : s + i + 1 = s + (i + 1) := by omega
  have e2 : s + k + 1 = s + (k + 1) := by omega
  rw [e1, e2, T_shift, T_shift, List.getElem?_drop, List.getElem?_drop]
theorem hit_shift (one two : List Str) (s i j : Nat) : hit one two (s + i) (s + j) = (hit (one.drop s) (two.drop s) i j).map (s + ·) := by
  cases e : hit (one.drop s) (two.drop s) i j with
  | none =>
    refine hit_no fun k' h1 h2 => ?_
    have e1 : k' = s + (k' - s) := by omega
    rw [e1, hitP_shift]
    cases q : hitP (one.drop s) (two.drop s) i j (k' - s) with
    | false => rfl
    | true =>
      exfalso
      unfold hitP at q
      refine hit_none e (k := k' - s) (by omega) (by rw [List.length_drop]; omega) ?_
      simpa using q
  | some k =>
    obtain ⟨a, b, c, d, f, g⟩ := hit_some e
    rw [List.length_drop] at b
    show hit one two (s + i) (s + j) = some (s + k)
    refine hit_mk (by omega) (by omega) ?_ fun k' h1 h2 => ?_
    · rw [hitP_shift]; unfold hitP; rw [c, f]; simp
    · have e1 : k' = s + (k' - s) := by omega
      rw [e1, hitP_shift]
      exact g _ (by omega) (by omega)
def shf (s : Nat) (p : Nat × Nat) : Nat × Nat := (s + p.1, s + p.2)
theorem PR_shift (one two : List Str) (s : Nat) : ∀ (d i j : Nat), one.length - (s + i) = d → PR one two (s + i) (s + j) = (PR (one.drop s) (two.drop s) i j).map (shf s)
  | 0, i, j, e => by
    rw [PR_end (by omega), PR_end (by rw [List.length_drop]; omega)]; rfl
  | d + 1, i, j, e => by
    have e1 : s + i + 1 = s + (i + 1) := by omega
    cases h : hit (one.drop s) (two.drop s) i j with
    | none =>
      have h2 := hit_shift one two s i j
      rw [h] at h2
      rw [PR_none h2, PR_none h, e1, PR_shift one two s d (i + 1) j (by omega)]
    | some k =>
      have h2 := hit_shift one two s i j
      rw [h] at h2
      have e2 : s + k + 1 = s + (k + 1) := by omega
      rw [PR_some h2, PR_some h, e1, e2, PR_shift one two s d (i + 1) (k + 1) (by omega)]
      rfl
def diag (s : Nat) : List (Nat × Nat) := (List.range s).map fun q => (q, q)
/-- equal lines ahead -/
theorem pairs_pre {one two : List Str} : ∀ s : Nat, s ≤ one.length → s ≤ two.length → (∀ q, q < s → one[q]? = two[q]?) → pairs one two = diag s ++ PR one two s s
  | 0, _, _, _ => rfl
  | s + 1, h1, h2, h => by
    rw [pairs_pre s (by omega) (by omega) fun q hq => h q (by omega)]
    have e : hit one two s s = some s := by
      refine hit_mk (Nat.le_refl _) (by omega) ?_ fun k' a b => by omega
      have n1 : one[s]? = some one[s] := List.getElem?_eq_getElem (by omega)
      have n2 : two[s]? = some one[s] := by rw [← h s (by omega), n1]
      unfold hitP
      rw [n1, n2, T_eq n1 n2]; simp
    rw [PR_some e]
    unfold diag
    rw [List.range_succ, List.map_append, List.append_assoc]; rfl
theorem pairs_eq {one two : List Str} {s : Nat} (h1 : s ≤ one.length) (h2 : s ≤ two.length) (h : ∀ q, q < s → one[q]? = two[q]?) : pairs one two = diag s ++ (PR (one.drop s) (two.drop s) 0 0).map (shf s) := by
  rw [pairs_pre s h1 h2 h]
  have := PR_shift one two s _ 0 0 rfl
  rw [Nat.add_zero] at this
  rw [this]
end VK
end

section
set_option Elab.async false
set_option linter.all false
set_option pp.maxSteps 1500
set_option maxRecDepth 100000
set_option maxHeartbeats 4000000
namespace VK
open PySem L2
abbrev s_kept_pairs : Stmt := topS 9
theorem sc_kept_pairs : FnScope ["one", "two", "same", "found", "table", "first", "second", "place"] ["one", "two"] (defScope s_kept_pairs) := ⟨rfl, rfl, rfl, by decide +kernel, rfl, by decide +kernel, by decide +kernel⟩
def spKept (K : PySem.W.Frag) (C : Addr) : Sp := fun vs H Q E => ∃ (a b : Addr) (one two : List Str), vs = [.ref a, .ref b] ∧ SqT K H a (one.map V.str) ∧ SqT K H b (two.map V.str) ∧ one.length ≤ 1000 ∧ two.length ≤ 1000 ∧
  (∀ s, s ≤ one.length → s ≤ two.length → (s = one.length ∨ s = two.length ∨ one[s]? ≠ two[s]?) → (∀ q, q < s → one[q]? = two[q]?) → 40000 < (one.length - s) * (two.length - s) → ∀ H', Same H H' → E (.ref C) none H') ∧
  ((∃ s, s ≤ one.length ∧ s ≤ two.length ∧ (s = one.length ∨ s = two.length ∨ one[s]? ≠ two[s]?) ∧ (∀ q, q < s → one[q]? = two[q]?) ∧ (one.length - s) * (two.length - s) ≤ 40000) → ∀ (H' : Hp) (v : V), Same H H' → Dp K H' v (pairsD (pairs one two)) → Q v H')
section
variable {P : Program} {w : World} {K : PySem.W.Frag} {mg : Str → Option Value} {base : Heap}
theorem ok_kept {f fC fN C : Addr} {fd fdC fdN : FuncData} (F : Fun K "kept_pairs" "kept_pairs" s_kept_pairs f fd) (T0 : Txt0 mg) (L : TL K mg C) {tM : Tok} (hc : mg "MOST_PLACES" = some (.int 40000 tM)) (DC : Df K mg "common_table" s_common_table ["one", "two"] fC fdC) (DN : Df K mg "next_pair" s_next_pair ["one", "two", "table", "place"] fN fdN) : FnOk P w K mg base (L2N.CX P w) 2 f fd ["one", "two"] (spKept K C) := by
  have GC : FnOk P w K mg base (L2N.CX P w) 1 fC fdC ["one", "two"] (spTable K C) := ok_table DC.F T0 L hc
  have GN : FnOk P w K mg base CX0 1 fN fdN ["one", "two", "table", "place"] (spNext K) := ok_next DN.F T0
  refine okXN F sc_kept_pairs (fun vs H Q E h => ?_) (fun cdv A outer s H vs Q E hr h => ?_)
  · obtain ⟨a, b, one, two, rfl, _⟩ := h
    rfl
  · obtain ⟨a, b, one, two, rfl, hA, hB, ha, hb, kE, k⟩ := h
    refine ⟨_, (pss_cons (ps_set (i := 2) sc_kept_pairs.nd rfl (Or.inl rfl) pe_int)
      (pss_cons (ps_while (passes_of rfl) (PW.pt (pw_and (pt_cmpR op_lt (pv 2) (pe_callB (call_min2 rfl) (by rfl) T0.z_min (by decide +kernel) (pa_cons (pe_callB call_len_seq (by rfl) T0.z_len PySem.boot_len (pa_cons (pv 0) pa_nil)) (pa_cons (pe_callB call_len_seq (by rfl) T0.z_len PySem.boot_len (pa_cons (pv 1) pa_nil)) pa_nil))) (nomark _)) (pw_and1 (pt_cmpR op_eq (pe_ix ix_tup (pv 0) (pv 2) (fun _ _ => rfl)) (pe_ix ix_tup (pv 1) (pv 2) (fun _ _ => rfl)) (nomark _)))))
        (pss_one (ps_aug (i := 2) sc_kept_pairs.nd rfl (Or.inl rfl) pe_int ip_add)))
      (pss_cons (ps_setLc (i := 3) (own := [("place", 7)]) (g := gName 7) (tt := tYes) rfl sc_kept_pairs.nd rfl rfl (sw_true rfl rfl rfl (by decide +kernel)) (pi_range1 (by rfl) T0.z_range (pa_cons (pv 2) pa_nil)) (blkOk_by (own := [("place", 7)]) (N := ["one", "two", "same", "found", "table", "first", "second", "place"]) (sc := defScope s_kept_pairs) (by decide +kernel)) (fun _ _ _ _ _ => (pg_name (i := 7) sc_kept_pairs.nd rfl (Or.inl rfl))) (fun _ _ _ _ _ => pts_nil) (fun _ _ _ _ _ => (pe_tup (pa_cons (pv 7) (pa_cons (pv 7) pa_nil)))))
      (pss_cons (ps_set (i := 4) sc_kept_pairs.nd rfl (Or.inl rfl) (pe_call GC hr rfl DC.m DC.F.kp DC.b .nil (pass_on rfl rfl (L2N.takes_of rfl rfl rfl rfl)) (pa_cons (pe_slice sl_tupA (pv 0) (po_some (pv 2)) po_none) (pa_cons (pe_slice sl_tupA (pv 1) (po_some (pv 2)) po_none) pa_nil))))
      (pss_cons (ps_asg (pe_tup (pa_cons pe_int (pa_cons pe_int pa_nil))) (pg_tup rfl (pgs_cons (pg_name (i := 5) sc_kept_pairs.nd rfl (Or.inl rfl)) (pgs_cons (pg_name (i := 6) sc_kept_pairs.nd rfl (Or.inl rfl)) pgs_nil))))
      (pss_cons (ps_while (passes_of rfl) (pt_truth (pe_ix ix_list (pe_ix ix_list (pv 4) (pv 5) (fun _ _ => rfl)) (pv 6) (fun _ _ => rfl)) (by intro _; rfl))
        (pss_cons (ps_asg (pe_call GN hr rfl DN.m DN.F.kp DN.b .nil pass0 (pa_cons (pe_slice sl_tupA (pv 0) (po_some (pv 2)) po_none) (pa_cons (pe_slice sl_tupA (pv 1) (po_some (pv 2)) po_none) (pa_cons (pv 4) (pa_cons (pe_tup (pa_cons (pv 5) (pa_cons (pv 6) pa_nil))) pa_nil))))) (pg_tup rfl (pgs_cons (pg_name (i := 5) sc_kept_pairs.nd rfl (Or.inl rfl)) (pgs_cons (pg_name (i := 6) sc_kept_pairs.nd rfl (Or.inl rfl)) pgs_nil))))
        (pss_cons (ps_expr (pe_bm PySem.F.plainAttrs_list PySem.F.slot_list_append PySem.F.type_list_append mt_append (pv 3) (pa_cons (pe_tup (pa_cons (pe_op op_add (pv 2) (pv 5)) (pa_cons (pe_op op_add (pv 2) (pv 6)) pa_nil))) pa_nil)))
        (pss_one (ps_par (i := 5) (j := 6) (by rfl) sc_kept_pairs.nd rfl rfl (by decide) rfl rfl (pa_cons (pe_op op_add (pv 5) pe_int) (pa_cons (pe_op op_add (pv 6) pe_int) pa_nil)) (by rfl))))))
      (pss_one (ps_ret (pe_callTy call_tuple_of (by rfl) T0.z_tuple (by decide +kernel) (pa_cons (pv 3) pa_nil)))))))))), ?_⟩
    refine seq_c ?_
    refine cut (fun σ H' => ∃ (q : Nat), σ = [some (.ref a), some (.ref b), some (.int (q : Int)), none, none, none, none, none] ∧
        H' = H ∧ q ≤ one.length ∧ q ≤ two.length ∧ (∀ q', q' < q → one[q']? = two[q']?) ∧ (q = one.length ∨ q = two.length ∨ one[q]? ≠ two[q]?)) (fun nx hn => ?_) ?_
    · refine ⟨fun m σ H' => ∃ (q : Nat), m = one.length - q ∧ σ = [some (.ref a), some (.ref b), some (.int (q : Int)), none, none, none, none, none] ∧
        H' = H ∧ q ≤ one.length ∧ q ≤ two.length ∧ ∀ q', q' < q → one[q']? = two[q']?, ⟨_, 0, rfl, rfl, rfl, Nat.zero_le _, Nat.zero_le _, fun q' h => by omega⟩, ?_⟩
      rintro m σ H2 ⟨q, rfl, rfl, rfl, h1, h2, hpre⟩
      have emin : (if (((two.map V.str).length : Nat) : Int) < (((one.map V.str).length : Nat) : Int) then (((two.map V.str).length : Nat) : Int) else (((one.map V.str).length : Nat) : Int)) = ((min one.length two.length : Nat) : Int) := by
        rw [List.length_map, List.length_map]; split <;> omega
      refine ⟨_, rfl, _, rfl, a, _, rfl, .inr hA, _, rfl, b, _, rfl, .inr hB, _, _, rfl, _, _, rfl, rfl, _, rfl, ?_⟩
      rw [emin]
      dsimp only
      refine ite2 (fun e => ?_) (fun e => ?_)
      · have e1 := of_decide_eq_true e
        have l1 : q < one.length := by omega
        have l2 : q < two.length := by omega
        have n1 : one[q]? = some one[q] := List.getElem?_eq_getElem l1
        have n2 : two[q]? = some two[q] := List.getElem?_eq_getElem l2
        have m1 : (one.map V.str)[q]? = some (V.str one[q]) := by rw [List.getElem?_map, n1]; rfl
        have m2 : (two.map V.str)[q]? = some (V.str two[q]) := by rw [List.getElem?_map, n2]; rfl
        refine ⟨_, rfl, _, rfl, a, _, _, _, rfl, rfl, hA, atI_nat m1, _, rfl, _, rfl, b, _, _, _, rfl, rfl, hB, atI_nat m2, rfl, _, rfl, ?_⟩
        refine ite2 (fun e => ?_) (fun e => ?_)
        · have e2 : one[q] = two[q] := V.str.inj (of_decide_eq_true e)
          refine ⟨fun σ' H' => ∃ m', m' < one.length - q ∧ ∃ (q : Nat), m' = one.length - q ∧ σ' = [some (.ref a), some (.ref b), some (.int (q : Int)), none, none, none, none, none] ∧
            H' = H2 ∧ q ≤ one.length ∧ q ≤ two.length ∧ ∀ q', q' < q → one[q']? = two[q']?, fun _ _ h => h, ?_⟩
          refine ⟨_, rfl, _, _, rfl, rfl, _, by omega, q + 1, rfl, rfl, rfl, l1, l2, fun q' hq' => ?_⟩
          by_cases z : q' < q
          · exact hpre q' z
          · have : q' = q := by omega
            rw [this, n1, n2, e2]
        · refine hn _ _ ⟨q, rfl, rfl, h1, h2, hpre, .inr (.inr fun z => e (decide_eq_true ?_))⟩
          rw [n1, n2] at z
          rw [Option.some.inj z]
      · have e1 : ¬ (q : Int) < ((min one.length two.length : Nat) : Int) := fun z => e (decide_eq_true z)
        refine hn _ _ ⟨q, rfl, rfl, h1, h2, hpre, ?_⟩
        omega
    · rintro σ H2 ⟨s', rfl, rfl, hs1, hs2, hpre, hend⟩
      refine ⟨_, rfl, _, rfl, by omega, by omega, fun fo hfo => ?_⟩
      refine lc_range (lo := 0) (n := ((s' : Nat) : Int).toNat) (fun i H' => ∃ ws, H' fo = some (.lst ws) ∧ DpAll K H' ws ((diag i).map pairD) ∧ Same H2 H') ⟨[], upd_same, .nil, same_new hfo⟩ ?_ ?_
      · rintro i H3 hi ⟨ws, hw, hd, s3⟩
        refine ⟨rfl, _, rfl, _, rfl, by show 2 ≤ sizeLine; decide, fun p hp => ?_⟩
        have hw4 : upd H3 p (.tup [.int (0 + (i : Nat)), .int (0 + (i : Nat))]) fo = some (.lst ws) := by rw [upd_ne (ne_of_none hw hp)]; exact hw
        have lw : ws.length < 2000 := by
          have := dpAll_len hd
          unfold diag at this
          simp at this
          have : ((s' : Nat) : Int).toNat = s' := rfl
          omega
        refine ⟨ws, hw4, Nat.lt_of_lt_of_le lw (by decide), ws ++ [.ref p], upd_same, ?_, ?_⟩
        · have tk : TK K H3 (upd (upd H3 p (.tup [.int (0 + (i : Nat)), .int (0 + (i : Nat))])) fo (.lst (ws ++ [.ref p]))) := (TK.new hp).trans (TK.lst hw4)
          have ed : diag (i + 1) = diag i ++ [(i, i)] := by
            unfold diag
            rw [List.range_succ, List.map_append]; rfl
          rw [ed, List.map_append]
          refine dpAll_app (pairs_keep tk hd) (dpAll_one (dp_pair ?_))
          refine TK.lst hw4 _ _ (.inl (.inl ?_))
          rw [upd_same, Int.zero_add]
        · exact same_mut (s3.trans (same_new hp)) hfo
      · rintro H3 ⟨ws, hw, hd, s3⟩
        have es : ((s' : Nat) : Int).toNat = s' := rfl
        rw [es] at hd
        dsimp only [gName]
        refine ⟨_, rfl, _, rfl, _, rfl, ?_⟩
        dsimp only [tNoPart]
        refine sl_linesFrom (s3.seqT hA) fun H4 p1 s34 hp1 => ?_
        refine ⟨_, rfl, _, rfl, _, rfl, ?_⟩
        dsimp only [tNoPart]
        refine sl_linesFrom ((s3.trans s34).seqT hB) fun H5 p2 s45 hp2 => ?_
        have s25 := s3.trans (s34.trans s45)
        refine ⟨p1, p2, _, _, rfl, s45.seqT hp1, hp2, ?_, ?_, fun z => ?_, fun hle H6 t s56 tab => ?_⟩
        · rw [List.length_drop]; omega
        · rw [List.length_drop]; omega
        · rw [List.length_drop, List.length_drop] at z
          exact kE s' hs1 hs2 hend hpre z _ s25
        · rw [List.length_drop, List.length_drop] at hle
          have k := k ⟨s', hs1, hs2, hend, hpre, hle⟩
          have htab : ∀ H7, Sv fo H6 H7 → TabAt H5 H7 t (one.drop s') (two.drop s') := fun H7 q => tab.sv ((s34.trans s45) _ _ hw) q
          have s26 := s25.trans s56
          have hw6 : H6 fo = some (.lst ws) := (s34.trans (s45.trans s56)) _ _ hw
          have d6 : DpAll K H6 ws ((diag s').map pairD) := pairs_keep (TK.same (s34.trans (s45.trans s56))) hd
          refine ⟨by show 2 ≤ sizeLine; decide, fun pz hpz => ?_⟩
          refine ⟨pz, _, rfl, .inl (.inl upd_same), rfl, _, _, rfl, _, _, rfl, rfl, ?_⟩
          obtain ⟨H7, e7⟩ : ∃ H7, H7 = upd H6 pz (.tup [.int 0, .int 0]) := ⟨_, rfl⟩
          rw [← e7]
          have s67 : Same H6 H7 := by rw [e7]; exact same_new hpz
          refine ⟨fun m σ H' => ∃ (i j : Nat) (vs : List V) (dn : List (Nat × Nat)), m = one.length - i ∧ σ = [some (.ref a), some (.ref b), some (.int (s' : Int)), some (.ref fo), some (.ref t), some (.int (i : Int)), some (.int (j : Int)), none] ∧
            Sv fo H6 H' ∧ Same H2 H' ∧ H' fo = some (.lst vs) ∧ DpAll K H' vs (dn.map pairD) ∧ dn ++ (PR (one.drop s') (two.drop s') i j).map (shf s') = pairs one two ∧ i ≤ one.length - s' ∧ j ≤ two.length - s',
            ⟨_, 0, 0, ws, diag s', rfl, rfl, Sv.same s67, s26.trans s67, s67 _ _ hw6, pairs_keep (TK.same s67) d6, (pairs_eq hs1 hs2 hpre).symm, Nat.zero_le _, Nat.zero_le _⟩, ?_⟩
          rintro m σ H8 ⟨i, j, vs, dn, rfl, rfl, sv, s28, hv, hdd, hp, hi, hj⟩
          have tab8 := (htab _ sv).ok
          have li : i ≤ (one.drop s').length := by rw [List.length_drop]; exact hi
          have lj : j ≤ (two.drop s').length := by rw [List.length_drop]; exact hj
          obtain ⟨as, r, row, hT, hr1, hr2, hr3⟩ := tab8.get li lj
          refine ⟨_, rfl, _, rfl, t, as, (i : Int), _, rfl, rfl, SqL.of hT, atI_nat hr1, _, rfl, r, row, (j : Int), _, rfl, rfl, SqL.of hr2, atI_nat hr3, ?_⟩
          refine ⟨_, rfl, ?_⟩
          dsimp only
          have tpos : ((T (one.drop s') (two.drop s') i j : Int) != 0) = true → 0 < T (one.drop s') (two.drop s') i j := fun z => by
            have : (T (one.drop s') (two.drop s') i j : Int) ≠ 0 := bne_iff_ne.mp z
            omega
          refine ite2 (fun e => ?_) (fun e => ?_)
          · have hpos := tpos e
            refine ⟨fun σ' H' => ∃ m', m' < one.length - i ∧ ∃ (i j : Nat) (vs : List V) (dn : List (Nat × Nat)), m' = one.length - i ∧ σ' = [some (.ref a), some (.ref b), some (.int (s' : Int)), some (.ref fo), some (.ref t), some (.int (i : Int)), some (.int (j : Int)), none] ∧
              Sv fo H6 H' ∧ Same H2 H' ∧ H' fo = some (.lst vs) ∧ DpAll K H' vs (dn.map pairD) ∧ dn ++ (PR (one.drop s') (two.drop s') i j).map (shf s') = pairs one two ∧ i ≤ one.length - s' ∧ j ≤ two.length - s', fun _ _ h => h, ?_⟩
            refine ⟨_, rfl, _, rfl, _, rfl, ?_⟩
            dsimp only [tNoPart]
            refine sl_linesFrom (s28.seqT hA) fun H9 p3 s89 hp3 => ?_
            refine ⟨_, rfl, _, rfl, _, rfl, ?_⟩
            dsimp only [tNoPart]
            refine sl_linesFrom ((s28.trans s89).seqT hB) fun H10 p4 s90 hp4 => ?_
            refine ⟨_, rfl, _, rfl, _, rfl, by show 2 ≤ sizeLine; decide, fun p5 hp5 => ?_⟩
            have sn := same_new (o := .tup [.int (i : Int), .int (j : Int)]) hp5
            have sv11 : Sv fo H6 (upd H10 p5 (.tup [.int (i : Int), .int (j : Int)])) := sv.trans (Sv.same (s89.trans (s90.trans sn)))
            refine ⟨p3, p4, t, p5, _, _, i, j, rfl, (s90.trans sn).seqT hp3, sn.seqT hp4, (htab _ sv11).ok, .inl (.inl upd_same), hpos, ?_, ?_, fun H12 p6 i' k' s12 hp6 ePR li' lk' => ?_⟩
            · rw [List.length_drop]; omega
            · rw [List.length_drop]; omega
            rw [List.length_drop] at li' lk'
            have s8c : Same H8 H12 := s89.trans (s90.trans (sn.trans s12))
            have hii : i ≤ i' := by
              have q := PR_row (one := one.drop s') (two := two.drop s') _ i j rfl
              rw [ePR] at q
              exact q.1
            refine ⟨p6, _, rfl, hp6, rfl, _, _, rfl, _, _, rfl, rfl, ?_⟩
            have hv12 : H12 fo = some (.lst vs) := s8c _ _ hv
            have hd12 := pairs_keep (TK.same s8c) hdd
            refine ⟨_, rfl, .inl ⟨rfl, _, SqL.of hv12⟩, _, rfl, _, rfl, _, _, rfl, rfl, _, rfl, _, rfl, _, _, rfl, rfl, by show 2 ≤ sizeLine; decide, fun p7 hp7 => ?_⟩
            obtain ⟨H13, e13⟩ : ∃ H13, H13 = upd H12 p7 (.tup [.int ((s' : Int) + (i' : Int)), .int ((s' : Int) + (k' : Int))]) := ⟨_, rfl⟩
            dsimp only
            rw [← e13]
            have s1213 : Same H12 H13 := by rw [e13]; exact same_new hp7
            have hp13 : H13 p7 = some (.tup [.int ((shf s' (i', k')).1 : Int), .int ((shf s' (i', k')).2 : Int)]) := by
              rw [e13, upd_same]
              unfold shf
              simp
            have hv13 : H13 fo = some (.lst vs) := s1213 _ _ hv12
            have lvs : vs.length < 2000 := by
              have q1 := dpAll_len hdd
              have q2 := congrArg List.length hp
              have q3 : T one two 0 0 ≤ one.length := lcs_le1 _ _
              rw [List.length_append, pairs_len] at q2
              rw [List.length_map] at q1
              omega
            refine ⟨fo, vs, _, rfl, rfl, hv13, Nat.lt_of_lt_of_le lvs (by decide), ?_⟩
            have tk : TK K H8 (upd H13 fo (.lst (vs ++ [.ref p7]))) := (TK.same (s8c.trans s1213)).trans (TK.lst hv13)
            refine ⟨_, rfl, _, _, rfl, rfl, _, rfl, _, _, rfl, rfl, _, _, rfl, _, ?_, i' + 1, k' + 1, vs ++ [.ref p7], dn ++ [shf s' (i', k')], rfl, rfl, ?_, ?_, upd_same, ?_, ?_, by omega, by omega⟩
            · omega
            · exact (sv.trans (Sv.same (s8c.trans s1213))).trans Sv.at_
            · exact same_mut (s28.trans (s8c.trans s1213)) hfo
            · rw [List.map_append]
              refine dpAll_app (pairs_keep tk hdd) (dpAll_one (dp_pair ?_))
              exact TK.lst hv13 _ _ (.inl (.inl hp13))
            · rw [List.append_assoc, ← hp, ePR]; rfl
          · have z : T (one.drop s') (two.drop s') i j = 0 := by
              rcases Nat.eq_zero_or_pos (T (one.drop s') (two.drop s') i j) with z | z
              · exact z
              · exact absurd (bne_iff_ne.mpr (by omega)) e
            rw [PR_zero z] at hp
            have hp : dn = pairs one two := by rw [← hp]; exact (List.append_nil dn).symm
            refine ⟨_, rfl, fo, _, rfl, .inl ⟨SqL.of hv, fun l hl2 => ?_⟩⟩
            refine k _ _ (s28.trans (same_new hl2)) ?_
            refine .tup (.inl (.inl upd_same)) ?_
            rw [← hp]
            exact pairs_keep (TK.new hl2) hdd
end
end VK
end

section
set_option Elab.async false
set_option linter.all false
set_option pp.maxSteps 1500
set_option maxRecDepth 100000
set_option maxHeartbeats 4000000
namespace VK
open PySem L2
abbrev s_hunks_of : Stmt := topS 11
theorem sc_hunks_of : FnScope ["one", "two", "found", "first", "second", "here", "there"] ["one", "two"] (defScope s_hunks_of) := ⟨rfl, rfl, rfl, by decide +kernel, rfl, by decide +kernel, by decide +kernel⟩
def spHunksOf (K : PySem.W.Frag) : Sp := fun vs H Q _ => ∃ (a b : Addr) (one two : List Str), vs = [.ref a, .ref b] ∧ SqT K H a (one.map V.str) ∧ SqT K H b (two.map V.str) ∧ one.length ≤ 1000 ∧ two.length ≤ 1000 ∧ one.length * two.length ≤ 40000 ∧
  ∀ (H' : Hp) (v : V), Same H H' → Dp K H' v (hunksD (hunksL one two)) → Q v H'
section
variable {P : Program} {w : World} {K : PySem.W.Frag} {mg : Str → Option Value} {base : Heap}
theorem ok_hunks {f fC fN fP C : Addr} {fd fdC fdN fdP : FuncData} (F : Fun K "hunks_of" "hunks_of" s_hunks_of f fd) (T0 : Txt0 mg) (L : TL K mg C) {tM : Tok} (hc : mg "MOST_PLACES" = some (.int 40000 tM)) (DC : Df K mg "common_table" s_common_table ["one", "two"] fC fdC) (DN : Df K mg "next_pair" s_next_pair ["one", "two", "table", "place"] fN fdN) (DP : Df K mg "kept_pairs" s_kept_pairs ["one", "two"] fP fdP) : FnOk P w K mg base CX0 3 f fd ["one", "two"] (spHunksOf K) := by
  have GP : FnOk P w K mg base (L2N.CX P w) 2 fP fdP ["one", "two"] (spKept K C) := ok_kept DP.F T0 L hc DC DN
  refine F.ok sc_hunks_of (fun vs H Q E h => ?_) (fun cdv A outer s H vs Q E hr h => ?_)
  · obtain ⟨a, b, one, two, rfl, _⟩ := h
    rfl
  · obtain ⟨a, b, one, two, rfl, hA, hB, ha, hb, hm, k⟩ := h
    refine ⟨_, (pss_cons (ps_par3 (i := 2) (j := 3) (l := 4) (by rfl) sc_hunks_of.nd rfl rfl rfl (by decide) (by decide) (by decide) rfl rfl rfl (pa_cons (pe_lst pa_nil) (pa_cons pe_int (pa_cons pe_int pa_nil))) (by rfl))
      (pss_cons (ps_for PassesOwn.never rfl (pi_tup (pe_op op_catA (pe_call GP hr rfl DP.m DP.F.kp DP.b .nil (pass_no) (pa_cons (pv 0) (pa_cons (pv 1) pa_nil))) (pe_tup (pa_cons (pe_tup (pa_cons (pe_callB call_len_seq (by rfl) T0.z_len PySem.boot_len (pa_cons (pv 0) pa_nil)) (pa_cons (pe_callB call_len_seq (by rfl) T0.z_len PySem.boot_len (pa_cons (pv 1) pa_nil)) pa_nil))) pa_nil)))) (pg_tup rfl (pgs_cons (pg_name (i := 5) sc_hunks_of.nd rfl (Or.inl rfl)) (pgs_cons (pg_name (i := 6) sc_hunks_of.nd rfl (Or.inl rfl)) pgs_nil)))
        (pss_cons (ps_if (PW.pt (pw_or (pt_cmpR op_gt (pv 5) (pv 3) (nomark _)) (pw_or1 (pt_cmpR op_gt (pv 6) (pv 4) (nomark _)))))
          (pss_one (ps_expr (pe_bm PySem.F.plainAttrs_list PySem.F.slot_list_append PySem.F.type_list_append mt_append (pv 2) (pa_cons (pe_tup (pa_cons (pv 3) (pa_cons (pe_callTy call_tupleT (by rfl) T0.z_tuple (by decide +kernel) (pa_cons (pe_slice sl_tupA (pv 0) (po_some (pv 3)) (po_some (pv 5))) pa_nil)) (pa_cons (pe_callTy call_tupleT (by rfl) T0.z_tuple (by decide +kernel) (pa_cons (pe_slice sl_tupA (pv 1) (po_some (pv 4)) (po_some (pv 6))) pa_nil)) pa_nil)))) pa_nil))))
          pss_nil)
        (pss_one (ps_par (i := 3) (j := 4) (by rfl) sc_hunks_of.nd rfl rfl (by decide) rfl rfl (pa_cons (pe_op op_add (pv 5) pe_int) (pa_cons (pe_op op_add (pv 6) pe_int) pa_nil)) (by rfl)))))
      (pss_one (ps_ret (pe_callTy call_tuple_of (by rfl) T0.z_tuple (by decide +kernel) (pa_cons (pv 2) pa_nil)))))), ?_⟩
    refine ⟨by show 0 ≤ sizeLine; decide, fun fo hfo => ?_⟩
    refine ⟨_, _, _, rfl, ?_⟩
    have s0 : Same H (upd H fo (.lst [])) := same_new hfo
    refine ⟨_, rfl, _, rfl, a, b, one, two, rfl, s0.seqT hA, s0.seqT hB, ha, hb, fun z h1 h2 _ _ hz => ?_, fun _ H1 v s1 dv => ?_⟩
    · exfalso
      have := Nat.mul_le_mul (Nat.sub_le one.length z) (Nat.sub_le two.length z)
      omega
    obtain ⟨lp, ws, rfl, hlp1, hd⟩ := of_tupD dv
    have s01 := s0.trans s1
    refine ⟨_, rfl, a, _, rfl, .inr (s01.seqT hA), _, rfl, b, _, rfl, .inr (s01.seqT hB), by show 2 ≤ sizeLine; decide, fun pp hpp => ⟨by show 1 ≤ sizeLine; decide, fun lq hlq => ?_⟩⟩
    obtain ⟨H2, e2⟩ : ∃ H2, H2 = upd H1 pp (.tup [.int ((one.map V.str).length : Int), .int ((two.map V.str).length : Int)]) := ⟨_, rfl⟩
    rw [← e2] at hlq ⊢
    have s12 : Same H1 H2 := by rw [e2]; exact same_new hpp
    have hpp2 : H2 pp = some (.tup [.int (one.length : Int), .int (two.length : Int)]) := by rw [e2, upd_same, List.length_map, List.length_map]
    obtain ⟨H3, e3⟩ : ∃ H3, H3 = upd H2 lq (.tup [.ref pp]) := ⟨_, rfl⟩
    rw [← e3]
    have s23 : Same H2 H3 := by rw [e3]; exact same_new hlq
    have s13 := s12.trans s23
    have lws : ws.length ≤ 1000 := by
      have q1 := dpAll_len hd
      have q3 : T one two 0 0 ≤ one.length := lcs_le1 _ _
      rw [List.length_map, pairs_len] at q1
      omega
    refine cat_tupK (s13.seqT hlp1) (ys := [.ref pp]) (.inl (.inl (by rw [e3, upd_same]))) (Nat.le_trans (show ws.length + 1 ≤ 2000 by omega) (by decide)) fun H4 L s34 hL4 => ?_
    obtain ⟨full, hfull⟩ : ∃ full, full = pairs one two ++ [(one.length, two.length)] := ⟨_, rfl⟩
    have d4 : DpAll K H4 (ws ++ [.ref pp]) (full.map pairD) := by
      rw [hfull, List.map_append]
      refine dpAll_app (pairs_keep (TK.same (s13.trans s34)) hd) (dpAll_one (dp_pair ?_))
      exact (s23.trans s34).seqT (.inl (.inl hpp2))
    have hfo1 : H1 fo = some (.lst []) := s1 _ _ upd_same
    have hfo4 : H4 fo = some (.lst []) := (s13.trans s34) _ _ hfo1
    have s4 : Same H H4 := s01.trans (s13.trans s34)
    have ln : (ws ++ [V.ref pp]).length = full.length := by rw [dpAll_len d4, List.length_map]
    have lf : full.length ≤ 1001 := by rw [← ln, List.length_append]; simp; omega
    refine ⟨L, rfl, ⟨_, hL4⟩, ?_⟩
    refine for_it (walk_tup (xs := ws ++ [.ref pp])) (fun c σ H' => ∃ (i j : Nat) (vs : List V) (dn : List Hunk) (x5 x6 : Option V), σ = [some (.ref a), some (.ref b), some (.ref fo), some (.int (i : Int)), some (.int (j : Int)), x5, x6] ∧ Same H H' ∧ TK K H4 H' ∧
        H' fo = some (.lst vs) ∧ DpAll K H' vs (dn.map hunkD) ∧ dn ++ hunksF one two i j (full.drop c) = hunksL one two ∧ dn.length ≤ c) ?_ (fun c σ H' _ h => ?_) ?_ ?_
    · exact ⟨0, 0, [], [], none, none, rfl, s4, TK.refl _ _, hfo4, .nil, by rw [hfull]; rfl, Nat.le_refl _⟩
    · obtain ⟨i, j, vs, dn, x5, x6, rfl, h1, h2, h3, h4⟩ := h
      exact h2 _ _ hL4
    · rintro c x σ H5o H5 hc ⟨i, j, vs, dn, x5, x6, rfl, sm, tk, hv, hdd, hp, hl⟩ ⟨rfl, hx⟩
      have hcf : c < full.length := by rw [← ln]; exact hc
      obtain ⟨⟨h, t⟩, ht⟩ : ∃ q, q = full[c] := ⟨_, rfl⟩
      have hf : full[c]? = some (h, t) := by rw [List.getElem?_eq_getElem hcf, ht]
      obtain ⟨v, hv1, hv2⟩ := dpAll_at (pairs_keep tk d4) (k := c) (d := pairD (h, t)) (by rw [List.getElem?_map, hf]; rfl)
      obtain rfl : v = x := Option.some.inj (hv1.symm.trans hx)
      obtain ⟨q, rfl, hq⟩ := of_pair hv2
      have ed : full.drop c = (h, t) :: full.drop (c + 1) := by rw [List.drop_eq_getElem_cons hcf, ← ht]
      rw [ed, hunksF] at hp
      refine ⟨q, _, rfl, hq, rfl, ?_⟩
      have fin : ∀ (vs' : List V) (dn' : List Hunk) (H' : Hp), Same H H' → TK K H4 H' → H' fo = some (.lst vs') → DpAll K H' vs' (dn'.map hunkD) → dn' ++ hunksF one two (h + 1) (t + 1) (full.drop (c + 1)) = hunksL one two → dn'.length ≤ c + 1 →
          ∃ (i j : Nat) (vs : List V) (dn : List Hunk) (x5 x6 : Option V), [some (.ref a), some (.ref b), some (.ref fo), some (V.int ((h : Int) + 1)), some (V.int ((t : Int) + 1)), some (V.int (h : Int)), some (V.int (t : Int))] = [some (.ref a), some (.ref b), some (.ref fo), some (.int (i : Int)), some (.int (j : Int)), x5, x6] ∧ Same H H' ∧ TK K H4 H' ∧
        H' fo = some (.lst vs) ∧ DpAll K H' vs (dn.map hunkD) ∧ dn ++ hunksF one two i j (full.drop (c + 1)) = hunksL one two ∧ dn.length ≤ c + 1 := fun vs' dn' H' p1 p2 p4 p5 p6 p7 => ⟨h + 1, t + 1, vs', dn', _, _, rfl, p1, p2, p4, p5, p6, p7⟩
      refine ⟨_, _, rfl, _, _, rfl, rfl, ?_⟩
      refine cut (fun σ' H' => σ' = [some (.ref a), some (.ref b), some (.ref fo), some (V.int (i : Int)), some (V.int (j : Int)), some (V.int (h : Int)), some (V.int (t : Int))] ∧ ∃ (vs' : List V) (dn' : List Hunk), Same H H' ∧ TK K H4 H' ∧ H' fo = some (.lst vs') ∧ DpAll K H' vs' (dn'.map hunkD) ∧ dn' ++ hunksF one two (h + 1) (t + 1) (full.drop (c + 1)) = hunksL one two ∧ dn'.length ≤ c + 1) (fun nx hn => ?_) ?_
      · refine tOr_pure (fun Q h => ⟨_, rfl, _, rfl, _, _, rfl, rfl, _, rfl, h⟩) (fun Q h => ⟨_, rfl, _, rfl, _, _, rfl, rfl, _, rfl, h⟩) ?_
        refine ite2 (fun e => ?_) (fun e => ?_)
        · have hc2 : i < h ∨ j < t := by
            rw [Bool.or_eq_true, decide_eq_true_eq, decide_eq_true_eq] at e
            omega
          rw [if_pos hc2] at hp
          refine ⟨_, rfl, .inl ⟨rfl, _, SqL.of hv⟩, _, rfl, _, rfl, _, rfl, _, rfl, _, rfl, _, rfl, sl_lines (sm.seqT hA) fun H6 p s56 hp6 => ?_⟩
          refine ⟨p, _, rfl, hp6, _, rfl, _, rfl, _, rfl, _, rfl, _, rfl, sl_lines ((sm.trans s56).seqT hB) fun H7 r s67 hr7 => ?_⟩
          refine ⟨r, _, rfl, hr7, by show 3 ≤ sizeLine; decide, fun z hz => ?_⟩
          have s57 := s56.trans s67
          have hv7 : H7 fo = some (.lst vs) := s57 _ _ hv
          have nfz : fo ≠ z := ne_of_none hv7 hz
          have hv8 : upd H7 z (.tup [.int (i : Int), .ref p, .ref r]) fo = some (.lst vs) := by rw [upd_ne nfz]; exact hv7
          have lvs : vs.length < 2000 := by
            have q1 := dpAll_len hdd
            rw [List.length_map] at q1
            omega
          refine ⟨fo, vs, _, rfl, rfl, hv8, Nat.lt_of_lt_of_le lvs (by decide), ?_⟩
          have tk8 : TK K H5 (upd (upd H7 z (.tup [.int (i : Int), .ref p, .ref r])) fo (.lst (vs ++ [.ref z]))) := ((TK.same s57).trans (TK.new hz)).trans (TK.lst hv8)
          refine hn _ _ ⟨rfl, vs ++ [.ref z], dn ++ [⟨i, cutL one i h, cutL two j t⟩], ?_, tk.trans tk8, upd_same, ?_, ?_, ?_⟩
          · exact same_mut ((sm.trans s57).trans (same_new hz)) hfo
          · rw [List.map_append]
            refine dpAll_app (hunks_keep tk8 hdd) (dpAll_one (dp_hunk (b := p) (c := r) ?_ ?_ ?_))
            · exact TK.lst hv8 _ _ (.inl (.inl upd_same))
            · exact ((TK.new hz).trans (TK.lst hv8)) _ _ (s67.seqT hp6)
            · exact ((TK.new hz).trans (TK.lst hv8)) _ _ hr7
          · rw [List.append_assoc]; exact hp
          · rw [List.length_append]; exact Nat.succ_le_succ hl
        · have hc2 : ¬ (i < h ∨ j < t) := by
            intro q
            apply e
            rw [Bool.or_eq_true, decide_eq_true_eq, decide_eq_true_eq]
            omega
          rw [if_neg hc2] at hp
          exact hn _ _ ⟨rfl, vs, dn, sm, tk, hv, hdd, hp, Nat.le_succ_of_le hl⟩
      · rintro σ6 H6 ⟨rfl, vs', dn', p1, p2, p4, p5, p6, p7⟩
        exact ⟨_, rfl, _, _, rfl, rfl, _, rfl, _, _, rfl, rfl, _, _, rfl, fin _ _ _ p1 p2 p4 p5 p6 p7⟩
    · rintro σ H5 ⟨i, j, vs, dn, x5, x6, rfl, sm, tk, hv, hdd, hp, hl⟩
      rw [ln, List.drop_length] at hp
      have hp : dn = hunksL one two := by rw [← hp]; exact (List.append_nil dn).symm
      refine ⟨_, rfl, fo, _, rfl, .inl ⟨SqL.of hv, fun l hl2 => ?_⟩⟩
      refine k _ _ (sm.trans (same_new hl2)) ?_
      refine .tup (.inl (.inl upd_same)) ?_
      rw [← hp]
      exact hunks_keep (TK.new hl2) hdd
end
end VK
end

section
set_option Elab.async false
set_option linter.all false
set_option pp.maxSteps 1500
set_option maxRecDepth 100000
set_option maxHeartbeats 4000000
/-! enumerate(text), after HandS.Iter's enumerate(list) -/
namespace VK
open PySem PySem.Spec PyProof.Rows L2
/-- the signs of a text, each in a new pair -/
def Ites (x : Str) : It :=
  ⟨fun i _ => i < x.cps.size, fun i H v H' => ∃ T c, v = .ref T ∧ H T = none ∧ H' = upd H T (.tup [.int (i : Nat), .str ⟨#[c]⟩]) ∧ x.cps[i]? = some c, fun i _ => x.cps.size ≤ i⟩
theorem turn_enumS {P : Program} {w : World} {K : PySem.W.Frag} {elts : List Expr} {kk : Nat} {tpos : Pos} (x : Str) (t : Tok) (e it : Addr) :
    Turn P w K (.Tuple elts kk tpos) (Ites x) [e, it] e (fun i h => (∃ old, IsEnum h e it ((i : Nat) : Int) old) ∧ h.IsStrIter it (strIterType x) x t i ∧ e ≠ it ∧ i ≤ x.cps.size) where
  mem := by simp
  obj := fun i h st b hb => by
    obtain ⟨⟨old, he⟩, ⟨o, ho, hc, hd⟩, _⟩ := st
    have e' : b = e ∨ b = it := by simpa using hb
    rcases e' with z | z
    · rw [z]; exact ⟨_, he, fun v q => nomatch q⟩
    · rw [z]; exact ⟨o, ho, fun v q => by rw [hd] at q; cases q⟩
  keep := fun i h h' st k => let ⟨⟨old, he⟩, ⟨o, ho, r⟩, hne⟩ := st; ⟨⟨old, k e (by simp) _ he⟩, ⟨o, k it (by simp) o ho, r⟩, hne⟩
  item := by
    intro X hP hw hK hc i pins s σ H E I hf st hg
    subst hP hw hK
    obtain ⟨⟨old, he⟩, hit, hne, hle⟩ := st
    have hlt : i < x.cps.size := hg
    have hel : e < s.heap.objs.size := Heap.lt_size he
    have hil : it < s.heap.objs.size := by obtain ⟨_, q, _⟩ := hit; exact Heap.lt_size q
    have hh : X.A.in1.handled = none := I.ok.hd hc
    refine wpAny_pyNext_enum_itemD (Draws.text hh it x t) he hit hg hne (fun z => hne (by simpa using z)) fun v h' tk hP ho hit' hT hsz hk => ?_
    obtain ⟨c, u, hcx, rfl⟩ := hP
    refine ⟨_, rfl, wpAny_letOwnedTupleGo_enum (s := { s with heap := h', toks := tk + 1 }) ho fun h'' he' sb => ?_⟩
    have hT2 : h''.get? s.heap.objs.size = some { cls := .type "tuple", data := .seq #[.int i tk, .str ⟨#[c]⟩ u] } := (sb.2 _ (Nat.ne_of_gt hel)).trans hT
    have new : ObjOk X.prog X.w (upd H s.heap.objs.size (.tup [.int (i : Nat), .str ⟨#[c]⟩])) h'' s.heap.objs.size (.tup [.int (i : Nat), .str ⟨#[c]⟩]) :=
      ⟨by show 2 ≤ sizeLine; decide, [.int i tk, .str ⟨#[c]⟩ u], .cons ⟨_, rfl⟩ (.cons ⟨_, rfl⟩ .nil), ⟨_, hT2, rfl, _, rfl⟩⟩
    have I1 : Inv X pins σ (upd H s.heap.objs.size (.tup [.int (i : Nat), .str ⟨#[c]⟩])) { s with heap := h'', toks := tk + 1 } :=
      I.turnedNew (ch := [e, it]) (fun b ob hb q => (sb.2 b (fun z => hb (by simp [z]))).trans (hk b ob (fun z => hb (by simp [z])) (fun z => hb (by simp [z])) q)) hf (Nat.le_refl _) new
    refine ⟨.ref s.heap.objs.size, _, I1, rfl, ⟨_, c, rfl, I.hok.fresh (Nat.le_refl _), rfl, hcx⟩, ⟨⟨.str ⟨#[c]⟩ u, ?_⟩, ?_, hne, hlt⟩, fun b hb => ?_⟩
    · have e1 : ((i + 1 : Nat) : Int) = (i : Int) + 1 := by omega
      rw [e1]; exact he'
    · obtain ⟨o, q, r⟩ := hit'
      exact ⟨o, (sb.2 it (Ne.symm hne)).trans q, r⟩
    · have hb' : b < s.heap.objs.size := by
        have e' : b = e ∨ b = it := by simpa using hb
        rcases e' with z | z
        · rw [z]; exact hel
        · rw [z]; exact hil
      rw [upd_ne (Nat.ne_of_lt hb')]
      exact (hf b hb).1
  done := by
    intro X hP hw hK hc i pins s σ H E I hf st hg
    subst hP hw hK
    obtain ⟨⟨old, he⟩, hit, hne, hle⟩ := st
    have hh : X.A.in1.handled = none := I.ok.hd hc
    obtain ⟨f0, f1, f2, f3, f4, f5⟩ := hf it (by simp)
    have hn : x.cps.size ≤ i := hg
    have hi : i = x.cps.size := Nat.le_antisymm hle hn
    rw [hi] at hit
    exact wpAny_pyNext_enum_endD (Draws.text hh it x t) he hit fun h' eb => ⟨rfl, I.turned (t' := s.toks) (fun b o hb q => eb b o hb q) f0 f1 f3 f4 f5⟩
  self := fun A i s Q E st h => let ⟨⟨_, he⟩, _⟩ := st; wpAny_pyIter_enum he h
def iEnumS (ta : TA) : TI := fun σ H R => ta σ H fun vs H1 => ∃ x, vs = [.str x] ∧ R (Ites x) H1
theorem pi_enumS {X : Cx} {e : Expr} {ta : TA} {p pos tpos : Pos} {elts : List Expr} {kk : Nat} (hg : Gl X "enumerate") (hm : X.mg "enumerate" = none) (ha : PA X [e] ta) (hs : starEach [e] X.env = [(false, eval e X.env)] := by rfl) :
    PI X (.Tuple elts kk tpos) (.Call (.Name "enumerate" p) [e] [] pos) (iEnumS ta) := by
  refine ⟨fun pins s σ H R I h => ?_⟩
  refine Call_ (ld_blt I hg hm boot_enumerate (PyProof.Rows.callWith_type1 (thn (ha.run pos pins s σ H _ I h) fun us s1 ⟨vs, H1, I1, r1, q1⟩ => ?_) hs rfl))
  obtain ⟨x, ex, q⟩ := q1
  subst ex
  cases r1 with
  | cons r rr =>
    cases rr
    obtain ⟨t, rfl⟩ := r
    refine call_enumerate_str fun h' he hit hsz hk => wpAny_pyIter_enum he ?_
    have I2 : Inv X pins σ H1 { s1 with heap := h' } := I1.kept (t' := s1.toks) hk
    refine ⟨s1.heap.objs.size + 1, [s1.heap.objs.size + 1, s1.heap.objs.size], _, _, H1, rfl, I2, turn_enumS x t (s1.heap.objs.size + 1) s1.heap.objs.size, ⟨⟨.none, he⟩, hit, Nat.succ_ne_self _, Nat.zero_le _⟩, fun b hb => ?_, q⟩
    have e' : b = s1.heap.objs.size + 1 ∨ b = s1.heap.objs.size := by simpa using hb
    have hle : s1.heap.objs.size ≤ b := by
      rcases e' with z | z
      · rw [z]; exact Nat.le_add_right _ _
      · rw [z]; exact Nat.le_refl _
    exact I1.fpOk hle (I1.hok.fresh hle)
theorem walk_enumS {z : Str} : Walk (Ites z) z.cps.size (fun _ => True) (fun i H v H' => ∃ T c, v = .ref T ∧ H T = none ∧ H' = upd H T (.tup [.int (i : Nat), .str ⟨#[c]⟩]) ∧ z.cps[i]? = some c) :=
  ⟨fun _ _ hi _ => hi, fun _ _ => Nat.le_refl _, fun _ _ _ _ _ _ y => y⟩
end VK
end

section
set_option Elab.async false
set_option linter.all false
set_option pp.maxSteps 1500
set_option maxRecDepth 100000
set_option maxHeartbeats 4000000
namespace VK
open PySem L2
abbrev mkS (l : List Nat) : Str := ⟨l.toArray⟩
/-- the lines of signs: each ends behind its 10 -/
def linesN : List Nat → List Nat → List (List Nat)
  | cur, [] => if cur = [] then [] else [cur]
  | cur, c :: r => if c = 10 then (cur ++ [10]) :: linesN [] r else linesN (cur ++ [c]) r
theorem linesN_len : ∀ (r cur : List Nat), (linesN cur r).length ≤ r.length + 1
  | [], cur => by rw [linesN]; split <;> simp
  | c :: r, cur => by
    rw [linesN]
    split
    · have := linesN_len r []
      simp only [List.length_cons]; omega
    · have := linesN_len r (cur ++ [c])
      simp only [List.length_cons]; omega
theorem cutL_snoc {α : Type} {xs : List α} {s i : Nat} {x : α} (h : s ≤ i) (e : xs[i]? = some x) : cutL xs s (i + 1) = cutL xs s i ++ [x] := by
  rw [cutL_app xs h (Nat.le_succ i), cutL_one e]
theorem cutL_of {α : Type} (xs : List α) (i h : Nat) : (xs.drop (min i xs.length)).take (min h xs.length - min i xs.length) = cutL xs i h := by
  unfold cutL
  by_cases h1 : xs.length ≤ i
  · rw [Nat.min_eq_right h1, List.drop_eq_nil_of_le (Nat.le_refl _), List.drop_eq_nil_of_le h1]; simp
  · rw [Nat.min_eq_left (a := i) (by omega)]
    by_cases h2 : h ≤ xs.length
    · rw [Nat.min_eq_left h2]
    · rw [Nat.min_eq_right (a := h) (by omega), List.take_of_length_le (by rw [List.length_drop]; omega), List.take_of_length_le (by rw [List.length_drop]; omega)]
theorem cutS_nat (z : Str) (i h : Nat) : cutS z (some (i : Int)) (some (h : Int)) = mkS (cutL z.cps.toList i h) := by
  have e : z.length = z.cps.toList.length := (Array.length_toList).symm
  unfold cutS
  rw [HT.sIx_nat, HT.sIx_nat, e, cutL_of]
theorem cutS_from (z : Str) (i : Nat) : cutS z (some (i : Int)) none = mkS (cutL z.cps.toList i z.cps.toList.length) := by
  have e : z.length = z.cps.toList.length := (Array.length_toList).symm
  unfold cutS
  rw [HT.sIx_nat, HT.sIx_none, e]
  have := cutL_of z.cps.toList i z.cps.toList.length
  rw [Nat.min_self] at this
  rw [this]
abbrev s_lines_of : Stmt := topS 6
theorem sc_lines_of : FnScope ["text", "found", "start", "place", "sign"] ["text"] (defScope s_lines_of) := ⟨rfl, rfl, rfl, by decide +kernel, rfl, by decide +kernel, by decide +kernel⟩
def spLinesOf (K : PySem.W.Frag) : Sp := fun vs H Q _ => ∃ (z : Str), vs = [.str z] ∧ z.length ≤ 10000000 ∧
  ∀ (H' : Hp) (p : Addr), Same H H' → SqT K H' p (((linesN [] z.cps.toList).map mkS).map V.str) → Q (.ref p) H'
section
variable {P : Program} {w : World} {K : PySem.W.Frag} {mg : Str → Option Value} {base : Heap}
theorem ok_lines_of {f : Addr} {fd : FuncData} (F : Fun K "lines_of" "lines_of" s_lines_of f fd) (T0 : Txt0 mg) : FnOk P w K mg base CX0 1 f fd ["text"] (spLinesOf K) := by
  refine F.ok sc_lines_of (fun vs H Q E h => ?_) (fun cdv A outer s H vs Q E hr h => ?_)
  · obtain ⟨z, rfl, _⟩ := h
    rfl
  · obtain ⟨z, rfl, hz, k⟩ := h
    refine ⟨_, (pss_cons (ps_par (i := 1) (j := 2) (by rfl) sc_lines_of.nd rfl rfl (by decide) rfl rfl (pa_cons (pe_lst pa_nil) (pa_cons pe_int pa_nil)) (by rfl))
      (pss_cons (ps_for PassesOwn.never rfl (pi_enumS (by rfl) T0.z_enumerate (pa_cons (pv 0) pa_nil)) (pg_tup rfl (pgs_cons (pg_name (i := 3) sc_lines_of.nd rfl (Or.inl rfl)) (pgs_cons (pg_name (i := 4) sc_lines_of.nd rfl (Or.inl rfl)) pgs_nil)))
        (pss_one (ps_if (pt_cmpR op_eq (pv 4) pe_str (nomark _))
          (pss_cons (ps_expr (pe_bm PySem.F.plainAttrs_list PySem.F.slot_list_append PySem.F.type_list_append mt_append (pv 1) (pa_cons (pe_slice sl_str (pv 0) (po_some (pv 2)) (po_some (pe_op op_add (pv 3) pe_int))) pa_nil)))
          (pss_one (ps_set (i := 2) sc_lines_of.nd rfl (Or.inl rfl) (pe_op op_add (pv 3) pe_int))))
          pss_nil)))
      (pss_cons (ps_if (pt_cmpR op_lt (pv 2) (pe_callB call_len_str (by rfl) T0.z_len PySem.boot_len (pa_cons (pv 0) pa_nil)) (nomark _))
        (pss_one (ps_expr (pe_bm PySem.F.plainAttrs_list PySem.F.slot_list_append PySem.F.type_list_append mt_append (pv 1) (pa_cons (pe_slice sl_str (pv 0) (po_some (pv 2)) po_none) pa_nil))))
        pss_nil)
      (pss_one (ps_ret (pe_callTy call_tuple_of (by rfl) T0.z_tuple (by decide +kernel) (pa_cons (pv 1) pa_nil))))))), ?_⟩
    refine ⟨by show 0 ≤ sizeLine; decide, fun fo hfo => ⟨_, _, rfl, ?_⟩⟩
    have s0 : Same H (upd H fo (.lst [])) := same_new hfo
    refine ⟨_, rfl, _, rfl, ?_⟩
    refine for_it walk_enumS (fun i σ H' => ∃ (s : Nat) (fs : List (List Nat)) (x3 x4 : Option V), σ = [some (.str z), some (.ref fo), some (.int (s : Int)), x3, x4] ∧ Same H H' ∧ H' fo = some (.lst ((fs.map mkS).map V.str)) ∧ s ≤ i ∧ fs.length ≤ i ∧ fs ++ linesN (cutL z.cps.toList s i) (z.cps.toList.drop i) = linesN [] z.cps.toList) ?_ (fun _ _ _ _ _ => trivial) ?_ ?_
    · refine ⟨0, [], none, none, rfl, s0, upd_same, Nat.le_refl _, Nat.le_refl _, ?_⟩
      rw [cutL_self]; rfl
    · rintro i x σ H5o H5 hi ⟨s, fs, x3, x4, rfl, sm, hv, hs, hl, hp⟩ ⟨T, c, rfl, hT, rfl, hc⟩
      have sT := same_new (o := .tup [.int (i : Nat), .str ⟨#[c]⟩]) hT
      refine ⟨T, _, rfl, .inl (.inl upd_same), rfl, _, _, rfl, _, _, rfl, rfl, ?_⟩
      have h0 : i < z.cps.toList.length := by rw [Array.length_toList]; exact hi
      have hc' : z.cps.toList[i]? = some c := by rw [Array.getElem?_toList]; exact hc
      have ed : z.cps.toList.drop i = c :: z.cps.toList.drop (i + 1) := by
        obtain ⟨q1, q2⟩ := List.getElem?_eq_some_iff.mp hc'
        rw [List.drop_eq_getElem_cons q1, q2]
      rw [ed, linesN, ← cutL_snoc hs hc'] at hp
      have hv2 := sT _ _ hv
      refine ⟨_, rfl, rfl, _, rfl, ?_⟩
      refine ite2 (fun e => ?_) (fun e => ?_)
      · have e' : c = 10 := by
          have := V.str.inj (of_decide_eq_true e)
          have h2 := congrArg (fun q : Str => q.cps.toList) this
          have h3 : [c] = [10] := h2
          exact (List.cons.inj h3).1
        subst e'
        rw [if_pos rfl, ← cutL_snoc hs hc'] at hp
        refine ⟨_, rfl, .inl ⟨rfl, _, SqL.of hv2⟩, _, rfl, _, rfl, _, rfl, _, rfl, _, _, rfl, rfl, _, rfl, z, rfl, Nat.le_trans hz (by decide), ?_⟩
        have e1 : ((i : Nat) : Int) + 1 = ((i + 1 : Nat) : Int) := by omega
        have lz : z.length = z.cps.toList.length := (Array.length_toList).symm
        refine ⟨fo, _, _, rfl, rfl, hv2, ?_, ?_⟩
        · rw [List.length_map, List.length_map]
          exact Nat.lt_of_lt_of_le (show fs.length < 10000010 by omega) (by decide)
        · refine ⟨_, rfl, _, _, rfl, rfl, i + 1, fs ++ [cutL z.cps.toList s (i + 1)], some (.int (i : Int)), some (.str ⟨#[10]⟩), ?_, ?_, ?_, Nat.le_refl _, ?_, ?_⟩
          · dsimp only
            rw [e1]; rfl
          · exact same_mut (sm.trans sT) hfo
          · rw [upd_same, e1, cutS_nat, List.map_append, List.map_append]; rfl
          · rw [List.length_append]; exact Nat.succ_le_succ hl
          · rw [← hp, cutL_self, List.append_assoc]; rfl
      · have e' : ¬ c = 10 := fun q => e (decide_eq_true (by rw [q]; rfl))
        rw [if_neg e'] at hp
        exact ⟨s, fs, _, _, rfl, sm.trans sT, hv2, by omega, by omega, hp⟩
    · rintro σ H5 ⟨s, fs, x3, x4, rfl, sm, hv, hs, hl, hp⟩
      have lz : z.length = z.cps.toList.length := (Array.length_toList).symm
      have lz2 : z.cps.size = z.cps.toList.length := lz
      rw [lz2] at hp hs hl
      rw [List.drop_length, linesN] at hp
      dsimp only
      refine cut (fun σ' H' => ∃ gs : List (List Nat), σ' = [some (.str z), some (.ref fo), some (.int (s : Int)), x3, x4] ∧ Same H H' ∧ H' fo = some (.lst ((gs.map mkS).map V.str)) ∧ gs = linesN [] z.cps.toList) (fun nx hn => ?_) ?_
      · refine ⟨_, rfl, _, rfl, z, rfl, Nat.le_trans hz (by decide), _, _, rfl, rfl, _, rfl, ?_⟩
        refine ite2 (fun e => ?_) (fun e => ?_)
        · have e' : (s : Int) < (z.length : Int) := of_decide_eq_true e
          refine ⟨_, rfl, .inl ⟨rfl, _, SqL.of hv⟩, _, rfl, _, rfl, _, rfl, ?_⟩
          dsimp only [tNoPart]
          refine ⟨z, rfl, Nat.le_trans hz (by decide), fo, _, _, rfl, rfl, hv, ?_, hn _ _ ⟨fs ++ [cutL z.cps.toList s z.cps.toList.length], rfl, same_mut sm hfo, ?_, ?_⟩⟩
          · rw [List.length_map, List.length_map]
            exact Nat.lt_of_lt_of_le (show fs.length < 10000010 by omega) (by decide)
          · rw [upd_same, cutS_from, List.map_append, List.map_append]; rfl
          · have ne : cutL z.cps.toList s z.cps.toList.length ≠ [] := fun q => by
              have := congrArg List.length q
              rw [cutL_length _ (Nat.le_refl _)] at this
              simp at this
              omega
            rw [if_neg ne] at hp
            exact hp
        · have e' : ¬ (s : Int) < (z.length : Int) := fun q => e (decide_eq_true q)
          have es : s = z.cps.toList.length := by omega
          rw [es, cutL_self, if_pos rfl, List.append_nil] at hp
          exact hn _ _ ⟨fs, rfl, sm, hv, hp⟩
      · rintro σ6 H6 ⟨gs, rfl, s6, hv6, rfl⟩
        refine ⟨_, rfl, fo, _, rfl, .inl ⟨SqL.of hv6, fun l hl2 => ?_⟩⟩
        exact k _ l (s6.trans (same_new hl2)) (.inl (.inl upd_same))
end
end VK
end

section
set_option Elab.async false
set_option linter.all false
set_option pp.maxSteps 1500
set_option maxRecDepth 100000
set_option maxHeartbeats 4000000
namespace VK
open PySem L2
abbrev s_text_from : Stmt := topS 7
theorem sc_text_from : FnScope ["lines"] ["lines"] (defScope s_text_from) := ⟨rfl, rfl, rfl, by decide +kernel, rfl, by decide +kernel, by decide +kernel⟩
def spText (K : PySem.W.Frag) : Sp := fun vs H Q _ => ∃ (a : Addr) (ls : List Str), vs = [.ref a] ∧ SqT K H a (ls.map V.str) ∧ (ls.map (·.length)).sum ≤ 16777216 ∧ Q (.str (Txt.join ("" : Str) ls)) H
section
variable {P : Program} {w : World} {K : PySem.W.Frag} {mg : Str → Option Value} {base : Heap}
theorem ok_text {f : Addr} {fd : FuncData} (F : Fun K "text_from" "text_from" s_text_from f fd) : FnOk P w K mg base CX0 1 f fd ["lines"] (spText K) := by
  refine F.ok sc_text_from (fun vs H Q E h => ?_) (fun cdv A outer s H vs Q E hr h => ?_)
  · obtain ⟨a, ls, rfl, _⟩ := h
    rfl
  · obtain ⟨a, ls, rfl, hA, hz, k⟩ := h
    refine ⟨_, (pss_one (ps_ret (pe_join pe_str (pv 0)))), ?_⟩
    refine ⟨⟨_, rfl⟩, _, rfl, _, a, ls, rfl, rfl, .inr hA, ?_, k⟩
    show _ + ls.length * 0 ≤ _
    omega
end
end VK
end

section
set_option Elab.async false
set_option linter.all false
set_option pp.maxSteps 1500
set_option maxRecDepth 100000
set_option maxHeartbeats 4000000
/-! any, all of a generator expression over a tuple, after HandS.AnyAll and HandS.JoinGen -/
namespace VK
open PySem PySem.Spec PyProof.Rows L2
/-- what a name of the module or a builtin is read from -/
structure GEnv (mg : Str → Option Value) (cenv : Env) (s : Shared) : Prop where
  kind : cenv.scope.kind = .function
  g : s.heap.Ns cenv.globals mg
  b : ∃ mb, s.heap.Ns cenv.builtins mb ∧ ∀ x : Str, x ≠ "__name__" → mb x = bootBuiltins x
/-- a value's truth -/
def Tru (prog : Program) (w : World) (y : Value) (b : Bool) : Prop := ∀ (A : Around) (s : Shared) (Q : Bool → Shared → Prop) (E : Value → Shared → Prop), (∀ k, s.toks ≤ k → Q b { s with toks := k }) → wpAny (model prog w) A (truthy y) Q E s
/-- the element: of an item v with Pz a value of the truth pb v -/
def EltV (prog : Program) (w : World) (mg : Str → Option Value) (scope : Scope) (x : Str) (elt : Expr) (Pz : V → Prop) (pb : V → Bool) : Prop :=
  ∀ (cenv : Env) (A' : Around) (E' : Value → Shared → Prop) (v : V) (u : Value) (s₂ : Shared) (m₂ : Str → Option Value), cenv.scope = scope → Pz v → RelV v u → GEnv mg cenv s₂ → s₂.heap.Ns cenv.locals m₂ → m₂ x = some u →
    wpAny (model prog w) A' (eval elt cenv) (fun y s₃ => Tru prog w y (pb v) ∧ Keeps s₂ s₃) E' s₂
def trV (pb : V → Bool) (l : List V) (j : Nat) : Bool := match l[j]? with
  | some b => pb b
  | none => false
theorem trV_some {pb : V → Bool} {l : List V} {j : Nat} {b : V} (h : l[j]? = some b) : trV pb l j = pb b := by
  unfold trV
  rw [h]
theorem any_trV (l : List V) (pb : V → Bool) : (List.range l.length).any (trV pb l) = l.any pb := by
  rw [Bool.eq_iff_iff, List.any_eq_true, List.any_eq_true]
  constructor
  · intro ⟨j, hj, h⟩
    have hj' := List.mem_range.mp hj
    rw [trV_some (List.getElem?_eq_getElem hj')] at h
    exact ⟨l[j], List.getElem_mem hj', h⟩
  · intro ⟨b, hb, h⟩
    obtain ⟨j, hj, e⟩ := List.getElem_of_mem hb
    refine ⟨j, List.mem_range.mpr hj, ?_⟩
    rw [trV_some (List.getElem?_eq_getElem hj), e]
    exact h
theorem all_trV (l : List V) (pb : V → Bool) : (List.range l.length).all (trV pb l) = l.all pb := by
  rw [Bool.eq_iff_iff, List.all_eq_true, List.all_eq_true]
  constructor
  · intro h b hb
    obtain ⟨j, hj, e⟩ := List.getElem_of_mem hb
    have q := h j (List.mem_range.mpr hj)
    rw [trV_some (List.getElem?_eq_getElem hj), e] at q
    exact q
  · intro h j hj
    have hj' := List.mem_range.mp hj
    rw [trV_some (List.getElem?_eq_getElem hj')]
    exact h _ (List.getElem_mem hj')
/-- the truth of what is yielded; behind it tokens may be taken -/
def TruthT (prog : Program) (w : World) (A : Around) (P : Nat → Value → Prop) (tr : Nat → Bool) : Prop :=
  ∀ i v (s : Shared) (Q : Bool → Shared → Prop) (E : Value → Shared → Prop), P i v → (∀ k, s.toks ≤ k → Q (tr i) { s with toks := k }) → wpAny (model prog w) A (truthy v) Q E s
section
variable {prog : Program} {w : World} {A : Around} {R : Result → Shared → Prop} {I : Addr} {fp wr : List Addr} {G : Array GenState → Array GenState → Prop} {n : Nat} {P : Nat → Value → Prop} {St : Nat → Shared → Prop} {E : Value → Shared → Prop} {s : Shared}
theorem all_loopT (W : WalksS prog w A.in1 I fp wr G n P St) (tr : Nat → Bool) (htr : TruthT prog w A.in1 P tr) : ∀ (k i : Nat) (s : Shared), n - i = k → i ≤ n → St i s →
    (∀ s', Moved wr G s s' → R (.ok (.ret (.bool (((List.range n).drop i).all tr)))) s') → codeAny (model prog w) A (.builtin "all.loop" ⟨[.ref I], []⟩) R s := by
  intro k
  induction k with
  | zero =>
    intro i s hk hi hst hR
    have hin : i = n := by omega
    subst hin
    refine codeAny_builtin F.entry_all_loop ?_
    rw [Around.under_plainId F.plain_all_loop _]
    show wpAny _ A.in1 (pyNext (.ref I) >>= _) _ _ s
    refine wpAny_bind (W.done s _ _ hst fun s' hm => ?_)
    refine wpAny_bind (wpAny_rule (wpAny_pure ?_))
    have := hR s' hm
    rw [List.drop_of_length_le (by simp)] at this
    exact this
  | succ k ih =>
    intro i s hk hi hst hR
    have hlt : i < n := by omega
    have hd : (List.range n).drop i = i :: (List.range n).drop (i + 1) := by
      rw [List.drop_eq_getElem_cons (by simpa using hlt)]; simp
    refine codeAny_builtin F.entry_all_loop ?_
    rw [Around.under_plainId F.plain_all_loop _]
    show wpAny _ A.in1 (pyNext (.ref I) >>= _) _ _ s
    refine wpAny_bind (W.item i s _ _ hlt hst fun v s' hP hst' hm => ?_)
    refine wpAny_bind (wpAny_holding (htr i v _ _ _ hP fun kt hkt => ?_))
    refine wpAny_bind (wpAny_letGo ?_)
    have hst2 : St (i + 1) { s' with toks := kt } := W.frame (i + 1) s' s'.heap kt hst' hkt fun b _ o e => e
    have hm2 : Moved wr G s { s' with toks := kt } := hm.then_heap (h' := s'.heap) hkt fun b o _ e => e
    cases hb : tr i with
    | true =>
      simp only [if_true]
      refine wpAny_pure ⟨plainId_quiet F.plain_all_loop _, ih (i + 1) _ (by omega) hlt hst2 fun s'' hm' => ?_⟩
      have := hR s'' (hm2.trans W.gtrans hm')
      rw [hd, List.all_cons, hb, Bool.true_and] at this
      exact this
    | false =>
      simp only [Bool.false_eq_true, if_false]
      refine wpAny_bind (wpAny_rule (wpAny_pure ?_))
      have := hR _ hm2
      rw [hd, List.all_cons, hb, Bool.false_and] at this
      exact this
theorem any_loopT (W : WalksS prog w A.in1 I fp wr G n P St) (tr : Nat → Bool) (htr : TruthT prog w A.in1 P tr) : ∀ (k i : Nat) (s : Shared), n - i = k → i ≤ n → St i s →
    (∀ s', Moved wr G s s' → R (.ok (.ret (.bool (((List.range n).drop i).any tr)))) s') → codeAny (model prog w) A (.builtin "any.loop" ⟨[.ref I], []⟩) R s := by
  intro k
  induction k with
  | zero =>
    intro i s hk hi hst hR
    have hin : i = n := by omega
    subst hin
    refine codeAny_builtin F.entry_any_loop ?_
    rw [Around.under_plainId F.plain_any_loop _]
    show wpAny _ A.in1 (pyNext (.ref I) >>= _) _ _ s
    refine wpAny_bind (W.done s _ _ hst fun s' hm => ?_)
    refine wpAny_bind (wpAny_rule (wpAny_pure ?_))
    have := hR s' hm
    rw [List.drop_of_length_le (by simp)] at this
    exact this
  | succ k ih =>
    intro i s hk hi hst hR
    have hlt : i < n := by omega
    have hd : (List.range n).drop i = i :: (List.range n).drop (i + 1) := by
      rw [List.drop_eq_getElem_cons (by simpa using hlt)]; simp
    refine codeAny_builtin F.entry_any_loop ?_
    rw [Around.under_plainId F.plain_any_loop _]
    show wpAny _ A.in1 (pyNext (.ref I) >>= _) _ _ s
    refine wpAny_bind (W.item i s _ _ hlt hst fun v s' hP hst' hm => ?_)
    refine wpAny_bind (wpAny_holding (htr i v _ _ _ hP fun kt hkt => ?_))
    refine wpAny_bind (wpAny_letGo ?_)
    have hst2 : St (i + 1) { s' with toks := kt } := W.frame (i + 1) s' s'.heap kt hst' hkt fun b _ o e => e
    have hm2 : Moved wr G s { s' with toks := kt } := hm.then_heap (h' := s'.heap) hkt fun b o _ e => e
    cases hb : tr i with
    | false =>
      simp only [Bool.false_eq_true, if_false]
      refine wpAny_pure ⟨plainId_quiet F.plain_any_loop _, ih (i + 1) _ (by omega) hlt hst2 fun s'' hm' => ?_⟩
      have := hR s'' (hm2.trans W.gtrans hm')
      rw [hd, List.any_cons, hb, Bool.false_or] at this
      exact this
    | true =>
      simp only [if_true]
      refine wpAny_bind (wpAny_rule (wpAny_pure ?_))
      have := hR _ hm2
      rw [hd, List.any_cons, hb, Bool.true_or] at this
      exact this
theorem call_all_T {x : Value} {Q : Value → Shared → Prop}
    (h : wpAny (model prog w) A.in1 (pyIter x) (fun it s₂ => ∃ I fp wr G n P St tr, it = .ref I ∧ WalksS prog w A.in1 I fp wr G n P St ∧ St 0 s₂ ∧ TruthT prog w A.in1 P tr ∧
      ∀ s', Moved wr G s₂ s' → Q (.bool ((List.range n).all tr)) s') E s) :
    wpAny (model prog w) A (call (.builtin "all") [x]) Q E s := by
  refine call_function_tree F.kind_all F.plain_all F.entry_all (F.args_all1 _) ?_
  unfold Builtin.«all»
  refine wpAny_bind (m := oneArg "all" _) (wpAny_pure ?_)
  refine wpAny_bind (wpAny_mono h (fun it s₂ h₂ => ?_) fun _ _ e => e)
  obtain ⟨I, fp, wr, G, n, P, St, tr, rfl, W, hst, htr, hQ⟩ := h₂
  exact wpAny_pure ⟨plainId_quiet F.plain_all_loop _, all_loopT W tr htr n 0 s₂ rfl (Nat.zero_le _) hst fun s' hm => by simpa using hQ s' hm⟩
theorem call_any_T {x : Value} {Q : Value → Shared → Prop}
    (h : wpAny (model prog w) A.in1 (pyIter x) (fun it s₂ => ∃ I fp wr G n P St tr, it = .ref I ∧ WalksS prog w A.in1 I fp wr G n P St ∧ St 0 s₂ ∧ TruthT prog w A.in1 P tr ∧
      ∀ s', Moved wr G s₂ s' → Q (.bool ((List.range n).any tr)) s') E s) :
    wpAny (model prog w) A (call (.builtin "any") [x]) Q E s := by
  refine call_function_tree F.kind_any F.plain_any F.entry_any (F.args_any1 _) ?_
  unfold Builtin.«any»
  refine wpAny_bind (m := oneArg "any" _) (wpAny_pure ?_)
  refine wpAny_bind (wpAny_mono h (fun it s₂ h₂ => ?_) fun _ _ e => e)
  obtain ⟨I, fp, wr, G, n, P, St, tr, rfl, W, hst, htr, hQ⟩ := h₂
  exact wpAny_pure ⟨plainId_quiet F.plain_any_loop _, any_loopT W tr htr n 0 s₂ rfl (Nat.zero_le _) hst fun s' hm => by simpa using hQ s' hm⟩
end
section
variable {X : Cx} {pins : List (Addr × Obj)} {σ : L2.St} {H : Hp} {s : Shared}
/-- the generator g over the items xs, ready to be walked, in the state s5; H1: what was held before -/
def ReadyV (X : Cx) (pins : List (Addr × Obj)) (σ : L2.St) (H1 : Hp) (P : Addr) (xs : List V) (pb : V → Bool) (g : Addr) (s5 : Shared) : Prop :=
  ∃ (fp wr : List Addr) (G : Array GenState → Array GenState → Prop) (F : Nat → Value → Prop) (St : Nat → Shared → Prop),
    WalksS X.prog X.w X.A.in1 g fp wr G xs.length F St ∧ St 0 s5 ∧ TruthT X.prog X.w X.A.in1 F (trV pb xs) ∧
    ∀ s', Moved wr G s5 s' → ∃ H2, GxR.Tabbed P H1 H2 ∧ Inv X pins σ H2 s'
theorem gen_tupV {c P : Addr} {elt iter : Expr} {x : Str} {px gpos : Pos} {scope : Scope} {Pz : V → Prop} {pb : V → Bool} {te : TE} {k : Nat} {Q' : Value → Shared → Prop} {R : List V → Hp → Prop}
    (hr : Room k X.A) (TB : GxR.TabB X.base X.mg c P) (hcode : X.env.code = .ref c) (S : GxR.GenS X.env scope x) (hi : PE X iter te) (hel : EltV X.prog X.w X.mg scope x elt Pz pb)
    (hs : ∀ v, genFold iter X.env v = pure v) (I : Inv X pins σ H s) (h : te σ H fun v H1 => ∃ (yl : Addr) (xs : List V), v = .ref yl ∧ SqT X.K H1 yl xs ∧ (∀ a ∈ xs, Pz a) ∧ GxR.TabG H1 P ∧ R xs H1)
    (hQ : ∀ xs H1 g s5, R xs H1 → ReadyV X pins σ H1 P xs pb g s5 → Q' (.ref g) s5) :
    wpAny (model X.prog X.w) X.A (eval (.GeneratorExp elt [⟨.Name x px, iter, [], 0⟩] scope gpos) X.env) Q' X.xe s := by
  refine wpAny_GeneratorExp_walksQ hr.hd S.co (closure_ok S.free) S.cell S.dot S.loc S.kind (by have := hr.dp; omega) ?_ hs
  refine thn (hi.run pins s σ H _ I h) fun xv s1 ⟨v, H1, I1, r1, q1⟩ => ?_
  obtain ⟨yl, xs, rfl, hyl, hPz, ⟨ps, hP, ht⟩, q1⟩ := q1
  obtain rfl : xv = Value.ref yl := r1
  obtain ⟨its, rv, hl, hz⟩ := I1.tuple hyl
  have hIL : s1.heap.IsTuple yl its.toArray := hl
  have hlen : its.length = xs.length := rv.length.symm
  have hat : ∀ (i : Nat) (v : Value), its.toArray[i]? = some v → ∃ a : V, xs[i]? = some a ∧ RelV a v := fun i v hv => by
    have hv2 : its[i]? = some v := by simpa using hv
    have hi2 : i < its.length := (List.getElem?_eq_some_iff.mp hv2).1
    obtain ⟨a, ha⟩ : ∃ a, xs[i]? = some a := ⟨xs[i]'(by omega), List.getElem?_eq_getElem _⟩
    obtain ⟨u, hu, ru⟩ := rv.get ha
    rw [hv2] at hu
    cases hu
    exact ⟨a, ha, ru⟩
  refine wpAny_pyIter_tuple hIL ?_
  generalize ho : ({ cls := .type "tuple_iterator", data := .fields #[.ref yl, .int 0 0] } : Obj) = o
  have hitr : (s1.heap.push o).IsTupleIter s1.heap.objs.size yl 0 := by
    subst ho
    exact ⟨_, Heap.get?_push_size _ rfl, rfl, rfl⟩
  have hylt : yl < s1.heap.objs.size := by
    obtain ⟨_, e, _⟩ := _root_.id hIL
    exact Heap.lt_size e
  have hPs : s1.heap.get? P = some { cls := .none, data := .fields ps } := I1.hok P _ hP
  have hPlt : P < s1.heap.objs.size := Heap.lt_size hPs
  have hP2 : (s1.heap.push o).get? P = some { cls := .none, data := .fields ps } := Heap.get?_push_of_some _ hPs
  have cd : PySem.W.CodeHd (s1.heap.push o) c P := TB.code.keeps fun b u e => Heap.get?_push_of_some _ (I1.bk b u e)
  have lim2 : (s1.heap.push o).NoLimit := I1.nolimit.push o
  obtain ⟨mb, hb1, hb2⟩ := I1.mod.blt
  have nsP : ∀ {a : Addr} {m : Str → Option Value}, X.base.Ns a m → a ≠ P := fun {a m} hn e => by
    obtain ⟨o', es, ep, ho', hd, _⟩ := hn
    have := I1.bk _ _ ho'
    rw [e, hPs] at this
    cases this
    cases hd
  have cont : ∀ (code : Value) (h3 : Heap) (tk : Nat) (ps' : Array Value), Heap.ExtBut P (s1.heap.push o) h3 → (s1.heap.push o).objs.size ≤ h3.objs.size → h3.get? P = some { cls := .none, data := .fields ps' } → (∃ more, ps' = ps ++ more) → TriplesOk ps'.toList →
      wpAny (model X.prog X.w) X.A (builtinsFor X.env.globals X.env.builtins) (fun bi s₄ =>
        ∃ Ia fp wr n₀ Pf St₀ pz F, Value.ref s1.heap.objs.size = .ref Ia ∧ (∀ A' : Around, A'.handled = none → Walks X.prog X.w A' Ia fp wr n₀ Pf St₀) ∧ St₀ 0 s₄.heap ∧ (∀ b ∈ fp, b < s₄.heap.objs.size) ∧ s₄.heap.NoLimit ∧ cStatics ∉ wr ∧
          (∀ href : Heap, (∀ b o, s₄.heap.get? b = some o → href.get? b = some o) →
            QuietGen X.prog X.w (genEnv scope (cloFrom X.env.cells scope.names []) s₄.heap.objs.size code bi X.env) x [] elt (List.range s₄.heap.objs.size) wr Pf pz F href) ∧
          (∀ a h₅ tk gs, gs.bare = true → s₄.heap.objs.size < a → h₅.objs.size = a + 1 → (∀ b o, s₄.heap.get? b = some o → h₅.get? b = some o) →
            WalksS X.prog X.w X.A.in4 a (a :: s₄.heap.objs.size :: List.range s₄.heap.objs.size) (s₄.heap.objs.size :: wr) (GenOnlyQ s₄.gens.size) (passing pz n₀ 0).length
              (fun j y => ∃ i, (passing pz n₀ 0)[j]? = some i ∧ F i y) (GenAt X.prog X.w X.A.in4 a s₄.gens.size s₄.heap.objs.size (List.range s₄.heap.objs.size) wr pz n₀ F) →
            GenAt X.prog X.w X.A.in4 a s₄.gens.size s₄.heap.objs.size (List.range s₄.heap.objs.size) wr pz n₀ F 0 { s₄ with gens := s₄.gens.push gs, toks := tk, heap := h₅ } →
            Q' (.ref a) { s₄ with gens := s₄.gens.push gs, toks := tk, heap := h₅ })) X.xe { s1 with heap := h3, toks := tk } := by
    intro code h3 tk ps' hx hsz hP3 hmore ht3
    obtain ⟨bm, ob, e1, e2, e3, e4, e5, e6, e7, e8⟩ := TB.bm
    have hcP : cStatics ≠ P := fun e => by
      obtain ⟨_, hns, _⟩ := I1.nolimit
      obtain ⟨o', es, ep, ho, hd, _⟩ := hns
      rw [e, hPs] at ho
      cases ho
      cases hd
    have hcl : cStatics < s1.heap.objs.size := let ⟨_, hns, _⟩ := I1.nolimit; hns.lt
    have sz2 : (s1.heap.push o).objs.size = s1.heap.objs.size + 1 := Heap.size_push ..
    have keep3 : ∀ b u, b ≠ P → s1.heap.get? b = some u → h3.get? b = some u := fun b u hb e => hx b u hb (Heap.get?_push_of_some _ e)
    refine wpAny_builtinsFor (m := X.mg) (by rw [I1.ok.glob]; exact ((I1.mod.glob.keeps I1.bk).push o).extBut hx TB.gP) e1 e2 (keep3 _ _ e4 (I1.bk _ _ e5)) e6 e7 e8 ?_
    have hylP : yl ≠ P := fun z => by
      obtain ⟨_, e, hc1, _, hd1⟩ := _root_.id hIL
      rw [z, hPs] at e
      cases e
      cases hd1
    have hIL3 : h3.IsTuple yl its.toArray := by
      obtain ⟨ob, e, r⟩ := _root_.id hIL
      exact ⟨ob, keep3 _ _ hylP e, r⟩
    have hItr3 : h3.IsTupleIter s1.heap.objs.size yl 0 := hitr.at fun u e => hx _ u (Nat.ne_of_gt hPlt) e
    refine ⟨s1.heap.objs.size, [s1.heap.objs.size, yl], [s1.heap.objs.size], its.toArray.size, (fun i v => its.toArray[i]? = some v), (fun i h => h.IsTupleIter s1.heap.objs.size yl i ∧ h.IsTuple yl its.toArray), (fun _ => true),
      (fun i y => ∃ a : V, xs[i]? = some a ∧ Tru X.prog X.w y (pb a)), rfl, (fun A' hA => Walks.tuple hA _ _ (Nat.ne_of_lt hylt) _), ⟨hItr3, hIL3⟩, ?_, lim2.extBut hx hcP, ?_, ?_, ?_⟩
    · intro b hb
      rcases List.mem_cons.mp hb with z | z
      · rw [z]
        show s1.heap.objs.size < h3.objs.size
        omega
      · rcases List.mem_cons.mp z with z | z
        · rw [z]
          have e9 : s1.heap.objs.size ≤ h3.objs.size := by omega
          exact Nat.lt_of_lt_of_le hylt e9
        · cases z
    · intro z
      rcases List.mem_cons.mp z with z | z
      · exact Nat.ne_of_lt hcl z
      · cases z
    · intro href hhref
      refine ⟨fun A' E' i v s₂ m₂ hA hPv hn hm hk => ?_, fun A' E' i v s₂ m₂ hA hPv hp hn hm hk => ?_⟩
      · simp only [List.forIn_nil]
        exact wpAny_pure ⟨rfl, GxR.keeps_refl _⟩
      · obtain ⟨a, ha, ra⟩ := hat i v hPv
        have nsK : ∀ {a : Addr} {m : Str → Option Value}, X.base.Ns a m → s₂.heap.Ns a m := fun {a m} hn0 => by
          have nP := nsP hn0
          obtain ⟨o', es, ep, ho', r⟩ := hn0
          have e1 := I1.bk _ _ ho'
          have hl := Heap.lt_size e1
          have e2 := hhref _ _ (keep3 _ _ nP e1)
          refine ⟨o', es, ep, hk a (List.mem_range.mpr ?_) ?_ _ e2, r⟩
          · have e9 : s1.heap.objs.size ≤ h3.objs.size := by omega
            exact Nat.lt_of_lt_of_le hl e9
          · intro z
            rcases List.mem_cons.mp z with z | z
            · rw [z] at hl; exact Nat.lt_irrefl _ hl
            · cases z
        have ge : GEnv X.mg (genEnv scope (cloFrom X.env.cells scope.names []) h3.objs.size code builtinsNs X.env) s₂ :=
          ⟨S.kind, by show s₂.heap.Ns X.env.globals X.mg; rw [I1.ok.glob]; exact nsK I1.mod.glob, mb, nsK hb1, hb2⟩
        refine wpAny_mono (hel _ A' E' a v s₂ m₂ rfl (hPz a (List.mem_of_getElem? ha)) ra ge hn hm) (fun y s3 r => ?_) fun _ _ e => e
        exact ⟨⟨a, ha, r.1⟩, r.2⟩
    · intro g h5 tk5 gs hgb hag hsz5 hk5 W5 hgat
      simp only [GxR.passing_true, List.length_range] at W5
      have hn5 : its.toArray.size = xs.length := by rw [List.size_toArray, hlen]
      rw [hn5] at W5 hgat
      refine hQ xs H1 g _ q1 ⟨_, _, _, _, _, W5.in4_1, hgat, ?_, fun s' hm => ?_⟩
      · intro j v sj Qj Ej hv hQj
        obtain ⟨i, hij, a, ha, e⟩ := hv
        obtain ⟨hj, ej⟩ := List.getElem?_eq_some_iff.mp hij
        rw [List.getElem_range] at ej
        subst ej
        rw [trV_some ha] at hQj
        exact e _ _ _ _ hQj
      · obtain ⟨more, em⟩ := hmore
        have nwr : ∀ b u, s1.heap.get? b = some u → b ∉ h3.objs.size :: [s1.heap.objs.size] := fun b u e hb => by
          have hl := Heap.lt_size e
          rcases List.mem_cons.mp hb with z | z
          · rw [z] at hl
            have h9 : (h3.objs.size : Nat) < s1.heap.objs.size := hl
            omega
          · rcases List.mem_cons.mp z with z | z
            · rw [z] at hl
              exact Nat.lt_irrefl _ hl
            · cases z
        have J := GxR.inv_tab (more := more) (h' := s'.heap) (g' := s'.gens) (d' := s'.drawn) (t' := s'.toks) I1 hP (fun b u hb e => hm.heap b u (nwr b u e) (hk5 b u (keep3 b u hb e)))
          (by rw [← em]; exact hm.heap P _ (nwr P _ hPs) (hk5 P _ hP3)) (AllBare.movedS (I1.bare.push hgb) hm)
        rw [GxR.sh_eta s1 s' hm.os] at J
        refine ⟨upd H1 P (.tbl (ps ++ more)), ⟨⟨ps ++ more, upd_same, by rw [← em]; exact ht3⟩, fun b hb => upd_ne hb⟩, J⟩
  refine ⟨lim2, ?_⟩
  cases hf : codeAmong gpos ps.toList with
  | none =>
    refine wpAny_genexprCodeX hcode (cd.code hP2 ht) (cd.tab hP2) hf fun c' h' tk hx hge hlt hco' _ htab' _ => ?_
    obtain ⟨o1, vs, f1, tf, fl, tg, inF, tx, tt, op, _, _, _, _, _, _, _, _, _, htr, _⟩ := hco'
    exact cont _ h' tk _ hx (Nat.le_trans hge (Nat.le_of_lt hlt)) htab'.2 ⟨_, rfl⟩ htr
  | some cv =>
    refine wpAny_genexprCode_hit hcode (cd.code hP2 ht) hf ?_
    exact cont cv (s1.heap.push o) s1.toks ps (Heap.ExtBut.refl _ _) (Nat.le_refl _) hP2 ⟨#[], by simp⟩ ht
/-- any(test for x in e), all(test for x in e), e a tuple; behind it the def's table may have grown -/
def tAnyV (K : PySem.W.Frag) (P : Addr) (Pz : V → Prop) (pb : V → Bool) (te : TE) : TE := fun σ H Q => te σ H fun v H1 => ∃ (yl : Addr) (xs : List V), v = .ref yl ∧ SqT K H1 yl xs ∧ (∀ a ∈ xs, Pz a) ∧ GxR.TabG H1 P ∧ ∀ H2, GxR.Tabbed P H1 H2 → Q (.bl (xs.any pb)) H2
def tAllV (K : PySem.W.Frag) (P : Addr) (Pz : V → Prop) (pb : V → Bool) (te : TE) : TE := fun σ H Q => te σ H fun v H1 => ∃ (yl : Addr) (xs : List V), v = .ref yl ∧ SqT K H1 yl xs ∧ (∀ a ∈ xs, Pz a) ∧ GxR.TabG H1 P ∧ ∀ H2, GxR.Tabbed P H1 H2 → Q (.bl (xs.all pb)) H2
theorem pe_anyV {c P : Addr} {elt iter : Expr} {x : Str} {px p pos gpos : Pos} {scope : Scope} {Pz : V → Prop} {pb : V → Bool} {te : TE} {k : Nat}
    (hr : Room k X.A) (hg : Gl X "any") (hm : X.mg "any" = none) (TB : GxR.TabB X.base X.mg c P) (hcode : X.env.code = .ref c) (S : GxR.GenS X.env scope x) (hi : PE X iter te) (hel : EltV X.prog X.w X.mg scope x elt Pz pb)
    (hs : ∀ v, genFold iter X.env v = pure v)
    (he : starEach [.GeneratorExp elt [⟨.Name x px, iter, [], 0⟩] scope gpos] X.env = (false, eval (.GeneratorExp elt [⟨.Name x px, iter, [], 0⟩] scope gpos) X.env) :: starEach [] X.env := by rfl) :
    PE X (.Call (.Name "any" p) [.GeneratorExp elt [⟨.Name x px, iter, [], 0⟩] scope gpos] [] pos) (tAnyV X.K P Pz pb te) := by
  refine ⟨fun pins s σ H Q I h => ?_⟩
  refine wpAny_Call_Name_kw (ld_blt I hg hm boot_any ?_)
  refine PyProof.Rows.callWith_builtin1 ?_ he (by rfl)
  rw [he]
  show wpAny _ _ (spliced ((false, eval (.GeneratorExp elt [⟨.Name x px, iter, [], 0⟩] scope gpos) X.env) :: backTo pos (starEach [] X.env))) _ _ s
  refine Calls.spliced_cons (gen_tupV (R := fun xs H1 => ∀ H2, GxR.Tabbed P H1 H2 → Q (.bl (xs.any pb)) H2) hr TB hcode S hi hel hs I h fun xs H1 g s5 hR hG => ?_)
  obtain ⟨fp, wr, G, F, St, W, hst, htr, hI⟩ := hG
  refine Calls.spliced_nil ?_
  refine call_any_T (W.self 0 _ _ _ hst ⟨g, fp, wr, G, _, F, St, _, rfl, W, hst, htr, fun s' hmv => ?_⟩)
  obtain ⟨H2, hT, J⟩ := hI s' hmv
  refine ⟨.bl _, H2, J, rfl, ?_⟩
  rw [any_trV xs pb]
  exact hR H2 hT
theorem pe_allV {c P : Addr} {elt iter : Expr} {x : Str} {px p pos gpos : Pos} {scope : Scope} {Pz : V → Prop} {pb : V → Bool} {te : TE} {k : Nat}
    (hr : Room k X.A) (hg : Gl X "all") (hm : X.mg "all" = none) (hb : bootBuiltins "all" = some (.builtin "all")) (TB : GxR.TabB X.base X.mg c P) (hcode : X.env.code = .ref c) (S : GxR.GenS X.env scope x) (hi : PE X iter te) (hel : EltV X.prog X.w X.mg scope x elt Pz pb)
    (hs : ∀ v, genFold iter X.env v = pure v)
    (he : starEach [.GeneratorExp elt [⟨.Name x px, iter, [], 0⟩] scope gpos] X.env = (false, eval (.GeneratorExp elt [⟨.Name x px, iter, [], 0⟩] scope gpos) X.env) :: starEach [] X.env := by rfl) :
    PE X (.Call (.Name "all" p) [.GeneratorExp elt [⟨.Name x px, iter, [], 0⟩] scope gpos] [] pos) (tAllV X.K P Pz pb te) := by
  refine ⟨fun pins s σ H Q I h => ?_⟩
  refine wpAny_Call_Name_kw (ld_blt I hg hm hb ?_)
  refine PyProof.Rows.callWith_builtin1 ?_ he (by rfl)
  rw [he]
  show wpAny _ _ (spliced ((false, eval (.GeneratorExp elt [⟨.Name x px, iter, [], 0⟩] scope gpos) X.env) :: backTo pos (starEach [] X.env))) _ _ s
  refine Calls.spliced_cons (gen_tupV (R := fun xs H1 => ∀ H2, GxR.Tabbed P H1 H2 → Q (.bl (xs.all pb)) H2) hr TB hcode S hi hel hs I h fun xs H1 g s5 hR hG => ?_)
  obtain ⟨fp, wr, G, F, St, W, hst, htr, hI⟩ := hG
  refine Calls.spliced_nil ?_
  refine call_all_T (W.self 0 _ _ _ hst ⟨g, fp, wr, G, _, F, St, _, rfl, W, hst, htr, fun s' hmv => ?_⟩)
  obtain ⟨H2, hT, J⟩ := hI s' hmv
  refine ⟨.bl _, H2, J, rfl, ?_⟩
  rw [all_trV xs pb]
  exact hR H2 hT
end
end VK
end

section
set_option Elab.async false
set_option linter.all false
set_option pp.maxSteps 1500
set_option maxRecDepth 100000
set_option maxHeartbeats 4000000
/-! elements of generator expressions over tuples of texts -/
namespace VK
open PySem PySem.Spec PyProof.Rows L2
theorem keeps_push (s : Shared) (o : Obj) (k : Nat) : Keeps s { s with heap := s.heap.push o, toks := k } := ⟨_, _, rfl, fun _ _ e => Heap.get?_push_of_some _ e⟩
theorem sliceMade_cut {a : Str} {t : Tok} {l u : Option (Int × Tok)} {Q : Value → Shared → Prop} {s : Shared} (h : (cutS a (l.map (·.1)) (u.map (·.1))).length ≤ sizeLine ∧ ∀ t' k, Q (.str (cutS a (l.map (·.1)) (u.map (·.1))) t') { s with toks := k }) : (sliceMade a t l u none).post Q s := by
  rw [← sliceText_cut] at h
  unfold PySem.StrLaws.sliceText at h
  exact post_val_or_str h
section
variable {prog : Program} {w : World} {mg : Str → Option Value} {scope : Scope} {x : Str}
theorem tru_bool (b : Bool) : Tru prog w (.bool b) b := fun A s Q E h => wpAny_truthy_bool (h s.toks (Nat.le_refl _))
theorem tru_str {a : Str} {t : Tok} (h : a.length ≤ sizeLine) : Tru prog w (.str a t) ((a.length : Int) != 0) := fun A s Q E q => by
  have hl := line63
  have hs : sizeLine = 16777216 := sizeLine_eq
  exact PySem.P.truthy_str (by omega) (q _ (by omega))
/-- a text of fit length, or an int -/
def ItemSI (v : V) : Prop := (∃ a : Str, v = .str a ∧ a.length ≤ sizeLine) ∨ ∃ i, v = .int i
def pbSI : V → Bool
  | .str a => (a.length : Int) != 0
  | _ => false
/-- isinstance(x, str) and x -/
theorem elt_isi {p1 p2 p3 p4 p5 p6 : Pos} (hk : scope.kind = .function) (hl : scope.names.lookup x = some .local) (h1 : scope.names.lookup ("isinstance" : Str) = some .globalImplicit) (h2 : scope.names.lookup ("str" : Str) = some .globalImplicit) (m1 : mg "isinstance" = none) (m2 : mg "str" = none)
    (hd : (x == ("__debug__" : Str)) = false := by decide) :
    EltV prog w mg scope x (.BoolOp .And [.Call (.Name "isinstance" p1) [.Name x p2, .Name "str" p3] [] p4, .Name x p5] p6) ItemSI pbSI := by
  intro cenv A' E' v u s₂ m₂ hs hz hr ge hn hm
  obtain ⟨mb, hb1, hb2⟩ := ge.b
  refine wpAny_And2 ?_
  refine wpAny_Call_Name_kw (Calls.Name_function_global ge.kind (by show cenv.scope.names.lookup _ = _; rw [hs]; exact h1) (Calls.loadGlobal_builtin ge.g m1 hb1 ((hb2 "isinstance" (by decide)).trans boot_isinstance) ?_) (by decide))
  refine PyProof.Rows.callWith_builtin1 ?_ rfl rfl
  show wpAny _ _ (spliced [(false, eval (.Name x p2) cenv), (false, eval (.Name "str" p3) cenv)]) _ _ s₂
  refine Calls.spliced_cons (wpAny_Name (wpAny_loadName_local (by rw [hs]; exact hk) (show cenv.scope.names.lookup x = some .local by rw [hs]; exact hl) hn hm ?_) hd)
  refine Calls.spliced_cons (Calls.Name_function_global ge.kind (by show cenv.scope.names.lookup _ = _; rw [hs]; exact h2) (Calls.loadGlobal_builtin ge.g m2 hb1 ((hb2 "str" (by decide)).trans boot_str) ?_) (by decide))
  refine Calls.spliced_nil ?_
  rcases hz with ⟨a, rfl, ha⟩ | ⟨i, rfl⟩
  · obtain ⟨t, rfl⟩ := hr
    refine IsiPair.str_str (wpAny_truthy_bool ?_)
    rw [if_pos rfl]
    refine wpAny_Name (wpAny_loadName_local (by rw [hs]; exact hk) (show cenv.scope.names.lookup x = some .local by rw [hs]; exact hl) hn hm ?_) hd
    exact ⟨tru_str ha, GxR.keeps_refl _⟩
  · obtain ⟨t, rfl⟩ := hr
    refine IsiPair.int_str (wpAny_truthy_bool ?_)
    rw [if_neg (by decide)]
    exact ⟨tru_bool false, GxR.keeps_tok _ _⟩
/-- 'k' in x[:-1] -/
def pbIn (k : Str) : V → Bool
  | .str a => Txt.contains (cutS a none (some (-1))) k
  | _ => false
def ItemS (v : V) : Prop := ∃ a : Str, v = .str a ∧ a.length ≤ sizeLine
theorem elt_in {k : Str} {j j2 : Nat} {p1 p2 p3 p4 p5 p6 p7 : Pos} (hk : scope.kind = .function) (hl : scope.names.lookup x = some .local) (hd : (x == ("__debug__" : Str)) = false := by decide) :
    EltV prog w mg scope x (.Compare (.Constant (.str k) j p1) [.In] [.Subscript (.Name x p2) (.Slice none (some (.UnaryOp .USub (.Constant (.int 1) j2 p3) p4)) none p5) p6] p7) ItemS (pbIn k) := by
  intro cenv A' E' v u s₂ m₂ hs hz hr ge hn hm
  obtain ⟨a, rfl, ha⟩ := hz
  obtain ⟨t, rfl⟩ := hr
  refine wpAny_Compare1 ?_
  refine Calls.Constant_str ?_
  refine wpAny_Subscript_str_slice ?_
  refine wpAny_Name (wpAny_loadName_local (by rw [hs]; exact hk) (show cenv.scope.names.lookup x = some .local by rw [hs]; exact hl) hn hm ?_) hd
  rw [evalPart_none, evalPart_some]
  refine wpAny_pure ?_
  refine UnaryOp_ (wpAny_Constant_int (neg_int ?_))
  refine ⟨a, t, none, some (-1, _), rfl, rfl, rfl, ?_⟩
  refine sliceMade_cut ?_
  refine ⟨Nat.le_trans (cutS_length a _ _) ha, fun t' kk => ?_⟩
  refine PySem.P.in_str ?_
  exact ⟨tru_bool _, ⟨_, _, rfl, fun b o q => Heap.get?_push_of_some _ q⟩⟩
/-- x[-1] == 'k', x not empty -/
def pbLast (k : Str) : V → Bool
  | .str a => match a.cps.toList.getLast? with
    | some c => ([c] == k.cps.toList)
    | none => false
  | _ => false
def ItemS1 (v : V) : Prop := ∃ a : Str, v = .str a ∧ a.length ≤ sizeLine ∧ a.length ≠ 0
theorem elt_last {k : Str} {j j2 : Nat} {p1 p2 p3 p4 p5 p6 : Pos} (hk : scope.kind = .function) (hl : scope.names.lookup x = some .local) (hd : (x == ("__debug__" : Str)) = false := by decide) :
    EltV prog w mg scope x (.Compare (.Subscript (.Name x p1) (.UnaryOp .USub (.Constant (.int 1) j2 p2) p3) p4) [.Eq] [.Constant (.str k) j p5] p6) ItemS1 (pbLast k) := by
  intro cenv A' E' v u s₂ m₂ hs hz hr ge hn hm
  obtain ⟨a, rfl, ha, hne⟩ := hz
  obtain ⟨t, rfl⟩ := hr
  refine wpAny_Compare1 ?_
  refine Subscript_ ?_
  refine wpAny_Name (wpAny_loadName_local (by rw [hs]; exact hk) (show cenv.scope.names.lookup x = some .local by rw [hs]; exact hl) hn hm ?_) hd
  refine UnaryOp_ (wpAny_Constant_int (neg_int ?_))
  have hln : a.cps.toList.length = a.length := Array.length_toList
  rcases List.eq_nil_or_concat a.cps.toList with e | ⟨l, c, e⟩
  · exfalso
    rw [e] at hln
    exact hne hln.symm
  · rw [List.concat_eq_append] at e
    have hat : atI a.cps.toList (-1) = some c := by rw [e]; exact atI_last l c
    obtain ⟨jj, h1, h2, h3, h4, h5⟩ := atI_get hat
    rw [hln] at h1 h4 h5
    have hpb : pbLast k (.str a) = ([c] == k.cps.toList) := by
      show (match a.cps.toList.getLast? with
        | some c => ([c] == k.cps.toList)
        | none => false) = _
      rw [e, List.getLast?_concat]
    refine tail_any (typeIs_str _ a t) slot_str_getitem.lookup (getItem_str (c := c) (by decide) (by rw [h1]; simpa using h2) ?_) (by with_unfolding_all rfl)
    refine Calls.Constant_str ?_
    refine PySem.P.eq_str ⟨?_, _, _, rfl, fun b o q => q⟩
    rw [hpb]
    exact tru_bool _
end
end VK
end

section
set_option Elab.async false
set_option linter.all false
set_option pp.maxSteps 1500
set_option maxRecDepth 100000
set_option maxHeartbeats 4000000
namespace VK
open PySem L2
/-! data that Python's == compares: fit -/
def OkD (n : Nat) (d : PyData) : Prop := d.canLay0 = true ∧ d.depth ≤ n
theorem OkD.shaped {n : Nat} {d : PyData} (h : OkD n d) (hn : n ≤ 64) : SeqAt.shaped d = true := by
  show (d.canLay0 && decide (d.depth ≤ 64)) = true
  rw [h.1, Bool.true_and]
  exact decide_eq_true (Nat.le_trans h.2 hn)
theorem okD_map {α : Type} {f : α → PyData} {n : Nat} : ∀ {l : List α}, (∀ x ∈ l, OkD n (f x)) → PyData.canLayAll0 (l.map f) = true ∧ PyData.depthAll (l.map f) ≤ n
  | [], _ => ⟨rfl, by simp [PyData.depthAll]⟩
  | x :: l, h => by
    obtain ⟨h1, h2⟩ := okD_map (l := l) fun y hy => h y (List.mem_cons_of_mem _ hy)
    obtain ⟨h3, h4⟩ := h x (List.mem_cons_self ..)
    refine ⟨?_, ?_⟩
    · show ((f x).canLay0 && PyData.canLayAll0 (l.map f)) = true
      rw [h3, h1]; rfl
    · simp only [List.map_cons, PyData.depthAll]
      omega
theorem okD_tup {α : Type} {f : α → PyData} {n : Nat} {l : List α} (h : ∀ x ∈ l, OkD n (f x)) : OkD (n + 1) (.tuple (l.map f)) := by
  obtain ⟨h1, h2⟩ := okD_map h
  refine ⟨h1, ?_⟩
  simp only [PyData.depth]
  omega
theorem okD_int (i : Int) : OkD 0 (.int i) := ⟨rfl, by simp [PyData.depth]⟩
theorem okD_str {x : Str} (h : PyData.strOk x = true) : OkD 0 (.str x) := ⟨h, by simp [PyData.depth]⟩
theorem okD_three {n : Nat} {a b c : PyData} (ha : OkD n a) (hb : OkD n b) (hc : OkD n c) : OkD (n + 1) (.tuple [a, b, c]) := by
  refine ⟨?_, ?_⟩
  · show (a.canLay0 && (b.canLay0 && (c.canLay0 && true))) = true
    rw [ha.1, hb.1, hc.1]; rfl
  · simp only [PyData.depth, PyData.depthAll]
    have := ha.2
    have := hb.2
    have := hc.2
    omega
theorem okD_two {n : Nat} {a b : PyData} (ha : OkD n a) (hb : OkD n b) : OkD (n + 1) (.tuple [a, b]) := by
  refine ⟨?_, ?_⟩
  · show (a.canLay0 && (b.canLay0 && true)) = true
    rw [ha.1, hb.1]; rfl
  · simp only [PyData.depth, PyData.depthAll]
    have := ha.2
    have := hb.2
    omega
theorem okD_mono {n m : Nat} {d : PyData} (h : OkD n d) (e : n ≤ m) : OkD m d := ⟨h.1, Nat.le_trans h.2 e⟩
theorem okD_pairs (ps : List (Nat × Nat)) : OkD 2 (pairsD ps) := okD_tup fun p _ => okD_two (okD_int _) (okD_int _)
theorem okD_lines {ls : List Str} (h : ∀ x ∈ ls, PyData.strOk x = true) : OkD 1 (linesD ls) := okD_tup fun x hx => okD_str (h x hx)
theorem okD_hunks {hs : List Hunk} (h : ∀ x ∈ hs, (∀ y ∈ x.gone, PyData.strOk y = true) ∧ ∀ y ∈ x.come, PyData.strOk y = true) : OkD 3 (hunksD hs) :=
  okD_tup fun x hx => okD_three (okD_mono (okD_int _) (Nat.zero_le _)) (okD_lines (h x hx).1) (okD_lines (h x hx).2)
theorem ne_same {K : PySem.W.Frag} {H : Hp} {x y : V} {n : Nat} {d : PyData} {Q : VK} (h1 : Dp K H x d) (h2 : Dp K H y d) (ok : OkD n d) (hn : n ≤ 64) (q : Q (.bl false) H) : rNeD K x y H Q := by
  refine ⟨d, d, h1, h2, ok.shaped hn, ok.shaped hn, ?_⟩
  rw [SeqAt.eqv_refl d ok.1]
  exact q
theorem eq_same {K : PySem.W.Frag} {H : Hp} {x y : V} {n : Nat} {d : PyData} {Q : VK} (h1 : Dp K H x d) (h2 : Dp K H y d) (ok : OkD n d) (hn : n ≤ 64) (q : Q (.bl true) H) : rEqD K x y H Q := by
  refine ⟨d, d, h1, h2, ok.shaped hn, ok.shaped hn, ?_⟩
  rw [SeqAt.eqv_refl d ok.1]
  exact q
/-- the changes' lines are lines of the two rows -/
theorem cutL_sub {α : Type} {xs : List α} {i h : Nat} {x : α} (hx : x ∈ cutL xs i h) : x ∈ xs := List.mem_of_mem_drop (List.mem_of_mem_take hx)
theorem hunksF_sub {one two : List Str} : ∀ {r : List (Nat × Nat)} {i j : Nat} {h : Hunk}, h ∈ hunksF one two i j r → (∀ y ∈ h.gone, y ∈ one) ∧ ∀ y ∈ h.come, y ∈ two
  | [], _, _, _, hm => nomatch hm
  | (a, b) :: r, i, j, h, hm => by
    rw [hunksF] at hm
    rcases List.mem_append.mp hm with hm | hm
    · split at hm
      · rw [List.mem_singleton.mp hm]
        exact ⟨fun y hy => cutL_sub hy, fun y hy => cutL_sub hy⟩
      · cases hm
    · exact hunksF_sub hm
/-! the law's heaps -/
theorem StAt.tk {K : PySem.W.Frag} {H H' : Hp} {st sc : Addr} {ns : List Int} (h : StAt K H st sc ns) (s : Sv st H H') : TK K H H' := fun a xs q => by
  obtain ⟨s0, p, s3, e, _⟩ := h.at_
  rcases q with q | q
  · have n : a ≠ st := by
      rintro rfl
      rcases q with q | ⟨o, q⟩
      · rw [e] at q; cases q
      · rw [e] at q; cases q
    exact .inl (s.rd q n)
  · exact .inr q
end VK
end

section
set_option Elab.async false
set_option linter.all false
set_option pp.maxSteps 1500
set_option maxRecDepth 100000
set_option maxHeartbeats 4000000
namespace VK
open PySem PyProof.Rows L2
/-- a def whose code object is known -/
structure FunC (K : PySem.W.Frag) (x qual : Str) (st : Stmt) (f c : Addr) (fd : FuncData) : Prop where
  ex : ∃ (oc : Value) (od : Option Addr) (kV doc pm : Value) (an : Option Addr) (ct : Value) (osl : Array (Option Value)),
    fd = PySem.W.fnOf x qual (defArgs st) (defBody st) (defScope st) .none kV doc pm an (.ref c) ct ∧ K.lookup f = some ⟨oc, od, .func fd, osl⟩ ∧ PySem.W.codeIn K (.ref c) qual = true
  kp : PySem.W.keepIn K (.ref f) = true
section
variable {P : Program} {w : World} {K : PySem.W.Frag} {mg : Str → Option Value} {base : Heap}
theorem FunC.ok {x qual : Str} {st : Stmt} {f c : Addr} {fd : FuncData} {N ps : List Str} {k : Nat} {sp : Sp} (F : FunC K x qual st f c fd) (S : FnScope N ps (defScope st)) (len : ∀ vs H Q E, sp vs H Q E → vs.length = ps.length)
    (hbody : ∀ (A : Around) (outer : List Env) (s : Shared) (H : Hp) (vs : List V) (Q : VK) (E : XK), Room k (A.deeper (envOfC qual (defScope st) s.heap.objs.size f (.ref c))) → sp vs H Q E →
      ∃ t, PSs (cxOf CX0 P w K mg base N qual (defScope st) f (.ref c) A outer s H E).nox (defBody st) t ∧ t { nx := fun _ H' => Q .non H', rt := Q } (start N vs) H) : FnOk P w K mg base CX0 (k + 1) f fd ps sp := by
  obtain ⟨oc, od, kV, doc, pm, an, ct, osl, rfl, lk, hcd⟩ := F.ex
  refine fn_of lk hcd S len fun A outer s H vs Q E hr hsp => ?_
  obtain ⟨t, h, q⟩ := hbody A outer s H vs Q E hr hsp
  exact ⟨t, h.nox, q⟩
end
theorem gen_s {env : Env} {scope : Scope} {x : Str} (k : scope.kind = .function) (co : scope.isCoroutine = false) (h : scope.names.all (fun y => match y.2 with | .cell => false | .free => false | _ => true) = true) (d : scope.names.lookup (".0" : Str) = some NameKind.local) (l : scope.names.lookup x = some .local) : GxR.GenS env scope x := by
  refine ⟨k, co, fun y hy e => ?_, d, l, fun y hy e => ?_⟩
  · have q := List.all_eq_true.mp h y hy
    rw [e] at q; cases q
  · have q := List.all_eq_true.mp h y hy
    rw [e] at q; cases q
theorem ty_of_sqt {K : PySem.W.Frag} {H : Hp} {a : Addr} {xs : List V} (h : SqT K H a xs) : TyX K H (.ref a) (.type "tuple") := by
  rcases h with (h | ⟨o, h⟩) | ⟨o, its, n, hk, hc, _⟩
  · exact .base (.tup h)
  · exact .fTuple h
  · exact .kTuple hk hc
theorem sv_tab {Pt : Addr} {H H' : Hp} (h : GxR.Tabbed Pt H H') : Sv Pt H H' := fun a o n e => by rw [h.2 a n]; exact e
theorem sv_sqt {K : PySem.W.Frag} {Pt : Addr} {H H' : Hp} (s : Sv Pt H H') (t : GxR.TabG H Pt) {a : Addr} {xs : List V} (h : SqT K H a xs) : SqT K H' a xs := by
  rcases h with h | h
  · have n : a ≠ Pt := by
      rintro rfl
      obtain ⟨ps, e, _⟩ := t
      rcases h with h | ⟨o, h⟩
      · rw [e] at h; cases h
      · rw [e] at h; cases h
    exact .inl (s.rd h n)
  · exact .inr h
end VK
end

section
set_option Elab.async false
set_option linter.all false
set_option pp.maxSteps 1500
set_option maxRecDepth 100000
set_option maxHeartbeats 4000000
namespace VK
open PySem
/-! ### parts of a merge, in plain Lean -/
inductive Part where
  | same (ls : List Str)
  | clash (base one two : List Str)
deriving DecidableEq
/-- a part behind parts: what is the same goes to what is the same -/
def addPart (found : List Part) (p : Part) : List Part := match p with
  | .clash b o t => found ++ [.clash b o t]
  | .same [] => found
  | .same (l :: ls) => match found.getLast? with
    | some (.same xs) => found.dropLast ++ [.same (xs ++ (l :: ls))]
    | _ => found ++ [.same (l :: ls)]
def tidyF (ps : List Part) : List Part := ps.foldl addPart []
def addSpan (found : List (Nat × Nat)) (p : Nat × Nat) : List (Nat × Nat) := match found.getLast? with
  | some q => if p.1 ≤ q.2 then found.dropLast ++ [(q.1, max q.2 p.2)] else found ++ [p]
  | none => [p]
def hspan (h : Hunk) : Nat × Nat := (h.start, h.start + h.gone.length)
def withinF (hs : List Hunk) (lo hi : Nat) : List Hunk := hs.filter fun h => decide (lo ≤ h.start) && decide (h.start + h.gone.length ≤ hi)
def rewF (ls : List Str) (low : Nat) : Nat → List Hunk → List Str
  | here, [] => ls.drop here
  | here, h :: r => cutL ls here (h.start - low) ++ h.come ++ rewF ls low (h.start - low + h.gone.length) r
def joinP (old l r : List Str) : Part := if l = r ∨ r = old then .same l else if l = old then .same r else .clash old l r
def sideF (base : List Str) (hs : List Hunk) (lo hi : Nat) : List Str := rewF (cutL base lo hi) lo 0 (withinF hs lo hi)
def rawF (base : List Str) (f s : List Hunk) : Nat → List (Nat × Nat) → List Part
  | here, [] => [.same (base.drop here)]
  | here, (lo, hi) :: r => .same (cutL base here lo) :: joinP (cutL base lo hi) (sideF base f lo hi) (sideF base s lo hi) :: rawF base f s hi r
/-- all spans, the sort being given -/
def spansS (ps : List (Nat × Nat)) : List (Nat × Nat) := ps.foldl addSpan []
/-- pairs in order -/
def leP (p q : Nat × Nat) : Bool := decide (p.1 < q.1) || (decide (p.1 = q.1) && decide (p.2 ≤ q.2))
def insP (p : Nat × Nat) : List (Nat × Nat) → List (Nat × Nat)
  | [] => [p]
  | q :: r => if leP p q then p :: q :: r else q :: insP p r
def sortP : List (Nat × Nat) → List (Nat × Nat)
  | [] => []
  | p :: r => insP p (sortP r)
def spansF (f s : List Hunk) : List (Nat × Nat) := spansS (sortP ((f ++ s).map hspan))
def partsF (base : List Str) (f s : List Hunk) : List Part := tidyF (rawF base f s 0 (spansF f s))
/-! #### sorting -/
theorem leP_total (p q : Nat × Nat) : leP p q = true ∨ leP q p = true := by
  simp only [leP, Bool.or_eq_true, Bool.and_eq_true, decide_eq_true_eq]; omega
theorem leP_trans {p q r : Nat × Nat} (h1 : leP p q = true) (h2 : leP q r = true) : leP p r = true := by
  simp only [leP, Bool.or_eq_true, Bool.and_eq_true, decide_eq_true_eq] at *; omega
theorem leP_anti {p q : Nat × Nat} (h1 : leP p q = true) (h2 : leP q p = true) : p = q := by
  simp only [leP, Bool.or_eq_true, Bool.and_eq_true, decide_eq_true_eq] at *
  exact Prod.ext (by omega) (by omega)
theorem insP_perm (p : Nat × Nat) : ∀ l : List (Nat × Nat), (insP p l).Perm (p :: l)
  | [] => .refl _
  | q :: r => by
    rw [insP]
    split
    · exact .refl _
    · exact ((insP_perm p r).cons q).trans (.swap p q r)
theorem sortP_perm : ∀ l : List (Nat × Nat), (sortP l).Perm l
  | [] => .refl _
  | p :: r => (insP_perm p _).trans ((sortP_perm r).cons p)
theorem insP_sorted (p : Nat × Nat) : ∀ l : List (Nat × Nat), l.Pairwise (fun a b => leP a b = true) → (insP p l).Pairwise fun a b => leP a b = true
  | [], _ => List.pairwise_singleton _ _
  | q :: r, h => by
    obtain ⟨h1, h2⟩ := List.pairwise_cons.mp h
    rw [insP]
    split
    · rename_i e
      refine List.pairwise_cons.mpr ⟨fun x hx => ?_, h⟩
      rcases List.mem_cons.mp hx with rfl | hx
      · exact e
      · exact leP_trans e (h1 x hx)
    · rename_i e
      refine List.pairwise_cons.mpr ⟨fun x hx => ?_, insP_sorted p r h2⟩
      rcases List.mem_cons.mp ((insP_perm p r).mem_iff.mp hx) with rfl | hx
      · exact (leP_total _ _).resolve_left e
      · exact h1 x hx
theorem sortP_sorted : ∀ l : List (Nat × Nat), (sortP l).Pairwise fun a b => leP a b = true
  | [] => .nil
  | p :: r => insP_sorted p _ (sortP_sorted r)
theorem sorted_uniq : ∀ {a b : List (Nat × Nat)}, a.Perm b → a.Pairwise (fun x y => leP x y = true) → b.Pairwise (fun x y => leP x y = true) → a = b
  | [], b, p, _, _ => (List.Perm.nil_eq p)
  | x :: a, [], p, _, _ => absurd p.length_eq (by simp)
  | x :: a, y :: b, p, h1, h2 => by
    obtain ⟨h3, h4⟩ := List.pairwise_cons.mp h1
    obtain ⟨h5, h6⟩ := List.pairwise_cons.mp h2
    have e : x = y := by
      rcases List.mem_cons.mp (p.mem_iff.mp (List.mem_cons_self ..)) with e | m1
      · exact e
      · rcases List.mem_cons.mp (p.symm.mem_iff.mp (List.mem_cons_self ..)) with e | m2
        · exact e.symm
        · exact leP_anti (h3 y m2) (h5 x m1)
    subst e
    rw [sorted_uniq p.cons_inv h4 h6]
theorem sortP_of_perm {a b : List (Nat × Nat)} (h : a.Perm b) : sortP a = sortP b :=
  sorted_uniq ((sortP_perm a).trans (h.trans (sortP_perm b).symm)) (sortP_sorted a) (sortP_sorted b)
theorem sortP_id {a : List (Nat × Nat)} (h : a.Pairwise fun x y => leP x y = true) : sortP a = a := sorted_uniq (sortP_perm a) (sortP_sorted a) h
/-! #### spans from the left -/
def mergeS (cur : Nat × Nat) : List (Nat × Nat) → List (Nat × Nat)
  | [] => [cur]
  | p :: r => if p.1 ≤ cur.2 then mergeS (cur.1, max cur.2 p.2) r else cur :: mergeS p r
theorem foldl_addSpan : ∀ (ps init : List (Nat × Nat)) (cur : Nat × Nat), ps.foldl addSpan (init ++ [cur]) = init ++ mergeS cur ps
  | [], init, cur => rfl
  | p :: r, init, cur => by
    rw [List.foldl_cons, mergeS]
    have e : addSpan (init ++ [cur]) p = if p.1 ≤ cur.2 then init ++ [(cur.1, max cur.2 p.2)] else (init ++ [cur]) ++ [p] := by
      unfold addSpan
      simp
    rw [e]
    split
    · exact foldl_addSpan r init _
    · rw [foldl_addSpan r (init ++ [cur]) p, List.append_assoc]; rfl
theorem spansS_cons (p : Nat × Nat) (r : List (Nat × Nat)) : spansS (p :: r) = mergeS p r := by
  unfold spansS
  rw [List.foldl_cons]
  exact foldl_addSpan r [] p
/-! #### turned -/
def swapP : Part → Part
  | .same ls => .same ls
  | .clash b o t => .clash b t o
theorem swapP_join (old l r : List Str) : swapP (joinP old l r) = joinP old r l := by
  unfold joinP
  by_cases e1 : l = r
  · subst e1
    simp [swapP]
  · by_cases e2 : r = old
    · subst e2
      have e3 : ¬ r = l := fun e => e1 e.symm
      simp [e1, e3, swapP]
    · by_cases e3 : l = old
      · subst e3
        have e4 : ¬ r = l := e2
        simp [e1, e4, swapP]
      · have e4 : ¬ r = l := fun e => e1 e.symm
        simp [e1, e2, e3, e4, swapP]
theorem swapP_add (found : List Part) (p : Part) : (addPart found p).map swapP = addPart (found.map swapP) (swapP p) := by
  cases p with
  | clash b o t => simp [addPart, swapP]
  | same ls =>
    cases ls with
    | nil => rfl
    | cons l ls =>
      rcases List.eq_nil_or_concat found with rfl | ⟨init, x, rfl⟩
      · rfl
      · rw [List.concat_eq_append]
        cases x with
        | same xs => simp [addPart, swapP]
        | clash b o t => simp [addPart, swapP]
theorem swapP_foldl : ∀ (ps found : List Part), (ps.foldl addPart found).map swapP = (ps.map swapP).foldl addPart (found.map swapP)
  | [], _ => rfl
  | p :: r, found => by
    rw [List.foldl_cons, List.map_cons, List.foldl_cons, swapP_foldl r, swapP_add]
theorem swapP_raw (base : List Str) (f s : List Hunk) : ∀ (r : List (Nat × Nat)) (here : Nat), (rawF base f s here r).map swapP = rawF base s f here r
  | [], here => rfl
  | (lo, hi) :: r, here => by
    rw [rawF, rawF, List.map_cons, List.map_cons, swapP_raw base f s r hi, swapP_join]
    rfl
theorem spansF_swap (f s : List Hunk) : spansF f s = spansF s f := by
  unfold spansF
  rw [sortP_of_perm (List.Perm.map _ List.perm_append_comm)]
theorem partsF_swap (base : List Str) (f s : List Hunk) : (partsF base f s).map swapP = partsF base s f := by
  unfold partsF tidyF
  rw [swapP_foldl, swapP_raw, spansF_swap]
  rfl
/-! #### all the same -/
def flatS : List Part → List Str
  | [] => []
  | .same ls :: r => ls ++ flatS r
  | .clash _ _ _ :: r => flatS r
theorem flatS_app : ∀ a b : List Part, flatS (a ++ b) = flatS a ++ flatS b
  | [], b => rfl
  | .same ls :: r, b => by rw [List.cons_append, flatS, flatS, flatS_app r b, List.append_assoc]
  | .clash _ _ _ :: r, b => by rw [List.cons_append, flatS, flatS, flatS_app r b]
def isS : Part → Bool
  | .same _ => true
  | .clash _ _ _ => false
def nrm (ls : List Str) : List Part := if ls = [] then [] else [.same ls]
theorem tidy_same : ∀ (ps : List Part) (xs : List Str), ps.all isS = true → ps.foldl addPart (nrm xs) = nrm (xs ++ flatS ps)
  | [], xs, _ => by rw [flatS, List.append_nil]; rfl
  | .clash _ _ _ :: r, xs, h => by simp [isS] at h
  | .same ls :: r, xs, h => by
    have h' : r.all isS = true := by simpa [isS] using h
    rw [List.foldl_cons, flatS, ← List.append_assoc, ← tidy_same r (xs ++ ls) h']
    congr 1
    cases ls with
    | nil => rw [List.append_nil]; rfl
    | cons l ls =>
      cases xs with
      | nil => rfl
      | cons x xs => rfl
theorem tidyF_same {ps : List Part} (h : ps.all isS = true) : tidyF ps = nrm (flatS ps) := tidy_same ps [] h
/-! ### merges where nothing clashes -/
def Sep (n : Nat) : Nat → List Hunk → Prop
  | _, [] => True
  | i, h :: r => i ≤ h.start ∧ h.start + h.gone.length ≤ n ∧ Sep n (h.start + h.gone.length + 1) r
theorem Sep.le {n : Nat} : ∀ {hs : List Hunk} {i j : Nat}, j ≤ i → Sep n i hs → Sep n j hs
  | [], _, _, _, _ => trivial
  | h :: r, _, _, e, ⟨a, b, c⟩ => ⟨Nat.le_trans e a, b, c⟩
theorem Sep.ge {n : Nat} : ∀ {hs : List Hunk} {i : Nat}, Sep n i hs → ∀ h ∈ hs, i ≤ h.start ∧ h.start + h.gone.length ≤ n
  | [], _, _, _, hm => nomatch hm
  | g :: r, i, ⟨a, b, c⟩, h, hm => by
    rcases List.mem_cons.mp hm with rfl | hm
    · exact ⟨a, b⟩
    · obtain ⟨x, y⟩ := Sep.ge c h hm
      exact ⟨by omega, y⟩
theorem Sep.pw {n : Nat} : ∀ {hs : List Hunk} {i : Nat}, Sep n i hs → hs.Pairwise fun a b => a.start + a.gone.length < b.start
  | [], _, _ => .nil
  | g :: r, i, ⟨a, b, c⟩ => List.pairwise_cons.mpr ⟨fun h hm => by have := (c.ge h hm).1; omega, c.pw⟩
theorem Sep.of {n : Nat} : ∀ {hs : List Hunk}, (hs.Pairwise fun a b => a.start + a.gone.length < b.start) → (∀ h ∈ hs, h.start + h.gone.length ≤ n) → ∀ i, (∀ h ∈ hs, i ≤ h.start) → Sep n i hs
  | [], _, _, _, _ => trivial
  | g :: r, p, q, i, z => by
    obtain ⟨p1, p2⟩ := List.pairwise_cons.mp p
    exact ⟨z g (List.mem_cons_self ..), q g (List.mem_cons_self ..), Sep.of p2 (fun h hm => q h (List.mem_cons_of_mem _ hm)) _ fun h hm => p1 h hm⟩
theorem hunksF_sep (one two : List Str) : ∀ (ps : List (Nat × Nat)) (i j : Nat), Row one two i j ps → i ≤ one.length → j ≤ two.length → Sep one.length i (hunksF one two i j (ps ++ [(one.length, two.length)]))
  | [], i, j, _, h1, h2 => by
    rw [List.nil_append, hunksF, hunksF, List.append_nil]
    split
    · refine ⟨Nat.le_refl _, ?_, trivial⟩
      show i + (cutL one i one.length).length ≤ one.length
      rw [cutL_length one (Nat.le_refl _)]; omega
    · trivial
  | (h, t) :: ps, i, j, ⟨r1, r2, r3, r4, r5, r6⟩, h1, h2 => by
    rw [List.cons_append, hunksF]
    have q := hunksF_sep one two ps (h + 1) (t + 1) r6 r3 r4
    split
    · have e : (cutL one i h).length = h - i := cutL_length one (by omega)
      refine ⟨Nat.le_refl _, ?_, q.le ?_⟩
      · show i + (cutL one i h).length ≤ one.length
        omega
      · show i + (cutL one i h).length + 1 ≤ h + 1
        omega
    · exact q.le (by omega)
/-- what goes stands in the lines -/
def FitL (ls : List Str) (h : Hunk) : Prop := cutL ls h.start (h.start + h.gone.length) = h.gone
theorem hunksF_fit (one two : List Str) : ∀ (ps : List (Nat × Nat)) (i j : Nat), (∀ p ∈ ps, p.1 ≤ one.length) → ∀ h ∈ hunksF one two i j ps, FitL one h
  | [], _, _, _, _, hm => nomatch hm
  | (a, b) :: ps, i, j, hp, h, hm => by
    rw [hunksF] at hm
    rcases List.mem_append.mp hm with hm | hm
    · split at hm
      · rw [List.mem_singleton.mp hm]
        have e : (cutL one i a).length = a - i := cutL_length one (hp _ (List.mem_cons_self ..))
        show cutL one i (i + (cutL one i a).length) = cutL one i a
        rw [e]
        unfold cutL
        congr 1
        omega
      · cases hm
    · exact hunksF_fit one two ps _ _ (fun p m => hp p (List.mem_cons_of_mem _ m)) h hm
theorem within_self {n : Nat} : ∀ {hs : List Hunk} {i : Nat}, Sep n i hs → ∀ h ∈ hs, withinF hs h.start (h.start + h.gone.length) = [h]
  | g :: r, i, ⟨a, b, c⟩, h, hm => by
    unfold withinF
    rw [List.filter_cons]
    rcases List.mem_cons.mp hm with rfl | hm
    · rw [if_pos (by simp)]
      congr 1
      refine List.filter_eq_nil_iff.mpr fun x hx => ?_
      have := (c.ge x hx).1
      simp
      omega
    · have q := (c.ge h hm).1
      rw [if_neg (by simp; omega)]
      exact within_self c h hm
theorem within_none {hs : List Hunk} {h : Hunk} (hn : ∀ g ∈ hs, ¬ (h.start ≤ g.start + g.gone.length ∧ g.start ≤ h.start + h.gone.length)) : withinF hs h.start (h.start + h.gone.length) = [] := by
  refine List.filter_eq_nil_iff.mpr fun g hg => ?_
  have := hn g hg
  simp
  omega
theorem side_one {base : List Str} {h : Hunk} (f : FitL base h) (hl : h.start + h.gone.length ≤ base.length) : rewF (cutL base h.start (h.start + h.gone.length)) h.start 0 [h] = h.come := by
  rw [rewF, rewF, Nat.sub_self, cutL_self, List.nil_append, Nat.zero_add, List.drop_eq_nil_of_le, List.append_nil]
  rw [cutL_length base hl]; omega
theorem raw_flat (base : List Str) (f s : List Hunk) : ∀ (bs : List Hunk) (here : Nat), (∀ h ∈ bs, joinP (cutL base h.start (h.start + h.gone.length)) (sideF base f h.start (h.start + h.gone.length)) (sideF base s h.start (h.start + h.gone.length)) = .same h.come) →
    (rawF base f s here (bs.map hspan)).all isS = true ∧ flatS (rawF base f s here (bs.map hspan)) = applyF base here bs
  | [], here, _ => ⟨rfl, by
    show base.drop here ++ [] = _
    rw [List.append_nil]; rfl⟩
  | h :: r, here, hp => by
    obtain ⟨i1, i2⟩ := raw_flat base f s r (h.start + h.gone.length) fun x hx => hp x (List.mem_cons_of_mem _ hx)
    have q := hp h (List.mem_cons_self ..)
    rw [List.map_cons]
    show (rawF base f s here ((h.start, h.start + h.gone.length) :: r.map hspan)).all isS = true ∧ flatS (rawF base f s here ((h.start, h.start + h.gone.length) :: r.map hspan)) = applyF base here (h :: r)
    rw [rawF, q, applyF]
    refine ⟨?_, ?_⟩
    · simp only [List.all_cons, isS, Bool.true_and]; exact i1
    · show _ ++ (_ ++ flatS _) = _
      rw [i2, List.append_assoc]
theorem parts_flat {base : List Str} {f s bs : List Hunk} (e : spansF f s = bs.map hspan) (hp : ∀ h ∈ bs, joinP (cutL base h.start (h.start + h.gone.length)) (sideF base f h.start (h.start + h.gone.length)) (sideF base s h.start (h.start + h.gone.length)) = .same h.come) :
    partsF base f s = nrm (applyF base 0 bs) := by
  obtain ⟨h1, h2⟩ := raw_flat base f s bs 0 hp
  unfold partsF
  rw [e, tidyF_same h1, h2]
/-- spans that are apart stay -/
theorem merge_apart : ∀ (r : List Hunk) (h : Hunk), ((h :: r).Pairwise fun a b => a.start + a.gone.length < b.start) → mergeS (hspan h) (r.map hspan) = (h :: r).map hspan
  | [], _, _ => rfl
  | g :: r, h, p => by
    obtain ⟨p1, p2⟩ := List.pairwise_cons.mp p
    have q := p1 g (List.mem_cons_self ..)
    rw [List.map_cons, mergeS, if_neg (by show ¬ g.start ≤ h.start + h.gone.length; omega), merge_apart r g p2]
    rfl
theorem spans_apart {bs : List Hunk} (p : bs.Pairwise fun a b => a.start + a.gone.length < b.start) : spansS (bs.map hspan) = bs.map hspan := by
  cases bs with
  | nil => rfl
  | cons h r => rw [List.map_cons, spansS_cons, merge_apart r h p]; rfl
theorem pw_sorted {bs : List Hunk} (p : bs.Pairwise fun a b => a.start + a.gone.length < b.start) : (bs.map hspan).Pairwise fun x y => leP x y = true := by
  rw [List.pairwise_map]
  refine p.imp fun {a b} h => ?_
  have q : a.start < b.start := by omega
  show (decide (a.start < b.start) || _) = true
  rw [decide_eq_true q]
  rfl
theorem spansF_perm {f s bs : List Hunk} (h : bs.Perm (f ++ s)) (p : bs.Pairwise fun a b => a.start + a.gone.length < b.start) : spansF f s = bs.map hspan := by
  unfold spansF
  rw [← sortP_of_perm (h.map hspan), sortP_id (pw_sorted p), spans_apart p]
/-- one side has changed nothing -/
theorem parts_left {base : List Str} {f : List Hunk} (sp : Sep base.length 0 f) (ft : ∀ h ∈ f, FitL base h) : partsF base f [] = nrm (applyF base 0 f) := by
  refine parts_flat (spansF_perm (by rw [List.append_nil]) sp.pw) fun h hm => ?_
  have e1 : sideF base f h.start (h.start + h.gone.length) = h.come := by
    unfold sideF
    rw [within_self sp h hm, side_one (ft h hm) (sp.ge h hm).2]
  have e2 : sideF base [] h.start (h.start + h.gone.length) = cutL base h.start (h.start + h.gone.length) := rfl
  rw [e1, e2]
  unfold joinP
  rw [if_pos (.inr rfl)]
/-- both sides have changed the same -/
def dupS : List (Nat × Nat) → List (Nat × Nat)
  | [] => []
  | p :: r => p :: p :: dupS r
theorem dup_perm : ∀ l : List (Nat × Nat), (dupS l).Perm (l ++ l)
  | [] => .refl _
  | p :: r => by
    rw [dupS, List.cons_append]
    refine .cons p (((dup_perm r).cons p).trans ?_)
    exact List.perm_middle.symm
theorem dup_sorted : ∀ {l : List (Nat × Nat)}, l.Pairwise (fun x y => leP x y = true) → (dupS l).Pairwise fun x y => leP x y = true
  | [], _ => .nil
  | p :: r, h => by
    obtain ⟨h1, h2⟩ := List.pairwise_cons.mp h
    have m : ∀ x ∈ dupS r, leP p x = true := fun x hx => by
      rcases List.mem_append.mp ((dup_perm r).mem_iff.mp hx) with hx | hx <;> exact h1 x hx
    refine List.pairwise_cons.mpr ⟨fun x hx => ?_, List.pairwise_cons.mpr ⟨m, dup_sorted h2⟩⟩
    rcases List.mem_cons.mp hx with rfl | hx
    · simp [leP]
    · exact m x hx
theorem merge_dup : ∀ (r : List Hunk) (h : Hunk), ((h :: r).Pairwise fun a b => a.start + a.gone.length < b.start) → mergeS (hspan h) (hspan h :: dupS (r.map hspan)) = (h :: r).map hspan
  | [], h, _ => by
    show mergeS (hspan h) (hspan h :: []) = [hspan h]
    rw [mergeS, if_pos (by show h.start ≤ h.start + h.gone.length; omega), Nat.max_self, mergeS]
  | g :: r, h, p => by
    obtain ⟨p1, p2⟩ := List.pairwise_cons.mp p
    have q := p1 g (List.mem_cons_self ..)
    rw [mergeS, if_pos (by show h.start ≤ h.start + h.gone.length; omega), Nat.max_self, List.map_cons, dupS, mergeS, if_neg (by show ¬ g.start ≤ h.start + h.gone.length; omega), merge_dup r g p2]
    rfl
theorem spansF_dup {f : List Hunk} (p : f.Pairwise fun a b => a.start + a.gone.length < b.start) : spansF f f = f.map hspan := by
  unfold spansF
  rw [List.map_append, ← sortP_of_perm (dup_perm (f.map hspan)), sortP_id (dup_sorted (pw_sorted p))]
  cases f with
  | nil => rfl
  | cons h r => rw [List.map_cons, dupS, spansS_cons, merge_dup r h p]; rfl
theorem parts_both {base : List Str} {f : List Hunk} (sp : Sep base.length 0 f) (ft : ∀ h ∈ f, FitL base h) : partsF base f f = nrm (applyF base 0 f) := by
  refine parts_flat (spansF_dup sp.pw) fun h hm => ?_
  have e1 : sideF base f h.start (h.start + h.gone.length) = h.come := by
    unfold sideF
    rw [within_self sp h hm, side_one (ft h hm) (sp.ge h hm).2]
  rw [e1]
  unfold joinP
  rw [if_pos (.inl rfl)]
/-- the two sides do not touch -/
def touchH (a b : Hunk) : Prop := a.start ≤ b.start + b.gone.length ∧ b.start ≤ a.start + a.gone.length
theorem parts_apart {base : List Str} {f s bs : List Hunk} (sf : Sep base.length 0 f) (ss : Sep base.length 0 s) (ff : ∀ h ∈ f, FitL base h) (fs : ∀ h ∈ s, FitL base h) (nt : ∀ a ∈ f, ∀ b ∈ s, ¬ touchH a b)
    (hp : bs.Perm (f ++ s)) (hs : bs.Pairwise fun a b => a.start ≤ b.start) : partsF base f s = nrm (applyF base 0 bs) ∧ Sep base.length 0 bs := by
  have r1 : ∀ {l : List Hunk}, (l.Pairwise fun a b => a.start + a.gone.length < b.start) → l.Pairwise fun a b => ¬ touchH a b := fun p => p.imp fun {a b} h q => by
    have := q.2
    omega
  have sym : ∀ a b : Hunk, ¬ touchH a b → ¬ touchH b a := fun a b h q => h ⟨q.2, q.1⟩
  have pw : bs.Pairwise fun a b => ¬ touchH a b := by
    refine hp.symm.pairwise (R := fun a b => ¬ touchH a b) ?_ fun {a b} h => sym a b h
    exact List.pairwise_append.mpr ⟨r1 sf.pw, r1 ss.pw, nt⟩
  have pb : bs.Pairwise fun a b => a.start + a.gone.length < b.start := by
    refine (hs.and pw).imp fun {a b} h => ?_
    have h1 := h.1
    have h2 := h.2
    unfold touchH at h2
    omega
  have le : ∀ h ∈ bs, h.start + h.gone.length ≤ base.length := fun h hm => by
    rcases List.mem_append.mp (hp.mem_iff.mp hm) with hm | hm
    · exact (sf.ge h hm).2
    · exact (ss.ge h hm).2
  refine ⟨parts_flat (spansF_perm hp pb) fun h hm => ?_, Sep.of pb le 0 fun h _ => Nat.zero_le _⟩
  rcases List.mem_append.mp (hp.mem_iff.mp hm) with hm | hm
  · have e1 : sideF base f h.start (h.start + h.gone.length) = h.come := by
      unfold sideF
      rw [within_self sf h hm, side_one (ff h hm) (sf.ge h hm).2]
    have e2 : sideF base s h.start (h.start + h.gone.length) = cutL base h.start (h.start + h.gone.length) := by
      unfold sideF
      rw [within_none fun g hg => nt h hm g hg]
      rfl
    rw [e1, e2]
    unfold joinP
    rw [if_pos (.inr rfl)]
  · have e1 : sideF base s h.start (h.start + h.gone.length) = h.come := by
      unfold sideF
      rw [within_self ss h hm, side_one (fs h hm) (ss.ge h hm).2]
    have e2 : sideF base f h.start (h.start + h.gone.length) = cutL base h.start (h.start + h.gone.length) := by
      unfold sideF
      rw [within_none fun g hg q => nt g hg h hm ⟨q.2, q.1⟩]
      rfl
    rw [e1, e2]
    unfold joinP
    by_cases e : cutL base h.start (h.start + h.gone.length) = h.come
    · rw [e, if_pos (.inl rfl)]
    · rw [if_neg fun q => q.elim e fun q => e q.symm, if_pos rfl]
/-! ### where the line without an end stands -/
section
variable (E : Str) (L : Str → Prop)
/-- ended lines, and perhaps E behind them -/
def LE (ls : List Str) : Prop := (∀ x ∈ ls, L x) ∨ ∃ xs, (∀ x ∈ xs, L x) ∧ ls = xs ++ [E]
def allP : Part → Prop
  | .same ls => ∀ x ∈ ls, L x
  | .clash b o t => (∀ x ∈ b, L x) ∧ (∀ x ∈ o, L x) ∧ ∀ x ∈ t, L x
def lastP : Part → Prop
  | .same ls => LE E L ls
  | .clash b o t => (∀ x ∈ b, L x) ∧ LE E L o ∧ ∀ x ∈ t, L x
def TP (ps : List Part) : Prop := (∀ p ∈ ps, allP L p) ∨ ∃ init p, ps = init ++ [p] ∧ (∀ q ∈ init, allP L q) ∧ lastP E L p
theorem add_all {found : List Part} {p : Part} (h : ∀ q ∈ found, allP L q) (hp : allP L p) : ∀ q ∈ addPart found p, allP L q := by
  cases p with
  | clash b o t =>
    intro q hq
    rcases List.mem_append.mp hq with hq | hq
    · exact h q hq
    · rw [List.mem_singleton.mp hq]; exact hp
  | same ls =>
    cases ls with
    | nil => exact h
    | cons l ls =>
      rcases List.eq_nil_or_concat found with rfl | ⟨init, x, rfl⟩
      · intro q hq
        rw [List.mem_singleton.mp (show q ∈ [Part.same (l :: ls)] from hq)]; exact hp
      · rw [List.concat_eq_append] at *
        cases x with
        | same xs =>
          have e : addPart (init ++ [Part.same xs]) (.same (l :: ls)) = init ++ [.same (xs ++ (l :: ls))] := by simp [addPart]
          rw [e]
          intro q hq
          rcases List.mem_append.mp hq with hq | hq
          · exact h q (List.mem_append_left _ hq)
          · rw [List.mem_singleton.mp hq]
            intro y hy
            rcases List.mem_append.mp hy with hy | hy
            · exact h (.same xs) (List.mem_append_right _ (List.mem_singleton.mpr rfl)) y hy
            · exact hp y hy
        | clash b o t =>
          have e : addPart (init ++ [Part.clash b o t]) (.same (l :: ls)) = init ++ [.clash b o t] ++ [.same (l :: ls)] := by simp [addPart]
          rw [e]
          intro q hq
          rcases List.mem_append.mp hq with hq | hq
          · exact h q hq
          · rw [List.mem_singleton.mp hq]; exact hp
theorem fold_all : ∀ (ps found : List Part), (∀ q ∈ found, allP L q) → (∀ q ∈ ps, allP L q) → ∀ q ∈ ps.foldl addPart found, allP L q
  | [], _, h, _ => h
  | p :: r, found, h, hp => by
    rw [List.foldl_cons]
    exact fold_all r _ (add_all L h (hp p (List.mem_cons_self ..))) fun q hq => hp q (List.mem_cons_of_mem _ hq)
theorem add_last {found : List Part} {p : Part} (h : ∀ q ∈ found, allP L q) (hp : lastP E L p) : TP E L (addPart found p) := by
  cases p with
  | clash b o t => exact .inr ⟨found, _, rfl, h, hp⟩
  | same ls =>
    cases ls with
    | nil => exact .inl h
    | cons l ls =>
      rcases List.eq_nil_or_concat found with rfl | ⟨init, x, rfl⟩
      · exact .inr ⟨[], _, rfl, (fun _ hq => nomatch hq), hp⟩
      · rw [List.concat_eq_append] at *
        cases x with
        | same xs =>
          have e : addPart (init ++ [Part.same xs]) (.same (l :: ls)) = init ++ [.same (xs ++ (l :: ls))] := by simp [addPart]
          rw [e]
          refine .inr ⟨init, _, rfl, fun q hq => h q (List.mem_append_left _ hq), ?_⟩
          have hx : ∀ y ∈ xs, L y := h (.same xs) (List.mem_append_right _ (List.mem_singleton.mpr rfl))
          rcases hp with hp | ⟨ys, h1, h2⟩
          · exact .inl fun y hy => (List.mem_append.mp hy).elim (hx y) (hp y)
          · refine .inr ⟨xs ++ ys, fun y hy => (List.mem_append.mp hy).elim (hx y) (h1 y), ?_⟩
            rw [h2, List.append_assoc]
        | clash b o t =>
          have e : addPart (init ++ [Part.clash b o t]) (.same (l :: ls)) = init ++ [.clash b o t] ++ [.same (l :: ls)] := by simp [addPart]
          rw [e]
          exact .inr ⟨_, _, rfl, h, hp⟩
/-- the raw parts: the last but one may end with E, nothing is behind it -/
def RP (ps : List Part) : Prop := (∀ p ∈ ps, allP L p) ∨ ∃ init p, ps = init ++ [p, .same []] ∧ (∀ q ∈ init, allP L q) ∧ lastP E L p
theorem tidy_TP {ps : List Part} (h : RP E L ps) : TP E L (tidyF ps) := by
  unfold tidyF
  rcases h with h | ⟨init, p, rfl, h1, h2⟩
  · exact .inl (fold_all L ps [] (fun _ hq => nomatch hq) h)
  · rw [List.foldl_append]
    show TP E L (addPart (init.foldl addPart []) p)
    exact add_last E L (fold_all L init [] (fun _ hq => nomatch hq) h1) h2
theorem join_all {old l r : List Str} (h1 : ∀ x ∈ old, L x) (h2 : ∀ x ∈ l, L x) (h3 : ∀ x ∈ r, L x) : allP L (joinP old l r) := by
  unfold joinP
  split
  · exact h2
  · split
    · exact h3
    · exact ⟨h1, h2, h3⟩
theorem join_last {old l r : List Str} (h1 : ∀ x ∈ old, L x) (h2 : LE E L l) (h3 : ∀ x ∈ r, L x) : lastP E L (joinP old l r) := by
  unfold joinP
  split
  · exact h2
  · split
    · exact .inl h3
    · exact ⟨h1, h2, h3⟩
/-- the spans do not go back, and end at n -/
def Asc (n : Nat) : Nat → List (Nat × Nat) → Prop
  | _, [] => True
  | i, p :: r => i ≤ p.1 ∧ p.1 ≤ p.2 ∧ p.2 ≤ n ∧ Asc n (p.2 + 1) r
theorem raw_RP {base : List Str} {f s : List Hunk} (hb : ∀ x ∈ base, L x) (hf : ∀ lo hi, hi ≤ base.length → LE E L (sideF base f lo hi) ∧ (hi < base.length → ∀ x ∈ sideF base f lo hi, L x)) (hs : ∀ lo hi, ∀ x ∈ sideF base s lo hi, L x) :
    ∀ (r : List (Nat × Nat)) (here i : Nat), Asc base.length i r → RP E L (rawF base f s here r)
  | [], here, i, _ => .inl fun p hp => by
    rw [List.mem_singleton.mp (show p ∈ [Part.same (base.drop here)] from hp)]
    exact fun x hx => hb x (List.mem_of_mem_drop hx)
  | (lo, hi) :: r, here, i, ⟨a1, a2, a3, a4⟩ => by
    have hc : ∀ u v : Nat, ∀ x ∈ cutL base u v, L x := fun u v x hx => hb x (List.mem_of_mem_drop (List.mem_of_mem_take hx))
    rw [rawF]
    by_cases e : hi < base.length
    · have q := join_all L (hc lo hi) ((hf lo hi a3).2 e) (hs lo hi)
      rcases raw_RP hb hf hs r hi _ a4 with h | ⟨init, p, h1, h2, h3⟩
      · refine .inl fun p hp => ?_
        rcases List.mem_cons.mp hp with rfl | hp
        · exact hc here lo
        · rcases List.mem_cons.mp hp with rfl | hp
          · exact q
          · exact h p hp
      · refine .inr ⟨.same (cutL base here lo) :: joinP (cutL base lo hi) (sideF base f lo hi) (sideF base s lo hi) :: init, p, ?_, ?_, h3⟩
        · rw [h1]; rfl
        · intro p hp
          rcases List.mem_cons.mp hp with rfl | hp
          · exact hc here lo
          · rcases List.mem_cons.mp hp with rfl | hp
            · exact q
            · exact h2 p hp
    · have e2 : hi = base.length := by have : hi ≤ base.length := a3; omega
      have e3 : r = [] := by
        cases r with
        | nil => rfl
        | cons p r =>
          obtain ⟨b1, b2, b3, _⟩ := a4
          have : hi + 1 ≤ p.1 := b1
          omega
      subst e3
      refine .inr ⟨[.same (cutL base here lo)], joinP (cutL base lo hi) (sideF base f lo hi) (sideF base s lo hi), ?_, ?_, join_last E L (hc lo hi) (hf lo hi a3).1 (hs lo hi)⟩
      · rw [rawF, e2, List.drop_length]; rfl
      · intro p hp
        rw [List.mem_singleton.mp hp]
        exact hc here lo
/-- the lines of a side -/
theorem rew_all {ls : List Str} {low : Nat} (hl : ∀ x ∈ ls, L x) : ∀ {hs : List Hunk} {here : Nat}, (∀ h ∈ hs, ∀ x ∈ h.come, L x) → ∀ x ∈ rewF ls low here hs, L x
  | [], here, _, x, hx => hl x (List.mem_of_mem_drop hx)
  | h :: r, here, hh, x, hx => by
    rw [rewF] at hx
    rcases List.mem_append.mp hx with hx | hx
    · rcases List.mem_append.mp hx with hx | hx
      · exact hl x (List.mem_of_mem_drop (List.mem_of_mem_take hx))
      · exact hh h (List.mem_cons_self ..) x hx
    · exact rew_all hl (fun g hg => hh g (List.mem_cons_of_mem _ hg)) x hx
/-- the changes whose last one may bring E -/
def HE (n : Nat) (hs : List Hunk) : Prop := ∀ h ∈ hs, LE E L h.come ∧ (h.start + h.gone.length < n → ∀ x ∈ h.come, L x)
theorem rew_LE {n : Nat} {base : List Str} {lo : Nat} (hn : n = base.length) (hb : ∀ x ∈ base, L x) : ∀ {hs : List Hunk} {here i : Nat}, Sep n i hs → HE E L n hs → (∀ h ∈ hs, lo ≤ h.start) → LE E L (rewF (cutL base lo n) lo here hs)
  | [], here, i, _, _, _ => .inl fun x hx => hb x (List.mem_of_mem_drop (List.mem_of_mem_take (List.mem_of_mem_drop hx)))
  | h :: r, here, i, ⟨s1, s2, s3⟩, he, hl => by
    obtain ⟨c1, c2⟩ := he h (List.mem_cons_self ..)
    have hc : ∀ u v : Nat, ∀ x ∈ cutL (cutL base lo n) u v, L x := fun u v x hx => hb x (List.mem_of_mem_drop (List.mem_of_mem_take (List.mem_of_mem_drop (List.mem_of_mem_take hx))))
    rw [rewF]
    by_cases e : h.start + h.gone.length < n
    · have q := c2 e
      rcases rew_LE hn hb (here := h.start - lo + h.gone.length) s3 (fun g hg => he g (List.mem_cons_of_mem _ hg)) fun g hg => hl g (List.mem_cons_of_mem _ hg) with w | ⟨xs, w1, w2⟩
      · refine .inl fun x hx => ?_
        rcases List.mem_append.mp hx with hx | hx
        · rcases List.mem_append.mp hx with hx | hx
          · exact hc _ _ x hx
          · exact q x hx
        · exact w x hx
      · refine .inr ⟨cutL (cutL base lo n) here (h.start - lo) ++ h.come ++ xs, fun x hx => ?_, by rw [w2]; simp [List.append_assoc]⟩
        rcases List.mem_append.mp hx with hx | hx
        · rcases List.mem_append.mp hx with hx | hx
          · exact hc _ _ x hx
          · exact q x hx
        · exact w1 x hx
    · have e2 : h.start + h.gone.length = n := by omega
      have e3 : r = [] := by
        cases r with
        | nil => rfl
        | cons g r =>
          obtain ⟨b1, b2, _⟩ := s3
          omega
      subst e3
      have e4 : (cutL base lo n).drop (h.start - lo + h.gone.length) = [] := by
        refine List.drop_eq_nil_of_le ?_
        rw [cutL_length base (by omega)]
        have := hl h (List.mem_cons_self ..)
        omega
      rw [rewF, e4, List.append_nil]
      rcases c1 with w | ⟨xs, w1, w2⟩
      · exact .inl fun x hx => (List.mem_append.mp hx).elim (hc _ _ x) (w x)
      · refine .inr ⟨cutL (cutL base lo n) here (h.start - lo) ++ xs, fun x hx => (List.mem_append.mp hx).elim (hc _ _ x) (w1 x), by rw [w2]; simp [List.append_assoc]⟩
theorem Sep.filter {n : Nat} (p : Hunk → Bool) : ∀ {hs : List Hunk} {i : Nat}, Sep n i hs → Sep n i (hs.filter p)
  | [], _, _ => trivial
  | h :: r, i, ⟨a, b, c⟩ => by
    rw [List.filter_cons]
    split
    · exact ⟨a, b, Sep.filter p c⟩
    · exact (Sep.filter p c).le (by omega)
theorem side_LE {base : List Str} {f : List Hunk} (hb : ∀ x ∈ base, L x) (sp : Sep base.length 0 f) (he : HE E L base.length f) (lo hi : Nat) (h : hi ≤ base.length) : LE E L (sideF base f lo hi) ∧ (hi < base.length → ∀ x ∈ sideF base f lo hi, L x) := by
  have w : ∀ g ∈ withinF f lo hi, g ∈ f ∧ lo ≤ g.start ∧ g.start + g.gone.length ≤ hi := fun g hg => by
    obtain ⟨h1, h2⟩ := List.mem_filter.mp hg
    simp only [Bool.and_eq_true, decide_eq_true_eq] at h2
    exact ⟨h1, h2⟩
  have q : hi < base.length → ∀ x ∈ sideF base f lo hi, L x := fun e => by
    refine rew_all L (fun x hx => hb x (List.mem_of_mem_drop (List.mem_of_mem_take hx))) fun g hg => ?_
    obtain ⟨h1, _, h3⟩ := w g hg
    exact (he g h1).2 (by omega)
  refine ⟨?_, q⟩
  by_cases e : hi < base.length
  · exact .inl (q e)
  · have e2 : hi = base.length := by omega
    subst e2
    exact rew_LE E L rfl hb (sp.filter _) (fun g hg => he g (w g hg).1) fun g hg => (w g hg).2.1
theorem side_all {base : List Str} {s : List Hunk} (hb : ∀ x ∈ base, L x) (hs : ∀ h ∈ s, ∀ x ∈ h.come, L x) (lo hi : Nat) : ∀ x ∈ sideF base s lo hi, L x :=
  rew_all L (fun x hx => hb x (List.mem_of_mem_drop (List.mem_of_mem_take hx))) fun g hg => hs g (List.mem_filter.mp hg).1
/-- spans of what does not go beyond n -/
theorem merge_asc {n : Nat} : ∀ (r : List (Nat × Nat)) (i : Nat) (cur : Nat × Nat), i ≤ cur.1 → cur.1 ≤ cur.2 → cur.2 ≤ n → (∀ p ∈ r, p.1 ≤ p.2 ∧ p.2 ≤ n) → Asc n i (mergeS cur r)
  | [], i, cur, h1, h2, h3, _ => ⟨h1, h2, h3, trivial⟩
  | p :: r, i, cur, h1, h2, h3, h4 => by
    obtain ⟨q1, q2⟩ := h4 p (List.mem_cons_self ..)
    have q := fun z hz => h4 z (List.mem_cons_of_mem _ hz)
    rw [mergeS]
    split
    · exact merge_asc r i _ h1 (by show cur.1 ≤ max cur.2 p.2; omega) (by show max cur.2 p.2 ≤ n; omega) q
    · exact ⟨h1, h2, h3, merge_asc r _ p (by omega) q1 q2 q⟩
theorem spansF_asc {n : Nat} {f s : List Hunk} (hf : ∀ h ∈ f, h.start + h.gone.length ≤ n) (hs : ∀ h ∈ s, h.start + h.gone.length ≤ n) : Asc n 0 (spansF f s) := by
  unfold spansF
  have m : ∀ p ∈ sortP ((f ++ s).map hspan), p.1 ≤ p.2 ∧ p.2 ≤ n := fun p hp => by
    obtain ⟨h, h1, rfl⟩ := List.mem_map.mp ((sortP_perm _).mem_iff.mp hp)
    refine ⟨Nat.le_add_right _ _, ?_⟩
    rcases List.mem_append.mp h1 with h1 | h1
    · exact hf h h1
    · exact hs h h1
  cases e : sortP ((f ++ s).map hspan) with
  | nil => exact trivial
  | cons p r =>
    rw [e] at m
    obtain ⟨q1, q2⟩ := m p (List.mem_cons_self ..)
    rw [spansS_cons]
    exact merge_asc r 0 p (Nat.zero_le _) q1 q2 fun z hz => m z (List.mem_cons_of_mem _ hz)
theorem parts_TP {base : List Str} {f s : List Hunk} (hb : ∀ x ∈ base, L x) (sf : Sep base.length 0 f) (ss : Sep base.length 0 s) (he : HE E L base.length f) (hs : ∀ h ∈ s, ∀ x ∈ h.come, L x) : TP E L (partsF base f s) :=
  tidy_TP E L (raw_RP E L hb (side_LE E L hb sf he) (side_all L hb hs) _ 0 0 (spansF_asc (fun h hm => (sf.ge h hm).2) fun h hm => (ss.ge h hm).2))
/-- the changes that lead to a row that ends with E -/
theorem hunksF_HE {one xs : List Str} (ho : ∀ x ∈ one, L x) (hx : ∀ x ∈ xs, L x) (hE : ¬ L E) : ∀ (ps : List (Nat × Nat)) (i j : Nat), Row one (xs ++ [E]) i j ps → i ≤ one.length → j ≤ xs.length + 1 → HE E L one.length (hunksF one (xs ++ [E]) i j (ps ++ [(one.length, (xs ++ [E]).length)]))
  | [], i, j, _, h1, h2 => by
    rw [List.nil_append, hunksF, hunksF, List.append_nil]
    split
    · intro h hm
      rw [List.mem_singleton.mp hm]
      refine ⟨?_, fun e => ?_⟩
      · show LE E L (cutL (xs ++ [E]) j (xs ++ [E]).length)
        rw [cutL_end _ (Nat.le_refl _)]
        by_cases e : j ≤ xs.length
        · rw [List.drop_append_of_le_length e]
          exact .inr ⟨_, fun x m => hx x (List.mem_of_mem_drop m), rfl⟩
        · rw [List.drop_eq_nil_of_le (by rw [List.length_append, List.length_singleton]; omega)]
          exact .inl fun _ m => nomatch m
      · exfalso
        have e' : i + (cutL one i one.length).length < one.length := e
        rw [cutL_length one (Nat.le_refl _)] at e'
        omega
    · intro h hm
      cases hm
  | (a, b) :: ps, i, j, ⟨r1, r2, r3, r4, r5, r6⟩, h1, h2 => by
    have hb : b < xs.length := by
      rw [List.length_append, List.length_singleton] at r4
      by_cases e : b < xs.length
      · exact e
      · exfalso
        have e2 : b = xs.length := by omega
        rw [e2, List.getElem?_append_right (Nat.le_refl _), Nat.sub_self] at r5
        refine hE (ho E ?_)
        exact List.mem_of_getElem? r5
    have q := hunksF_HE ho hx hE ps (a + 1) (b + 1) r6 r3 (by omega)
    rw [List.cons_append, hunksF]
    intro h hm
    rcases List.mem_append.mp hm with hm | hm
    · split at hm
      · rw [List.mem_singleton.mp hm]
        have w : ∀ x ∈ cutL (xs ++ [E]) j b, L x := fun x m => by
          unfold cutL at m
          by_cases e : j ≤ xs.length
          · rw [List.drop_append_of_le_length e, List.take_append_of_le_length (by rw [List.length_drop]; omega)] at m
            exact hx x (List.mem_of_mem_drop (List.mem_of_mem_take m))
          · rw [show b - j = 0 by omega, List.take_zero] at m
            cases m
        exact ⟨.inl w, fun _ => w⟩
      · cases hm
    · exact q h hm
end
/-! ### marked lines -/
open _root_.TL
/-- an ended line -/
def EndD (x : Str) : Prop := ∃ p, tl x = p ++ [10] ∧ 10 ∉ p
def endL (x : Str) : Str := if (tl x).getLast? = some 10 then x else mkS (tl x ++ [10])
def endF (ls : List Str) : List Str := ls.map endL
theorem endL_id {x : Str} (h : EndD x) : endL x = x := by
  obtain ⟨p, e, _⟩ := h
  unfold endL
  rw [e, if_pos (by simp)]
theorem endF_id : ∀ {ls : List Str}, (∀ x ∈ ls, EndD x) → endF ls = ls
  | [], _ => rfl
  | x :: r, h => by
    show endL x :: endF r = _
    rw [endL_id (h x (List.mem_cons_self ..)), endF_id fun y hy => h y (List.mem_cons_of_mem _ hy)]
/-- a text without an end of a line -/
def Op (x : Str) : Prop := 10 ∉ tl x ∧ tl x ≠ []
theorem endL_op {x : Str} (h : Op x) : endL x = mkS (tl x ++ [10]) := by
  unfold endL
  rw [if_neg fun e => h.1 (List.mem_of_getLast? e)]
theorem endD_op {x : Str} (h : Op x) : EndD (endL x) := by
  rw [endL_op h]
  exact ⟨tl x, rfl, h.1⟩
theorem linesN_end : ∀ (p cur t : List Nat), 10 ∉ p → linesN cur (p ++ 10 :: t) = (cur ++ p ++ [10]) :: linesN [] t
  | [], cur, t, _ => by
    rw [List.nil_append, linesN, if_pos rfl, List.append_nil]
  | c :: p, cur, t, h => by
    have hc : ¬ c = 10 := fun e => h (by rw [e]; exact List.mem_cons_self ..)
    rw [List.cons_append, linesN, if_neg hc, linesN_end p _ t fun e => h (List.mem_cons_of_mem _ e)]
    simp [List.append_assoc]
theorem linesN_op : ∀ (p cur : List Nat), 10 ∉ p → linesN cur p = if cur ++ p = [] then [] else [cur ++ p]
  | [], cur, _ => by rw [linesN, List.append_nil]
  | c :: p, cur, h => by
    have hc : ¬ c = 10 := fun e => h (by rw [e]; exact List.mem_cons_self ..)
    rw [linesN, if_neg hc, linesN_op p _ fun e => h (List.mem_cons_of_mem _ e)]
    simp [List.append_assoc]
theorem linesN_all (t : List Nat) : ∀ {ls : List Str}, (∀ x ∈ ls, EndD x) → linesN [] ((ls.map tl).flatten ++ t) = ls.map tl ++ linesN [] t
  | [], _ => rfl
  | x :: r, h => by
    obtain ⟨p, e, hp⟩ := h x (List.mem_cons_self ..)
    rw [List.map_cons, List.flatten_cons, e, List.append_assoc, List.append_assoc, List.singleton_append, linesN_end p [] _ hp, linesN_all t fun y hy => h y (List.mem_cons_of_mem _ hy)]
    rfl
theorem map_mk_tl (ls : List Str) : (ls.map tl).map mkS = ls := by
  rw [List.map_map]
  conv => rhs; rw [← List.map_id ls]
  exact List.map_congr_left fun x _ => mk_tl x
theorem linesN_LE {E : Str} (hE : Op E) {ls : List Str} (h : LE E EndD ls) : (linesN [] (ls.map tl).flatten).map mkS = ls := by
  rcases h with h | ⟨xs, h, rfl⟩
  · have q := linesN_all [] h
    rw [List.append_nil] at q
    rw [q, linesN, if_pos rfl, List.append_nil, map_mk_tl]
  · rw [List.map_append, List.flatten_append, linesN_all _ h]
    have e : linesN [] ([E].map tl).flatten = [tl E] := by
      rw [List.map_singleton, List.flatten_singleton, linesN_op _ [] hE.1, List.nil_append, if_neg hE.2]
    rw [e, List.map_append, map_mk_tl]
    rfl
section
variable (m0 m1 m2 m3 : Str)
def blkC (b o t : List Str) : List Str := [m0] ++ endF o ++ [m1] ++ endF b ++ [m2] ++ endF t ++ [m3]
def markF : List Str → List Part → List Str
  | found, [] => found
  | found, .same ls :: r => markF (found ++ ls) r
  | found, .clash b o t :: r => markF (endF found ++ blkC m0 m1 m2 m3 b o t) r
def blk : Part → List Str
  | .same ls => ls
  | .clash b o t => blkC m0 m1 m2 m3 b o t
structure Mk : Prop where
  e0 : EndD m0
  e1 : EndD m1
  e2 : EndD m2
  e3 : EndD m3
theorem endF_all {E : Str} (hE : Op E) {ls : List Str} (h : LE E EndD ls) : ∀ x ∈ endF ls, EndD x := fun x hx => by
  obtain ⟨y, hy, rfl⟩ := List.mem_map.mp hx
  rcases h with h | ⟨xs, h, rfl⟩
  · rw [endL_id (h y hy)]; exact h y hy
  · rcases List.mem_append.mp hy with hy | hy
    · rw [endL_id (h y hy)]; exact h y hy
    · rw [List.mem_singleton.mp hy]; exact endD_op hE
variable {m0 m1 m2 m3}
theorem blkC_all (M : Mk m0 m1 m2 m3) {E : Str} (hE : Op E) {b o t : List Str} (hb : LE E EndD b) (ho : LE E EndD o) (ht : LE E EndD t) : ∀ x ∈ blkC m0 m1 m2 m3 b o t, EndD x := by
  intro x hx
  unfold blkC at hx
  simp only [List.mem_append, List.mem_singleton] at hx
  rcases hx with (((((rfl | hx) | rfl) | hx) | rfl) | hx) | rfl
  · exact M.e0
  · exact endF_all hE ho x hx
  · exact M.e1
  · exact endF_all hE hb x hx
  · exact M.e2
  · exact endF_all hE ht x hx
  · exact M.e3
theorem blk_all (M : Mk m0 m1 m2 m3) {E : Str} (hE : Op E) {p : Part} (h : allP EndD p) : ∀ x ∈ blk m0 m1 m2 m3 p, EndD x := by
  cases p with
  | same ls => exact h
  | clash b o t => exact blkC_all M hE (.inl h.1) (.inl h.2.1) (.inl h.2.2)
theorem markF_all (M : Mk m0 m1 m2 m3) {E : Str} (hE : Op E) : ∀ {ps : List Part} {found : List Str} (rest : List Part), (∀ x ∈ found, EndD x) → (∀ p ∈ ps, allP EndD p) →
    markF m0 m1 m2 m3 found (ps ++ rest) = markF m0 m1 m2 m3 (found ++ ps.flatMap (blk m0 m1 m2 m3)) rest ∧ ∀ x ∈ found ++ ps.flatMap (blk m0 m1 m2 m3), EndD x
  | [], found, rest, h, _ => by
    rw [List.flatMap_nil, List.append_nil]
    exact ⟨rfl, h⟩
  | p :: r, found, rest, h, hp => by
    have hq := blk_all M hE (hp p (List.mem_cons_self ..))
    have e : markF m0 m1 m2 m3 found (p :: r ++ rest) = markF m0 m1 m2 m3 (found ++ blk m0 m1 m2 m3 p) (r ++ rest) := by
      cases p with
      | same ls => rfl
      | clash b o t =>
        show markF m0 m1 m2 m3 (endF found ++ _) _ = _
        rw [endF_id h]
        rfl
    have q := markF_all M hE (found := found ++ blk m0 m1 m2 m3 p) rest (fun x hx => (List.mem_append.mp hx).elim (h x) (hq x)) fun z hz => hp z (List.mem_cons_of_mem _ hz)
    rw [e, List.flatMap_cons, ← List.append_assoc]
    exact q
theorem markF_TP (M : Mk m0 m1 m2 m3) {E : Str} (hE : Op E) {ps : List Part} (h : TP E EndD ps) : markF m0 m1 m2 m3 [] ps = ps.flatMap (blk m0 m1 m2 m3) ∧ LE E EndD (markF m0 m1 m2 m3 [] ps) := by
  rcases h with h | ⟨init, p, rfl, h1, h2⟩
  · obtain ⟨q1, q2⟩ := markF_all M hE (found := []) [] (fun _ hx => nomatch hx) h
    rw [List.append_nil] at q1
    rw [q1]
    exact ⟨by show [] ++ _ = _; rw [List.nil_append], .inl q2⟩
  · obtain ⟨q1, q2⟩ := markF_all M hE (found := []) [p] (fun _ hx => nomatch hx) h1
    rw [q1, List.flatMap_append, List.flatMap_singleton]
    rw [List.nil_append] at q2 ⊢
    cases p with
    | same ls =>
      refine ⟨rfl, ?_⟩
      rcases h2 with h2 | ⟨xs, w1, w2⟩
      · exact .inl fun x hx => (List.mem_append.mp hx).elim (q2 x) (h2 x)
      · exact .inr ⟨init.flatMap (blk m0 m1 m2 m3) ++ xs, fun x hx => (List.mem_append.mp hx).elim (q2 x) (w1 x), by
          show _ ++ ls = _
          rw [w2, List.append_assoc]⟩
    | clash b o t =>
      obtain ⟨w1, w2, w3⟩ := h2
      have e : markF m0 m1 m2 m3 (init.flatMap (blk m0 m1 m2 m3)) [.clash b o t] = init.flatMap (blk m0 m1 m2 m3) ++ blkC m0 m1 m2 m3 b o t := by
        show endF _ ++ _ = _
        rw [endF_id q2]
      rw [e]
      refine ⟨rfl, .inl fun x hx => (List.mem_append.mp hx).elim (q2 x) ?_⟩
      exact blkC_all M hE (.inl w1) w2 (.inl w3) x
end
/-! #### read again -/
abbrev T3 := List Str × List Str × List Str
def put3 : Nat → Str → T3 → T3
  | 0, x, (a, b, c) => (a ++ [x], b, c)
  | 1, x, (a, b, c) => (a, b ++ [x], c)
  | _, x, (a, b, c) => (a, b, c ++ [x])
structure CS where
  found : List T3
  rows : T3
  here : Option Nat
section
variable (s0 s1 s2 s3 : List Nat)
abbrev sgn (x : Str) : List Nat := (tl x).take 7
def stepC (s : CS) (x : Str) : CS := match s.here with
  | none => if sgn x = s0 then ⟨s.found, ([], [], []), some 0⟩ else s
  | some 0 => if sgn x = s1 then ⟨s.found, s.rows, some 1⟩ else ⟨s.found, put3 0 x s.rows, some 0⟩
  | some 1 => if sgn x = s2 then ⟨s.found, s.rows, some 2⟩ else ⟨s.found, put3 1 x s.rows, some 1⟩
  | some n => if sgn x = s3 then ⟨s.found ++ [s.rows], s.rows, none⟩ else ⟨s.found, put3 n x s.rows, some n⟩
/-- not one of the signs -/
def NoS (x : Str) : Prop := sgn x ≠ s0 ∧ sgn x ≠ s1 ∧ sgn x ≠ s2 ∧ sgn x ≠ s3
variable {s0 s1 s2 s3}
theorem fold_none : ∀ {ls : List Str} {f : List T3} {r : T3}, (∀ x ∈ ls, NoS s0 s1 s2 s3 x) → ls.foldl (stepC s0 s1 s2 s3) ⟨f, r, none⟩ = ⟨f, r, none⟩
  | [], _, _, _ => rfl
  | x :: l, f, r, h => by
    have q := h x (List.mem_cons_self ..)
    rw [List.foldl_cons]
    have e : stepC s0 s1 s2 s3 ⟨f, r, none⟩ x = ⟨f, r, none⟩ := by
      show (if sgn x = s0 then _ else _) = _
      rw [if_neg q.1]
    rw [e]
    exact fold_none fun y hy => h y (List.mem_cons_of_mem _ hy)
theorem fold0 : ∀ {ls : List Str} {f : List T3} {a b c : List Str}, (∀ x ∈ ls, NoS s0 s1 s2 s3 x) → ls.foldl (stepC s0 s1 s2 s3) ⟨f, (a, b, c), some 0⟩ = ⟨f, (a ++ ls, b, c), some 0⟩
  | [], _, a, _, _, _ => by rw [List.append_nil]; rfl
  | x :: l, f, a, b, c, h => by
    have q := h x (List.mem_cons_self ..)
    rw [List.foldl_cons]
    have e : stepC s0 s1 s2 s3 ⟨f, (a, b, c), some 0⟩ x = ⟨f, (a ++ [x], b, c), some 0⟩ := by
      show (if sgn x = s1 then _ else _) = _
      rw [if_neg q.2.1]; rfl
    rw [e, fold0 fun y hy => h y (List.mem_cons_of_mem _ hy), List.append_assoc]; rfl
theorem fold1 : ∀ {ls : List Str} {f : List T3} {a b c : List Str}, (∀ x ∈ ls, NoS s0 s1 s2 s3 x) → ls.foldl (stepC s0 s1 s2 s3) ⟨f, (a, b, c), some 1⟩ = ⟨f, (a, b ++ ls, c), some 1⟩
  | [], _, _, b, _, _ => by rw [List.append_nil]; rfl
  | x :: l, f, a, b, c, h => by
    have q := h x (List.mem_cons_self ..)
    rw [List.foldl_cons]
    have e : stepC s0 s1 s2 s3 ⟨f, (a, b, c), some 1⟩ x = ⟨f, (a, b ++ [x], c), some 1⟩ := by
      show (if sgn x = s2 then _ else _) = _
      rw [if_neg q.2.2.1]; rfl
    rw [e, fold1 fun y hy => h y (List.mem_cons_of_mem _ hy), List.append_assoc]; rfl
theorem fold2 : ∀ {ls : List Str} {f : List T3} {a b c : List Str}, (∀ x ∈ ls, NoS s0 s1 s2 s3 x) → ls.foldl (stepC s0 s1 s2 s3) ⟨f, (a, b, c), some 2⟩ = ⟨f, (a, b, c ++ ls), some 2⟩
  | [], _, _, _, c, _ => by rw [List.append_nil]; rfl
  | x :: l, f, a, b, c, h => by
    have q := h x (List.mem_cons_self ..)
    rw [List.foldl_cons]
    have e : stepC s0 s1 s2 s3 ⟨f, (a, b, c), some 2⟩ x = ⟨f, (a, b, c ++ [x]), some 2⟩ := by
      show (if sgn x = s3 then _ else _) = _
      rw [if_neg q.2.2.2]; rfl
    rw [e, fold2 fun y hy => h y (List.mem_cons_of_mem _ hy), List.append_assoc]; rfl
structure Sg (m0 m1 m2 m3 : Str) : Prop where
  g0 : sgn m0 = s0
  g1 : sgn m1 = s1
  g2 : sgn m2 = s2
  g3 : sgn m3 = s3
def clashT : List Part → List T3
  | [] => []
  | .same _ :: r => clashT r
  | .clash b o t :: r => (endF o, endF b, endF t) :: clashT r
theorem fold_blk {m0 m1 m2 m3 : Str} (G : Sg (s0 := s0) (s1 := s1) (s2 := s2) (s3 := s3) m0 m1 m2 m3) {b o t : List Str} {f : List T3} {r : T3} (hb : ∀ x ∈ endF b, NoS s0 s1 s2 s3 x) (ho : ∀ x ∈ endF o, NoS s0 s1 s2 s3 x) (ht : ∀ x ∈ endF t, NoS s0 s1 s2 s3 x) :
    (blkC m0 m1 m2 m3 b o t).foldl (stepC s0 s1 s2 s3) ⟨f, r, none⟩ = ⟨f ++ [(endF o, endF b, endF t)], (endF o, endF b, endF t), none⟩ := by
  unfold blkC
  have e0 : ([m0] : List Str).foldl (stepC s0 s1 s2 s3) ⟨f, r, none⟩ = ⟨f, ([], [], []), some 0⟩ := by
    show (if sgn m0 = s0 then _ else _) = _
    rw [if_pos G.g0]
  have e1 : ([m1] : List Str).foldl (stepC s0 s1 s2 s3) ⟨f, (endF o, [], []), some 0⟩ = ⟨f, (endF o, [], []), some 1⟩ := by
    show (if sgn m1 = s1 then _ else _) = _
    rw [if_pos G.g1]
  have e2 : ([m2] : List Str).foldl (stepC s0 s1 s2 s3) ⟨f, (endF o, endF b, []), some 1⟩ = ⟨f, (endF o, endF b, []), some 2⟩ := by
    show (if sgn m2 = s2 then _ else _) = _
    rw [if_pos G.g2]
  have e3 : ([m3] : List Str).foldl (stepC s0 s1 s2 s3) ⟨f, (endF o, endF b, endF t), some 2⟩ = ⟨f ++ [(endF o, endF b, endF t)], (endF o, endF b, endF t), none⟩ := by
    show (if sgn m3 = s3 then _ else _) = _
    rw [if_pos G.g3]
  rw [List.foldl_append, List.foldl_append, List.foldl_append, List.foldl_append, List.foldl_append, List.foldl_append, e0, fold0 ho, List.nil_append, e1, fold1 hb, List.nil_append, e2, fold2 ht, List.nil_append, e3]
/-- all lines of a part, ended too, are no signs -/
def partNo (p : Part) : Prop := match p with
  | .same ls => ∀ x ∈ ls, NoS s0 s1 s2 s3 x
  | .clash b o t => (∀ x ∈ endF b, NoS s0 s1 s2 s3 x) ∧ (∀ x ∈ endF o, NoS s0 s1 s2 s3 x) ∧ ∀ x ∈ endF t, NoS s0 s1 s2 s3 x
theorem fold_parts {m0 m1 m2 m3 : Str} (G : Sg (s0 := s0) (s1 := s1) (s2 := s2) (s3 := s3) m0 m1 m2 m3) : ∀ {ps : List Part} {f : List T3} {r : T3}, (∀ p ∈ ps, partNo (s0 := s0) (s1 := s1) (s2 := s2) (s3 := s3) p) →
    ∃ r', (ps.flatMap (blk m0 m1 m2 m3)).foldl (stepC s0 s1 s2 s3) ⟨f, r, none⟩ = ⟨f ++ clashT ps, r', none⟩
  | [], f, r, _ => ⟨r, by rw [List.flatMap_nil, clashT, List.append_nil]; rfl⟩
  | .same ls :: q, f, r, h => by
    obtain ⟨r', e⟩ := fold_parts G (ps := q) (f := f) (r := r) fun p hp => h p (List.mem_cons_of_mem _ hp)
    refine ⟨r', ?_⟩
    rw [List.flatMap_cons, List.foldl_append]
    show List.foldl _ (List.foldl _ _ ls) _ = _
    rw [fold_none (h (.same ls) (List.mem_cons_self ..)), e]; rfl
  | .clash b o t :: q, f, r, h => by
    obtain ⟨h1, h2, h3⟩ := h (.clash b o t) (List.mem_cons_self ..)
    obtain ⟨r', e⟩ := fold_parts G (ps := q) (f := f ++ [(endF o, endF b, endF t)]) (r := (endF o, endF b, endF t)) fun p hp => h p (List.mem_cons_of_mem _ hp)
    refine ⟨r', ?_⟩
    rw [List.flatMap_cons, List.foldl_append]
    show List.foldl _ (List.foldl _ _ (blkC m0 m1 m2 m3 b o t)) _ = _
    rw [fold_blk G h1 h2 h3, e, clashT, List.append_assoc]; rfl
end
end VK
end

section
set_option Elab.async false
set_option linter.all false
set_option pp.maxSteps 1500
set_option maxRecDepth 100000
set_option maxHeartbeats 4000000
namespace VK
open PySem L2
/-! ### parts as data -/
abbrev partD : Part → PyData
  | .same ls => .tuple [.str "same", linesD ls]
  | .clash b o t => .tuple [.str "clash", linesD b, linesD o, linesD t]
abbrev partsD (ps : List Part) : PyData := .tuple (ps.map partD)
theorem imm_part : ∀ p : Part, imm (partD p) = true
  | .same ls => by
    show (true && (imm (linesD ls) && true)) = true
    rw [imm_lines]; rfl
  | .clash b o t => by
    show (true && (imm (linesD b) && (imm (linesD o) && (imm (linesD t) && true)))) = true
    rw [imm_lines, imm_lines, imm_lines]; rfl
theorem parts_keep {K : PySem.W.Frag} {H H' : Hp} (t : TK K H H') {vs : List V} {ps : List Part} (h : DpAll K H vs (ps.map partD)) : DpAll K H' vs (ps.map partD) :=
  dpAll_keep t _ _ (immAll_map _ imm_part ps) h
theorem of_same {K : PySem.W.Frag} {H : Hp} {v : V} {ls : List Str} (q : Dp K H v (partD (.same ls))) : ∃ a b, v = .ref a ∧ SqT K H a [.str "same", .ref b] ∧ SqT K H b (ls.map V.str) := by
  cases q with
  | tup q r =>
    cases r with
    | cons x r =>
      cases x
      cases r with
      | cons y r =>
        cases r
        obtain ⟨b, rfl, hb⟩ := of_lines y
        exact ⟨_, b, rfl, q, hb⟩
theorem of_clash {K : PySem.W.Frag} {H : Hp} {v : V} {b o t : List Str} (q : Dp K H v (partD (.clash b o t))) : ∃ a x y z, v = .ref a ∧ SqT K H a [.str "clash", .ref x, .ref y, .ref z] ∧ SqT K H x (b.map V.str) ∧ SqT K H y (o.map V.str) ∧ SqT K H z (t.map V.str) := by
  cases q with
  | tup q r =>
    cases r with
    | cons x r =>
      cases x
      cases r with
      | cons y r =>
        cases r with
        | cons z r =>
          cases r with
          | cons w r =>
            cases r
            obtain ⟨b, rfl, hb⟩ := of_lines y
            obtain ⟨c, rfl, hc⟩ := of_lines z
            obtain ⟨d, rfl, hd⟩ := of_lines w
            exact ⟨_, b, c, d, rfl, q, hb, hc, hd⟩
theorem dp_same {K : PySem.W.Frag} {H : Hp} {a b : Addr} {ls : List Str} (q : SqT K H a [.str "same", .ref b]) (hb : SqT K H b (ls.map V.str)) : Dp K H (.ref a) (partD (.same ls)) :=
  .tup q (.cons (.str _) (.cons (dp_lines hb) .nil))
theorem dp_clash {K : PySem.W.Frag} {H : Hp} {a x y z : Addr} {b o t : List Str} (q : SqT K H a [.str "clash", .ref x, .ref y, .ref z]) (hb : SqT K H x (b.map V.str)) (ho : SqT K H y (o.map V.str)) (ht : SqT K H z (t.map V.str)) : Dp K H (.ref a) (partD (.clash b o t)) :=
  .tup q (.cons (.str _) (.cons (dp_lines hb) (.cons (dp_lines ho) (.cons (dp_lines ht) .nil))))
/-- the sign of a part -/
def tagP : Part → Str
  | .same _ => "same"
  | .clash _ _ _ => "clash"
theorem of_part {K : PySem.W.Frag} {H : Hp} {v : V} {p : Part} (q : Dp K H v (partD p)) : ∃ a r, v = .ref a ∧ SqT K H a (.str (tagP p) :: r) := by
  cases p with
  | same ls =>
    obtain ⟨a, b, rfl, h, _⟩ := of_same q
    exact ⟨a, _, rfl, h⟩
  | clash b o t =>
    obtain ⟨a, x, y, z, rfl, h, _⟩ := of_clash q
    exact ⟨a, _, rfl, h⟩
/-! equal data -/
def OkL (ls : List Str) : Prop := ∀ x ∈ ls, PyData.strOk x = true
def okP : Part → Prop
  | .same ls => OkL ls
  | .clash b o t => OkL b ∧ OkL o ∧ OkL t
theorem okP_of {p : Part} (h : allP (fun x => PyData.strOk x = true) p) : okP p := by
  cases p with
  | same ls => exact h
  | clash b o t => exact h
theorem okD_part {p : Part} (h : okP p) : OkD 2 (partD p) := by
  cases p with
  | same ls => exact okD_two (okD_mono (okD_str (by decide +kernel)) (by decide)) (okD_lines h)
  | clash b o t =>
    obtain ⟨h1, h2, h3⟩ := h
    have a0 : OkD 1 (PyData.str ("clash" : Str)) := okD_mono (okD_str (by decide +kernel)) (by decide)
    have a1 := okD_lines h1
    have a2 := okD_lines h2
    have a3 := okD_lines h3
    refine ⟨?_, ?_⟩
    · show ((PyData.str ("clash" : Str)).canLay0 && ((linesD b).canLay0 && ((linesD o).canLay0 && ((linesD t).canLay0 && true)))) = true
      rw [a0.1, a1.1, a2.1, a3.1]; rfl
    · simp only [PyData.depth, PyData.depthAll]
      have q0 := a0.2
      have q1 := a1.2
      have q2 := a2.2
      have q3 := a3.2
      simp only [PyData.depth] at q1 q2 q3
      omega
theorem okD_parts {ps : List Part} (h : ∀ p ∈ ps, okP p) : OkD 3 (partsD ps) := okD_tup fun p hp => okD_part (h p hp)
theorem eqvAll_strs : ∀ (a b : List Str), PyData.eqvAll (a.map PyData.str) (b.map PyData.str) = decide (a = b)
  | [], [] => rfl
  | [], _ :: _ => rfl
  | _ :: _, [] => rfl
  | x :: a, y :: b => by
    show (x == y && PyData.eqvAll (a.map PyData.str) (b.map PyData.str)) = _
    rw [eqvAll_strs a b]
    by_cases e : x = y
    · subst e
      by_cases e2 : a = b
      · subst e2; simp
      · simp [e2]
    · simp [e]
theorem eqv_lines (a b : List Str) : PyData.eqv (linesD a) (linesD b) = decide (a = b) := eqvAll_strs a b
/-- lines compared -/
theorem eq_lines {K : PySem.W.Frag} {H : Hp} {a b : Addr} {xs ys : List Str} {Q : VK} (h1 : SqT K H a (xs.map V.str)) (h2 : SqT K H b (ys.map V.str)) (o1 : OkL xs) (o2 : OkL ys) (q : Q (.bl (decide (xs = ys))) H) : rEqD K (.ref a) (.ref b) H Q := by
  refine ⟨_, _, dp_lines h1, dp_lines h2, (okD_lines o1).shaped (by decide), (okD_lines o2).shaped (by decide), ?_⟩
  rw [eqv_lines]; exact q
/-! sizes -/
def plP : Part → Nat
  | .same ls => ls.length
  | .clash b o t => max b.length (max o.length t.length)
theorem add_len (found : List Part) (p : Part) : (addPart found p).length ≤ found.length + 1 := by
  cases p with
  | clash b o t => simp [addPart]
  | same ls =>
    cases ls with
    | nil => exact Nat.le_succ _
    | cons l ls =>
      rcases List.eq_nil_or_concat found with rfl | ⟨init, x, rfl⟩
      · exact Nat.le_refl _
      · rw [List.concat_eq_append]
        cases x with
        | same xs => simp [addPart]
        | clash b o t => simp [addPart]
theorem add_plP {found : List Part} {p : Part} {m k : Nat} (h : ∀ q ∈ found, plP q ≤ m) (hp : plP p ≤ k) : ∀ q ∈ addPart found p, plP q ≤ m + k := by
  have h' : ∀ q ∈ found, plP q ≤ m + k := fun q hq => Nat.le_trans (h q hq) (Nat.le_add_right _ _)
  cases p with
  | clash b o t =>
    intro q hq
    rcases List.mem_append.mp hq with hq | hq
    · exact h' q hq
    · rw [List.mem_singleton.mp hq]; omega
  | same ls =>
    cases ls with
    | nil => exact h'
    | cons l ls =>
      rcases List.eq_nil_or_concat found with rfl | ⟨init, x, rfl⟩
      · intro q hq
        rw [List.mem_singleton.mp (show q ∈ [Part.same (l :: ls)] from hq)]; omega
      · rw [List.concat_eq_append] at *
        cases x with
        | same xs =>
          have e : addPart (init ++ [Part.same xs]) (.same (l :: ls)) = init ++ [.same (xs ++ (l :: ls))] := by simp [addPart]
          rw [e]
          intro q hq
          rcases List.mem_append.mp hq with hq | hq
          · exact h' q (List.mem_append_left _ hq)
          · rw [List.mem_singleton.mp hq]
            have q1 : xs.length ≤ m := h (.same xs) (List.mem_append_right _ (List.mem_singleton.mpr rfl))
            have q2 : (l :: ls).length ≤ k := hp
            show (xs ++ (l :: ls)).length ≤ m + k
            rw [List.length_append]
            omega
        | clash b o t =>
          have e : addPart (init ++ [Part.clash b o t]) (.same (l :: ls)) = init ++ [.clash b o t] ++ [.same (l :: ls)] := by simp [addPart]
          rw [e]
          intro q hq
          rcases List.mem_append.mp hq with hq | hq
          · exact h' q hq
          · rw [List.mem_singleton.mp hq]; omega
theorem fold_sz {k : Nat} : ∀ (ps found : List Part) (m : Nat), (∀ q ∈ found, plP q ≤ m) → (∀ q ∈ ps, plP q ≤ k) → (ps.foldl addPart found).length ≤ found.length + ps.length ∧ ∀ q ∈ ps.foldl addPart found, plP q ≤ m + ps.length * k
  | [], found, m, h, _ => ⟨Nat.le_refl _, fun q hq => Nat.le_trans (h q hq) (Nat.le_add_right _ _)⟩
  | p :: r, found, m, h, hp => by
    obtain ⟨h1, h2⟩ := fold_sz r (addPart found p) (m + k) (add_plP h (hp p (List.mem_cons_self ..))) fun q hq => hp q (List.mem_cons_of_mem _ hq)
    have q1 := add_len found p
    rw [List.foldl_cons, List.length_cons]
    refine ⟨by omega, fun q hq => Nat.le_trans (h2 q hq) ?_⟩
    rw [Nat.add_mul]
    omega
theorem tidy_sz {k : Nat} {ps : List Part} (h : ∀ q ∈ ps, plP q ≤ k) : (tidyF ps).length ≤ ps.length ∧ ∀ q ∈ tidyF ps, plP q ≤ ps.length * k := by
  obtain ⟨h1, h2⟩ := fold_sz ps [] 0 (fun _ hq => nomatch hq) h
  refine ⟨by unfold tidyF; simpa using h1, fun q hq => ?_⟩
  have := h2 q hq
  omega
theorem raw_len (base : List Str) (f s : List Hunk) : ∀ (r : List (Nat × Nat)) (here : Nat), (rawF base f s here r).length = 2 * r.length + 1
  | [], _ => rfl
  | (lo, hi) :: r, here => by
    rw [rawF, List.length_cons, List.length_cons, raw_len base f s r hi, List.length_cons]
    omega
theorem cut_le {α : Type} (xs : List α) (i h : Nat) : (cutL xs i h).length ≤ xs.length := cutL_len xs i h
theorem rew_len {m : Nat} (ls : List Str) (low : Nat) (hl : ls.length ≤ m) : ∀ (hs : List Hunk) (here : Nat), (∀ h ∈ hs, h.come.length ≤ m) → (rewF ls low here hs).length ≤ (2 * hs.length + 1) * m
  | [], here, _ => by
    rw [rewF, List.length_drop]; simp; omega
  | h :: r, here, hc => by
    have q1 := rew_len ls low hl r (h.start - low + h.gone.length) fun g hg => hc g (List.mem_cons_of_mem _ hg)
    have q2 := hc h (List.mem_cons_self ..)
    have q3 := cut_le ls here (h.start - low)
    rw [rewF, List.length_append, List.length_append, List.length_cons]
    have e : (2 * (r.length + 1) + 1) * m = (2 * r.length + 1) * m + 2 * m := by
      rw [← Nat.add_mul]
      congr 1
    omega
theorem side_len {m : Nat} {base : List Str} {f : List Hunk} (hb : base.length ≤ m) (hf : f.length ≤ m + 1) (hc : ∀ h ∈ f, h.come.length ≤ m) (lo hi : Nat) : (sideF base f lo hi).length ≤ (2 * m + 3) * m := by
  unfold sideF
  have q := rew_len (m := m) (cutL base lo hi) lo (Nat.le_trans (cut_le base lo hi) hb) (withinF f lo hi) 0 fun h hh => hc h (List.mem_filter.mp hh).1
  have q2 : (withinF f lo hi).length ≤ f.length := List.length_filter_le _ _
  exact Nat.le_trans q (Nat.mul_le_mul_right m (by omega))
theorem join_plP {old l r : List Str} {k : Nat} (h1 : old.length ≤ k) (h2 : l.length ≤ k) (h3 : r.length ≤ k) : plP (joinP old l r) ≤ k := by
  unfold joinP
  split
  · exact h2
  · split
    · exact h3
    · show max _ (max _ _) ≤ k
      omega
theorem raw_plP {m : Nat} {base : List Str} {f s : List Hunk} (hb : base.length ≤ m) (hf : f.length ≤ m + 1) (hs : s.length ≤ m + 1) (hcf : ∀ h ∈ f, h.come.length ≤ m) (hcs : ∀ h ∈ s, h.come.length ≤ m) : ∀ (r : List (Nat × Nat)) (here : Nat), ∀ p ∈ rawF base f s here r, plP p ≤ (2 * m + 3) * m
  | [], here, p, hp => by
    rw [List.mem_singleton.mp (show p ∈ [Part.same (base.drop here)] from hp)]
    show (base.drop here).length ≤ _
    rw [List.length_drop]
    have : m ≤ (2 * m + 3) * m := Nat.le_mul_of_pos_left m (by omega)
    omega
  | (lo, hi) :: r, here, p, hp => by
    have h0 : m ≤ (2 * m + 3) * m := Nat.le_mul_of_pos_left m (by omega)
    rw [rawF] at hp
    rcases List.mem_cons.mp hp with rfl | hp
    · show (cutL base here lo).length ≤ _
      have := cut_le base here lo
      omega
    · rcases List.mem_cons.mp hp with rfl | hp
      · exact join_plP (by have := cut_le base lo hi; omega) (side_len hb hf hcf lo hi) (side_len hb hs hcs lo hi)
      · exact raw_plP hb hf hs hcf hcs r hi p hp
theorem merge_len : ∀ (r : List (Nat × Nat)) (cur : Nat × Nat), (mergeS cur r).length ≤ r.length + 1
  | [], _ => Nat.le_refl _
  | p :: r, cur => by
    rw [mergeS]
    split
    · exact Nat.le_succ_of_le (merge_len r _)
    · exact Nat.succ_le_succ (merge_len r p)
theorem spansS_len (ps : List (Nat × Nat)) : (spansS ps).length ≤ ps.length := by
  cases ps with
  | nil => exact Nat.le_refl _
  | cons p r => rw [spansS_cons]; exact merge_len r p
theorem spansF_len (f s : List Hunk) : (spansF f s).length ≤ f.length + s.length := by
  unfold spansF
  refine Nat.le_trans (spansS_len _) ?_
  rw [(sortP_perm _).length_eq, List.length_map, List.length_append]
  exact Nat.le_refl _
end VK
end

section
set_option Elab.async false
set_option linter.all false
set_option pp.maxSteps 1500
set_option maxRecDepth 100000
set_option maxHeartbeats 4000000
namespace VK
open PySem L2
/-! rules for a comprehension's block -/
theorem pg_tupQ {X : Cx} {K : PySem.W.Frag} (hK : X.K = K) {es : List Expr} {k : Nat} {t : TGs} {n : Nat} {pos : Pos} (hc : X.calm = true) (h : PGs X es t)
    (hn : (assignEach es X.env).length = n := by rfl) (hst : (assignEach es X.env).findIdx? (·.1) = none := by rfl) : PG X (.Tuple es k pos) (gTup K n t) := by
  subst hK
  exact pg_tup hc h hn hst
theorem sl_tupAQ {X : Cx} {K : PySem.W.Frag} (hK : X.K = K) : SlR X (rSlA K) := by
  subst hK
  exact sl_tupA
/-- lines behind each other -/
theorem cat_linesB {K : PySem.W.Frag} {H : Hp} {a b : Addr} {xs ys : List Str} {Q : VK} (hx : SqT K H a (xs.map V.str)) (hy : SqT K H b (ys.map V.str)) (hl : xs.length + ys.length ≤ 10000000) (k : ∀ H' p, Same H H' → SqT K H' p ((xs ++ ys).map V.str) → Q (.ref p) H') : rCatA K (.ref a) (.ref b) H Q :=
  cat_tupK hx hy (by rw [List.length_map, List.length_map]; exact Nat.le_trans hl (by decide)) fun H' p s q => k H' p s (by rw [List.map_append]; exact q)
/-- the last item -/
theorem ix_last {xs : List V} {v : V} : ixN (xs ++ [v]).length (-1) = some xs.length := by
  unfold ixN
  rw [List.length_append]
  simp
  omega
theorem at_last {xs : List V} {v : V} : atI (xs ++ [v]) (-1) = some v := by
  unfold atI
  rw [ix_last]
  simp
theorem set_last {α : Type} {xs : List α} {v w : α} : (xs ++ [v]).set xs.length w = xs ++ [w] := by
  rw [List.set_append]
  simp
theorem at_head {x : V} {r : List V} : atI (x :: r) 0 = some x := by
  unfold atI ixN
  rw [List.length_cons, if_pos (Int.le_refl 0), if_pos (by omega)]
  rfl
end VK
end

section
set_option Elab.async false
set_option linter.all false
set_option pp.maxSteps 1500
set_option maxRecDepth 100000
set_option maxHeartbeats 4000000
namespace VK
open PySem L2
/-- the last sign -/
theorem cutS_last (x : Str) : decide (V.str (cutS x (some (-1)) none) = V.str ("\n" : Str)) = decide ((x.cps.toList).getLast? = some 10) := by
  have lx : x.length = x.cps.toList.length := (Array.length_toList).symm
  have e0 : cutS x (some (-1)) none = mkS (x.cps.toList.drop (x.cps.toList.length - 1)) := by
    unfold cutS
    rw [HT.sIx_none, lx]
    have e1 : HT.sIx x.cps.toList.length 0 (some (-1)) = x.cps.toList.length - 1 := by
      unfold HT.sIx
      simp
      omega
    rw [e1, List.take_of_length_le]
    rw [List.length_drop]
    omega
  rw [e0]
  rcases List.eq_nil_or_concat x.cps.toList with e | ⟨p, c, e⟩
  · rw [e]; decide +kernel
  · rw [e, List.concat_eq_append]
    have e2 : (p ++ [c]).drop ((p ++ [c]).length - 1) = [c] := by
      rw [List.length_append, List.length_singleton, Nat.add_sub_cancel, List.drop_append_of_le_length (Nat.le_refl _), List.drop_length]; rfl
    rw [e2, List.getLast?_append]
    have e3 : (V.str (mkS [c]) = V.str ("\n" : Str)) ↔ c = 10 := by
      constructor
      · intro h
        have h2 : [c] = [10] := congrArg (fun z : Str => z.cps.toList) (V.str.inj h)
        injection h2
      · rintro rfl; rfl
    by_cases h : c = 10
    · rw [decide_eq_true (e3.mpr h), decide_eq_true]
      simp [h]
    · rw [decide_eq_false (fun q => h (e3.mp q)), decide_eq_false]
      simp [h]
theorem endL_yes {x : Str} (h : x.cps.toList.getLast? = some 10) : endL x = x := by
  unfold endL
  rw [if_pos h]
theorem endL_no {x : Str} (h : ¬ x.cps.toList.getLast? = some 10) : endL x = x ++ ("\n" : Str) := by
  unfold endL
  rw [if_neg h]
  refine _root_.TL.ext_tl ?_
  show x.cps.toList ++ [10] = (x.cps ++ #[10]).toList
  simp
theorem endL_len (x : Str) : (endL x).length ≤ x.length + 1 := by
  by_cases h : x.cps.toList.getLast? = some 10
  · rw [endL_yes h]; omega
  · rw [endL_no h]
    show (x.cps ++ #[10]).size ≤ x.cps.size + 1
    rw [Array.size_append]
    exact Nat.le_refl _
def spEnded (K : PySem.W.Frag) : Sp := fun vs H Q _ => ∃ (a : Addr) (ls : List Str), vs = [.ref a] ∧ SqT K H a (ls.map V.str) ∧ ls.length ≤ 10000000 ∧ (∀ x ∈ ls, x.length ≤ 1000) ∧
  ∀ (H' : Hp) (p : Addr), Same H H' → SqT K H' p ((endF ls).map V.str) → Q (.ref p) H'
end VK
end

section
set_option Elab.async false
set_option linter.all false
set_option pp.maxSteps 1500
set_option maxRecDepth 100000
set_option maxHeartbeats 4000000
namespace VK
open PySem L2
theorem cat_new {K : PySem.W.Frag} {H : Hp} {q t : Addr} {xs : List Str} {m : Str} {Q : VK} (hx : SqT K H q (xs.map V.str)) (ht : H t = none) (hl : xs.length ≤ 9000000) (k : ∀ H' p, Same H H' → SqT K H' p ((xs ++ [m]).map V.str) → Q (.ref p) H') : rCatA K (.ref q) (.ref t) (upd H t (.tup [.str m])) Q :=
  cat_linesB (ys := [m]) ((same_new ht).seqT hx) (.inl (.inl upd_same)) (by show xs.length + 1 ≤ _; omega) fun H' p s h => k H' p ((same_new ht).trans s) h
theorem endF_len (ls : List Str) : (endF ls).length = ls.length := List.length_map ..
theorem endF_sz {ls : List Str} {n : Nat} (h : ∀ x ∈ ls, x.length ≤ n) : ∀ x ∈ endF ls, x.length ≤ n + 1 := fun x hx => by
  obtain ⟨y, hy, rfl⟩ := List.mem_map.mp hx
  exact Nat.le_trans (endL_len y) (Nat.succ_le_succ (h y hy))
def mk0 (n : Str) : Str := ("<<<<<<< " : Str) ++ n ++ ("\n" : Str)
def mk1 : Str := "||||||| base\n"
def mk2 : Str := "=======\n"
def mk3 (n : Str) : Str := (">>>>>>> " : Str) ++ n ++ ("\n" : Str)
/-- all lines of a part are short -/
def shP (n : Nat) : Part → Prop
  | .same ls => ∀ x ∈ ls, x.length ≤ n
  | .clash b o t => (∀ x ∈ b, x.length ≤ n) ∧ (∀ x ∈ o, x.length ≤ n) ∧ ∀ x ∈ t, x.length ≤ n
abbrev mkd (n0 n1 : Str) (found : List Str) (ps : List Part) : List Str := markF (mk0 n0) mk1 mk2 (mk3 n1) found ps
theorem app_len (a b : Str) : (a ++ b).length = a.length + b.length := by
  show (a.cps ++ b.cps).size = _
  rw [Array.size_append]; rfl
def spMarked (K : PySem.W.Frag) : Sp := fun vs H Q _ => ∃ (a nm : Addr) (ps : List Part) (n0 n1 : Str), vs = [.ref a, .ref nm] ∧ Dp K H (.ref a) (partsD ps) ∧ SqT K H nm [.str n0, .str n1] ∧ n0.length ≤ 50 ∧ n1.length ≤ 50 ∧ ps.length ≤ 100 ∧ (∀ p ∈ ps, plP p ≤ 20000) ∧ (∀ p ∈ ps, shP 100 p) ∧
  ∀ (H' : Hp) (p : Addr), Same H H' → SqT K H' p ((mkd n0 n1 [] ps).map V.str) → Q (.ref p) H'
theorem mk_len {n : Str} (h : n.length ≤ 50) : (mk0 n).length ≤ 100 ∧ mk1.length ≤ 100 ∧ mk2.length ≤ 100 ∧ (mk3 n).length ≤ 100 := by
  have e1 : ("<<<<<<< " : Str).length = 8 := by decide +kernel
  have e2 : (">>>>>>> " : Str).length = 8 := by decide +kernel
  have e3 : ("\n" : Str).length = 1 := by decide +kernel
  refine ⟨?_, by decide +kernel, by decide +kernel, ?_⟩
  · unfold mk0
    rw [app_len, app_len, e1, e3]; omega
  · unfold mk3
    rw [app_len, app_len, e2, e3]; omega
end VK
end

section
set_option Elab.async false
set_option linter.all false
set_option pp.maxSteps 1500
set_option maxRecDepth 100000
set_option maxHeartbeats 4000000
/-! as KGen, where the element reads tuples -/
namespace VK
open PySem PySem.Spec PyProof.Rows L2
def trB (l : List Bool) (j : Nat) : Bool := l.getD j false
theorem trB_some {l : List Bool} {j : Nat} {b : Bool} (h : l[j]? = some b) : trB l j = b := by
  unfold trB
  rw [List.getD_eq_getElem?_getD, h]; rfl
theorem all_trB (l : List Bool) : (List.range l.length).all (trB l) = l.all id := by
  rw [Bool.eq_iff_iff, List.all_eq_true, List.all_eq_true]
  constructor
  · intro h b hb
    obtain ⟨j, hj, e⟩ := List.getElem_of_mem hb
    have q := h j (List.mem_range.mpr hj)
    rw [trB_some (List.getElem?_eq_getElem hj), e] at q
    exact q
  · intro h j hj
    have hj' := List.mem_range.mp hj
    rw [trB_some (List.getElem?_eq_getElem hj')]
    exact h _ (List.getElem_mem hj')
def ReadyB (X : Cx) (pins : List (Addr × Obj)) (σ : L2.St) (H1 : Hp) (P : Addr) (bs : List Bool) (g : Addr) (s5 : Shared) : Prop :=
  ∃ (fp wr : List Addr) (G : Array GenState → Array GenState → Prop) (F : Nat → Value → Prop) (St : Nat → Shared → Prop),
    WalksS X.prog X.w X.A.in1 g fp wr G bs.length F St ∧ St 0 s5 ∧ TruthT X.prog X.w X.A.in1 F (trB bs) ∧
    ∀ s', Moved wr G s5 s' → ∃ H2, GxR.Tabbed P H1 H2 ∧ Inv X pins σ H2 s'
/-- the element: of an item v with Pz v b a value of the truth b; the tuples that stood stand -/
def EltT (prog : Program) (w : World) (K : PySem.W.Frag) (mg : Str → Option Value) (scope : Scope) (x : Str) (elt : Expr) (Pz : Hp → V → Bool → Prop) : Prop :=
  ∀ (H1 : Hp) (bv : Bool) (cenv : Env) (A' : Around) (E' : Value → Shared → Prop) (v : V) (u : Value) (s₂ : Shared) (m₂ : Str → Option Value), cenv.scope = scope → Pz H1 v bv → RelV v u → GEnv mg cenv s₂ → s₂.heap.Ns cenv.locals m₂ → m₂ x = some u →
    (∀ (b : Addr) (zs : List V), SqT K H1 b zs → ∃ its : List Value, Vals zs its ∧ s₂.heap.IsTuple b its.toArray) →
    wpAny (model prog w) A' (eval elt cenv) (fun y s₃ => Tru prog w y bv ∧ Keeps s₂ s₃) E' s₂
section
variable {X : Cx} {pins : List (Addr × Obj)} {σ : L2.St} {H : Hp} {s : Shared}
theorem gen_tupT {c P : Addr} {elt iter : Expr} {x : Str} {px gpos : Pos} {scope : Scope} {Pz : Hp → V → Bool → Prop} {te : TE} {k : Nat} {Q' : Value → Shared → Prop} {R : List Bool → Hp → Prop}
    (hr : Room k X.A) (TB : GxR.TabB X.base X.mg c P) (hcode : X.env.code = .ref c) (S : GxR.GenS X.env scope x) (hi : PE X iter te) (hel : EltT X.prog X.w X.K X.mg scope x elt Pz)
    (hs : ∀ v, genFold iter X.env v = pure v) (I : Inv X pins σ H s) (h : te σ H fun v H1 => ∃ (yl : Addr) (xs : List V) (bs : List Bool), v = .ref yl ∧ SqT X.K H1 yl xs ∧ bs.length = xs.length ∧ (∀ (i : Nat) a b, xs[i]? = some a → bs[i]? = some b → Pz H1 a b) ∧ GxR.TabG H1 P ∧ R bs H1)
    (hQ : ∀ bs H1 g s5, R bs H1 → ReadyB X pins σ H1 P bs g s5 → Q' (.ref g) s5) :
    wpAny (model X.prog X.w) X.A (eval (.GeneratorExp elt [⟨.Name x px, iter, [], 0⟩] scope gpos) X.env) Q' X.xe s := by
  refine wpAny_GeneratorExp_walksQ hr.hd S.co (closure_ok S.free) S.cell S.dot S.loc S.kind (by have := hr.dp; omega) ?_ hs
  refine thn (hi.run pins s σ H _ I h) fun xv s1 ⟨v, H1, I1, r1, q1⟩ => ?_
  obtain ⟨yl, xs, bs, rfl, hyl, hbl, hPz, ⟨ps, hP, ht⟩, q1⟩ := q1
  obtain rfl : xv = Value.ref yl := r1
  obtain ⟨its, rv, hl, hz⟩ := I1.tuple hyl
  have hIL : s1.heap.IsTuple yl its.toArray := hl
  have hlen : its.length = xs.length := rv.length.symm
  have hat : ∀ (i : Nat) (v : Value), its.toArray[i]? = some v → ∃ a : V, xs[i]? = some a ∧ RelV a v := fun i v hv => by
    have hv2 : its[i]? = some v := by simpa using hv
    have hi2 : i < its.length := (List.getElem?_eq_some_iff.mp hv2).1
    obtain ⟨a, ha⟩ : ∃ a, xs[i]? = some a := ⟨xs[i]'(by omega), List.getElem?_eq_getElem _⟩
    obtain ⟨u, hu, ru⟩ := rv.get ha
    rw [hv2] at hu
    cases hu
    exact ⟨a, ha, ru⟩
  refine wpAny_pyIter_tuple hIL ?_
  generalize ho : ({ cls := .type "tuple_iterator", data := .fields #[.ref yl, .int 0 0] } : Obj) = o
  have hitr : (s1.heap.push o).IsTupleIter s1.heap.objs.size yl 0 := by
    subst ho
    exact ⟨_, Heap.get?_push_size _ rfl, rfl, rfl⟩
  have hylt : yl < s1.heap.objs.size := by
    obtain ⟨_, e, _⟩ := _root_.id hIL
    exact Heap.lt_size e
  have hPs : s1.heap.get? P = some { cls := .none, data := .fields ps } := I1.hok P _ hP
  have hPlt : P < s1.heap.objs.size := Heap.lt_size hPs
  have hP2 : (s1.heap.push o).get? P = some { cls := .none, data := .fields ps } := Heap.get?_push_of_some _ hPs
  have cd : PySem.W.CodeHd (s1.heap.push o) c P := TB.code.keeps fun b u e => Heap.get?_push_of_some _ (I1.bk b u e)
  have lim2 : (s1.heap.push o).NoLimit := I1.nolimit.push o
  obtain ⟨mb, hb1, hb2⟩ := I1.mod.blt
  have nsP : ∀ {a : Addr} {m : Str → Option Value}, X.base.Ns a m → a ≠ P := fun {a m} hn e => by
    obtain ⟨o', es, ep, ho', hd, _⟩ := hn
    have := I1.bk _ _ ho'
    rw [e, hPs] at this
    cases this
    cases hd
  have cont : ∀ (code : Value) (h3 : Heap) (tk : Nat) (ps' : Array Value), Heap.ExtBut P (s1.heap.push o) h3 → (s1.heap.push o).objs.size ≤ h3.objs.size → h3.get? P = some { cls := .none, data := .fields ps' } → (∃ more, ps' = ps ++ more) → TriplesOk ps'.toList →
      wpAny (model X.prog X.w) X.A (builtinsFor X.env.globals X.env.builtins) (fun bi s₄ =>
        ∃ Ia fp wr n₀ Pf St₀ pz F, Value.ref s1.heap.objs.size = .ref Ia ∧ (∀ A' : Around, A'.handled = none → Walks X.prog X.w A' Ia fp wr n₀ Pf St₀) ∧ St₀ 0 s₄.heap ∧ (∀ b ∈ fp, b < s₄.heap.objs.size) ∧ s₄.heap.NoLimit ∧ cStatics ∉ wr ∧
          (∀ href : Heap, (∀ b o, s₄.heap.get? b = some o → href.get? b = some o) →
            QuietGen X.prog X.w (genEnv scope (cloFrom X.env.cells scope.names []) s₄.heap.objs.size code bi X.env) x [] elt (List.range s₄.heap.objs.size) wr Pf pz F href) ∧
          (∀ a h₅ tk gs, gs.bare = true → s₄.heap.objs.size < a → h₅.objs.size = a + 1 → (∀ b o, s₄.heap.get? b = some o → h₅.get? b = some o) →
            WalksS X.prog X.w X.A.in4 a (a :: s₄.heap.objs.size :: List.range s₄.heap.objs.size) (s₄.heap.objs.size :: wr) (GenOnlyQ s₄.gens.size) (passing pz n₀ 0).length
              (fun j y => ∃ i, (passing pz n₀ 0)[j]? = some i ∧ F i y) (GenAt X.prog X.w X.A.in4 a s₄.gens.size s₄.heap.objs.size (List.range s₄.heap.objs.size) wr pz n₀ F) →
            GenAt X.prog X.w X.A.in4 a s₄.gens.size s₄.heap.objs.size (List.range s₄.heap.objs.size) wr pz n₀ F 0 { s₄ with gens := s₄.gens.push gs, toks := tk, heap := h₅ } →
            Q' (.ref a) { s₄ with gens := s₄.gens.push gs, toks := tk, heap := h₅ })) X.xe { s1 with heap := h3, toks := tk } := by
    intro code h3 tk ps' hx hsz hP3 hmore ht3
    obtain ⟨bm, ob, e1, e2, e3, e4, e5, e6, e7, e8⟩ := TB.bm
    have hcP : cStatics ≠ P := fun e => by
      obtain ⟨_, hns, _⟩ := I1.nolimit
      obtain ⟨o', es, ep, ho, hd, _⟩ := hns
      rw [e, hPs] at ho
      cases ho
      cases hd
    have hcl : cStatics < s1.heap.objs.size := let ⟨_, hns, _⟩ := I1.nolimit; hns.lt
    have sz2 : (s1.heap.push o).objs.size = s1.heap.objs.size + 1 := Heap.size_push ..
    have keep3 : ∀ b u, b ≠ P → s1.heap.get? b = some u → h3.get? b = some u := fun b u hb e => hx b u hb (Heap.get?_push_of_some _ e)
    refine wpAny_builtinsFor (m := X.mg) (by rw [I1.ok.glob]; exact ((I1.mod.glob.keeps I1.bk).push o).extBut hx TB.gP) e1 e2 (keep3 _ _ e4 (I1.bk _ _ e5)) e6 e7 e8 ?_
    have hylP : yl ≠ P := fun z => by
      obtain ⟨_, e, hc1, _, hd1⟩ := _root_.id hIL
      rw [z, hPs] at e
      cases e
      cases hd1
    have hIL3 : h3.IsTuple yl its.toArray := by
      obtain ⟨ob, e, r⟩ := _root_.id hIL
      exact ⟨ob, keep3 _ _ hylP e, r⟩
    have hItr3 : h3.IsTupleIter s1.heap.objs.size yl 0 := hitr.at fun u e => hx _ u (Nat.ne_of_gt hPlt) e
    refine ⟨s1.heap.objs.size, [s1.heap.objs.size, yl], [s1.heap.objs.size], its.toArray.size, (fun i v => its.toArray[i]? = some v), (fun i h => h.IsTupleIter s1.heap.objs.size yl i ∧ h.IsTuple yl its.toArray), (fun _ => true),
      (fun i y => ∃ b : Bool, bs[i]? = some b ∧ Tru X.prog X.w y b), rfl, (fun A' hA => Walks.tuple hA _ _ (Nat.ne_of_lt hylt) _), ⟨hItr3, hIL3⟩, ?_, lim2.extBut hx hcP, ?_, ?_, ?_⟩
    · intro b hb
      rcases List.mem_cons.mp hb with z | z
      · rw [z]
        show s1.heap.objs.size < h3.objs.size
        omega
      · rcases List.mem_cons.mp z with z | z
        · rw [z]
          have e9 : s1.heap.objs.size ≤ h3.objs.size := by omega
          exact Nat.lt_of_lt_of_le hylt e9
        · cases z
    · intro z
      rcases List.mem_cons.mp z with z | z
      · exact Nat.ne_of_lt hcl z
      · cases z
    · intro href hhref
      refine ⟨fun A' E' i v s₂ m₂ hA hPv hn hm hk => ?_, fun A' E' i v s₂ m₂ hA hPv hp hn hm hk => ?_⟩
      · simp only [List.forIn_nil]
        exact wpAny_pure ⟨rfl, GxR.keeps_refl _⟩
      · obtain ⟨a, ha, ra⟩ := hat i v hPv
        have nsK : ∀ {a : Addr} {m : Str → Option Value}, X.base.Ns a m → s₂.heap.Ns a m := fun {a m} hn0 => by
          have nP := nsP hn0
          obtain ⟨o', es, ep, ho', r⟩ := hn0
          have e1 := I1.bk _ _ ho'
          have hl := Heap.lt_size e1
          have e2 := hhref _ _ (keep3 _ _ nP e1)
          refine ⟨o', es, ep, hk a (List.mem_range.mpr ?_) ?_ _ e2, r⟩
          · have e9 : s1.heap.objs.size ≤ h3.objs.size := by omega
            exact Nat.lt_of_lt_of_le hl e9
          · intro z
            rcases List.mem_cons.mp z with z | z
            · rw [z] at hl; exact Nat.lt_irrefl _ hl
            · cases z
        have ge : GEnv X.mg (genEnv scope (cloFrom X.env.cells scope.names []) h3.objs.size code builtinsNs X.env) s₂ :=
          ⟨S.kind, by show s₂.heap.Ns X.env.globals X.mg; rw [I1.ok.glob]; exact nsK I1.mod.glob, mb, nsK hb1, hb2⟩
        obtain ⟨b0, hb0⟩ : ∃ b0, bs[i]? = some b0 := ⟨bs[i]'(by have := (List.getElem?_eq_some_iff.mp ha).1; omega), List.getElem?_eq_getElem _⟩
        have TT : ∀ (b : Addr) (zs : List V), SqT X.K H1 b zs → ∃ its : List Value, Vals zs its ∧ s₂.heap.IsTuple b its.toArray := fun b zs q => by
          obtain ⟨its2, rv2, hl2, _⟩ := I1.tuple q
          have nbP : b ≠ P := fun z => by
            obtain ⟨_, e, hc1, _, hd1⟩ := _root_.id hl2
            rw [z, hPs] at e
            cases e
            cases hd1
          obtain ⟨ob, e, r⟩ := hl2
          have hl := Heap.lt_size e
          refine ⟨its2, rv2, ob, hk b (List.mem_range.mpr ?_) ?_ _ (hhref _ _ (keep3 _ _ nbP e)), r⟩
          · have e9 : s1.heap.objs.size ≤ h3.objs.size := by omega
            exact Nat.lt_of_lt_of_le hl e9
          · intro z
            rcases List.mem_cons.mp z with z | z
            · rw [z] at hl; exact Nat.lt_irrefl _ hl
            · cases z
        refine wpAny_mono (hel H1 b0 _ A' E' a v s₂ m₂ rfl (hPz i a b0 ha hb0) ra ge hn hm TT) (fun y s3 r => ?_) fun _ _ e => e
        exact ⟨⟨b0, hb0, r.1⟩, r.2⟩
    · intro g h5 tk5 gs hgb hag hsz5 hk5 W5 hgat
      simp only [GxR.passing_true, List.length_range] at W5
      have hn5 : its.toArray.size = bs.length := by rw [List.size_toArray, hlen, hbl]
      rw [hn5] at W5 hgat
      refine hQ bs H1 g _ q1 ⟨_, _, _, _, _, W5.in4_1, hgat, ?_, fun s' hm => ?_⟩
      · intro j v sj Qj Ej hv hQj
        obtain ⟨i, hij, b, ha, e⟩ := hv
        obtain ⟨hj, ej⟩ := List.getElem?_eq_some_iff.mp hij
        rw [List.getElem_range] at ej
        subst ej
        rw [trB_some ha] at hQj
        exact e _ _ _ _ hQj
      · obtain ⟨more, em⟩ := hmore
        have nwr : ∀ b u, s1.heap.get? b = some u → b ∉ h3.objs.size :: [s1.heap.objs.size] := fun b u e hb => by
          have hl := Heap.lt_size e
          rcases List.mem_cons.mp hb with z | z
          · rw [z] at hl
            have h9 : (h3.objs.size : Nat) < s1.heap.objs.size := hl
            omega
          · rcases List.mem_cons.mp z with z | z
            · rw [z] at hl
              exact Nat.lt_irrefl _ hl
            · cases z
        have J := GxR.inv_tab (more := more) (h' := s'.heap) (g' := s'.gens) (d' := s'.drawn) (t' := s'.toks) I1 hP (fun b u hb e => hm.heap b u (nwr b u e) (hk5 b u (keep3 b u hb e)))
          (by rw [← em]; exact hm.heap P _ (nwr P _ hPs) (hk5 P _ hP3)) (AllBare.movedS (I1.bare.push hgb) hm)
        rw [GxR.sh_eta s1 s' hm.os] at J
        refine ⟨upd H1 P (.tbl (ps ++ more)), ⟨⟨ps ++ more, upd_same, by rw [← em]; exact ht3⟩, fun b hb => upd_ne hb⟩, J⟩
  refine ⟨lim2, ?_⟩
  cases hf : codeAmong gpos ps.toList with
  | none =>
    refine wpAny_genexprCodeX hcode (cd.code hP2 ht) (cd.tab hP2) hf fun c' h' tk hx hge hlt hco' _ htab' _ => ?_
    obtain ⟨o1, vs, f1, tf, fl, tg, inF, tx, tt, op, _, _, _, _, _, _, _, _, _, htr, _⟩ := hco'
    exact cont _ h' tk _ hx (Nat.le_trans hge (Nat.le_of_lt hlt)) htab'.2 ⟨_, rfl⟩ htr
  | some cv =>
    refine wpAny_genexprCode_hit hcode (cd.code hP2 ht) hf ?_
    exact cont cv (s1.heap.push o) s1.toks ps (Heap.ExtBut.refl _ _) (Nat.le_refl _) hP2 ⟨#[], by simp⟩ ht
def tAllT (K : PySem.W.Frag) (P : Addr) (Pz : Hp → V → Bool → Prop) (te : TE) : TE := fun σ H Q => te σ H fun v H1 => ∃ (yl : Addr) (xs : List V) (bs : List Bool), v = .ref yl ∧ SqT K H1 yl xs ∧ bs.length = xs.length ∧ (∀ (i : Nat) a b, xs[i]? = some a → bs[i]? = some b → Pz H1 a b) ∧ GxR.TabG H1 P ∧ ∀ H2, GxR.Tabbed P H1 H2 → Q (.bl (bs.all id)) H2
theorem pe_allT {c P : Addr} {elt iter : Expr} {x : Str} {px p pos gpos : Pos} {scope : Scope} {Pz : Hp → V → Bool → Prop} {te : TE} {k : Nat}
    (hr : Room k X.A) (hg : Gl X "all") (hm : X.mg "all" = none) (hb : bootBuiltins "all" = some (.builtin "all")) (TB : GxR.TabB X.base X.mg c P) (hcode : X.env.code = .ref c) (S : GxR.GenS X.env scope x) (hi : PE X iter te) (hel : EltT X.prog X.w X.K X.mg scope x elt Pz)
    (hs : ∀ v, genFold iter X.env v = pure v)
    (he : starEach [.GeneratorExp elt [⟨.Name x px, iter, [], 0⟩] scope gpos] X.env = (false, eval (.GeneratorExp elt [⟨.Name x px, iter, [], 0⟩] scope gpos) X.env) :: starEach [] X.env := by rfl) :
    PE X (.Call (.Name "all" p) [.GeneratorExp elt [⟨.Name x px, iter, [], 0⟩] scope gpos] [] pos) (tAllT X.K P Pz te) := by
  refine ⟨fun pins s σ H Q I h => ?_⟩
  refine wpAny_Call_Name_kw (ld_blt I hg hm hb ?_)
  refine PyProof.Rows.callWith_builtin1 ?_ he (by rfl)
  rw [he]
  show wpAny _ _ (spliced ((false, eval (.GeneratorExp elt [⟨.Name x px, iter, [], 0⟩] scope gpos) X.env) :: backTo pos (starEach [] X.env))) _ _ s
  refine Calls.spliced_cons (gen_tupT (R := fun bs H1 => ∀ H2, GxR.Tabbed P H1 H2 → Q (.bl (bs.all id)) H2) hr TB hcode S hi hel hs I h fun bs H1 g s5 hR hG => ?_)
  obtain ⟨fp, wr, G, F, St, W, hst, htr, hI⟩ := hG
  refine Calls.spliced_nil ?_
  refine call_all_T (W.self 0 _ _ _ hst ⟨g, fp, wr, G, _, F, St, _, rfl, W, hst, htr, fun s' hmv => ?_⟩)
  obtain ⟨H2, hT, J⟩ := hI s' hmv
  refine ⟨.bl _, H2, J, rfl, ?_⟩
  rw [all_trB bs]
  exact hR H2 hT
end
/-- x[0] == 'k', x a tuple whose first item is a text -/
def ItemT (K : PySem.W.Frag) (k : Str) : Hp → V → Bool → Prop := fun H v b => ∃ (a : Addr) (t : Str) (r : List V), v = .ref a ∧ SqT K H a (.str t :: r) ∧ r.length ≤ 100 ∧ b = decide (t = k)
section
variable {prog : Program} {w : World} {K : PySem.W.Frag} {mg : Str → Option Value} {scope : Scope} {x : Str}
theorem elt_tag {k : Str} {j j2 : Nat} {p1 p2 p3 p4 p5 : Pos} (hk : scope.kind = .function) (hl : scope.names.lookup x = some .local) (hd : (x == ("__debug__" : Str)) = false := by decide) :
    EltT prog w K mg scope x (.Compare (.Subscript (.Name x p1) (.Constant (.int 0) j2 p2) p3) [.Eq] [.Constant (.str k) j p4] p5) (ItemT K k) := by
  intro H1 bv cenv A' E' v u s₂ m₂ hs hz hr ge hn hm TT
  obtain ⟨a, g, r, rfl, ha, hrl, rfl⟩ := hz
  obtain rfl : u = Value.ref a := hr
  obtain ⟨its, rv, pl⟩ := TT a _ ha
  cases rv with
  | cons r0 rr =>
    obtain ⟨t, rfl⟩ := r0
    have hll := rr.length
    have hn63 := line63
    refine wpAny_Compare1 ?_
    refine Subscript_ ?_
    refine wpAny_Name (wpAny_loadName_local (by rw [hs]; exact hk) (show cenv.scope.names.lookup x = some .local by rw [hs]; exact hl) hn hm ?_) hd
    refine wpAny_Constant_int ?_
    have hix : seqIndex? 0 (r.length + 1) = some 0 := by
      refine (ixN_seq ?_).1
      unfold ixN
      rw [if_pos (Int.le_refl 0), if_pos (by omega)]
      rfl
    refine tail_any pl.typeIs slot_tuple_getitem.lookup (getItem_tuple (k := 0) (j := 0) (x := .str (g) t) pl (by decide) (by decide) (by rw [List.size_toArray, List.length_cons, ← hll]; exact hix) (by simp) ?_) (by with_unfolding_all rfl)
    refine Calls.Constant_str ?_
    refine PySem.P.eq_str ⟨?_, _, _, rfl, fun b o q => q⟩
    have e : (g.cps.toList == k.cps.toList) = decide (g = k) := by
      by_cases z : g = k
      · rw [decide_eq_true z, z]; simp
      · rw [decide_eq_false z]
        exact beq_false_of_ne fun q => z (_root_.TL.ext_tl q)
    show Tru prog w _ (decide (g = k))
    rw [← e]
    exact tru_bool _
end
end VK
end

section
set_option Elab.async false
set_option linter.all false
set_option pp.maxSteps 1500
set_option maxRecDepth 100000
set_option maxHeartbeats 4000000
/-! enumerate(tuple), after HandS.Iter's enumerate(list) -/
namespace PySem
open Sem (wp)
open AutoSeq1 (wpAny_loadPart')
theorem meets_enumerate_newT (l : Addr) (items : Array Value) (n : Nat) (dct : Option Addr) (sl : Array (Option Value)) :
    Meets (Builtin.«enumerate.__new__» ⟨[.type "enumerate", .ref l], []⟩) (fun _ R s => s.heap.get? l = some { cls := .type "tuple", dict := dct, data := .seq items n, slots := sl } ∧
      R (.ok (.ret (.ref (s.heap.push { cls := .type "tuple_iterator", data := .fields #[.ref l, .int 0 0] }).objs.size)))
        { s with heap := (s.heap.push { cls := .type "tuple_iterator", data := .fields #[.ref l, .int 0 0] }).push { cls := .type "enumerate", data := .fields #[.none, .bool false, .ref s.heap.objs.size, rawInt 0, .none, .none] } }) :=
  .of_wp fun prog w A R s h => by
    obtain ⟨hp, g, d, tk, os⟩ := s; obtain ⟨hl, h⟩ := h
    have hsub := sub_enumerate
    have hL : Heap.IsTuple (Shared.heap ⟨hp, g, d, tk, os⟩) l items := ⟨_, hl, rfl, n, rfl⟩
    wp_walk using wpAny_loadPart' hl
    refine wpAny_stack_any fun st => wpAny_pure ?_
    split
    · rename_i c _ _ _ _ _
      cases (c == Value.type "enumerate")
      · wp_walk using wpAny_loadPart' hl, wpAny_pyIter_tuple hL
        exact ⟨_, rfl, h⟩
      · wp_walk using wpAny_loadPart' hl, wpAny_pyIter_tuple hL
        exact ⟨_, rfl, h⟩
    · wp_walk using wpAny_loadPart' hl, wpAny_pyIter_tuple hL
      exact ⟨_, rfl, h⟩
section
variable {prog : Program} {w : World} {A : Around} {E : Value → Shared → Prop} {s : Shared}
theorem call_enumerate_tuple {l : Addr} {items : Array Value} {Q : Value → Shared → Prop} (hL : s.heap.IsTuple l items)
    (h : ∀ h', IsEnum h' (s.heap.objs.size + 1) s.heap.objs.size 0 .none → h'.IsTupleIter s.heap.objs.size l 0 → h'.objs.size = s.heap.objs.size + 2 →
      (∀ b o, s.heap.get? b = some o → h'.get? b = some o) → Q (.ref (s.heap.objs.size + 1)) { s with heap := h' }) :
    wpAny (model prog w) A (call (.type "enumerate") [.ref l]) Q E s := by
  obtain ⟨⟨c, dct, dt, sl⟩, hl, hc, n, hd⟩ := hL
  replace hc : c = .type "tuple" := hc
  replace hd : dt = .seq items n := hd
  subst hc hd
  refine callType_new F.called_enumerate (by decide) (F.typeCall_enumerate_1 _) (F.newCall_enumerate_1 _) (fun obj => F.args_object_init_2 obj _) F.entry_enumerate_new
    (meets_enumerate_newT l items n dct sl) ⟨hl, ?_⟩
  have hz : (s.heap.push { cls := .type "tuple_iterator", data := .fields #[.ref l, .int 0 0] }).objs.size = s.heap.objs.size + 1 := Heap.size_push ..
  show _ ∧ _
  rw [hz]
  have he : IsEnum ((s.heap.push { cls := .type "tuple_iterator", data := .fields #[.ref l, .int 0 0] }).push
      { cls := .type "enumerate", data := .fields #[.none, .bool false, .ref s.heap.objs.size, rawInt 0, .none, .none] }) (s.heap.objs.size + 1) s.heap.objs.size 0 .none := by
    have := Heap.get?_push_size (s.heap.push { cls := .type "tuple_iterator", data := .fields #[.ref l, .int 0 0] })
      (o := { cls := .type "enumerate", data := .fields #[.none, .bool false, .ref s.heap.objs.size, rawInt 0, .none, .none] }) rfl
    rw [hz] at this; exact this
  refine ⟨⟨_, he, rfl⟩, h _ he ⟨_, Heap.get?_push_of_some _ (Heap.get?_push_size _ rfl), rfl, rfl⟩ (by rw [Heap.size_push, hz]) fun b o x => Heap.get?_push_of_some _ (Heap.get?_push_of_some _ x)⟩
end
end PySem
namespace VK
open PySem PySem.Spec PyProof.Rows L2
/-- the tuple at a, each item in a new pair -/
def Itet (K : PySem.W.Frag) (a : Addr) (xs : List V) : It :=
  ⟨fun i H => SqT K H a xs ∧ i < xs.length, fun i H v H' => ∃ T x, v = .ref T ∧ H T = none ∧ H' = upd H T (.tup [.int (i : Nat), x]) ∧ xs[i]? = some x, fun i H => SqT K H a xs ∧ xs.length ≤ i⟩
theorem turn_enumT {P : Program} {w : World} {K : PySem.W.Frag} {elts : List Expr} {kk : Nat} {tpos : Pos} (a e it : Addr) (xs : List V) :
    Turn P w K (.Tuple elts kk tpos) (Itet K a xs) [e, it] e (fun i h => (∃ old, IsEnum h e it ((i : Nat) : Int) old) ∧ h.IsTupleIter it a i ∧ e ≠ it ∧ e ≠ a ∧ a ≠ it ∧ i ≤ xs.length) where
  mem := by simp
  obj := fun i h st b hb => by
    obtain ⟨⟨old, he⟩, ⟨o, ho, hc, hd⟩, _⟩ := st
    have e' : b = e ∨ b = it := by simpa using hb
    rcases e' with z | z
    · rw [z]; exact ⟨_, he, fun v q => nomatch q⟩
    · rw [z]; exact ⟨o, ho, fun v q => by rw [hd] at q; cases q⟩
  keep := fun i h h' st k => let ⟨⟨old, he⟩, hi, r⟩ := st; ⟨⟨old, k e (by simp) _ he⟩, hi.at fun o q => k it (by simp) o q, r⟩
  item := by
    intro X hP hw hK hc i pins s σ H E I hf st hg
    subst hP hw hK
    obtain ⟨⟨old, he⟩, hit, hne, hea, hai, hle⟩ := st
    obtain ⟨hq, hlt⟩ := hg
    obtain ⟨its, rv, p, hz⟩ := I.tuple hq
    have hp : s.heap.IsTuple a its.toArray := p
    have hll := rv.length
    obtain ⟨x, hx⟩ : ∃ x, xs[i]? = some x := ⟨xs[i], List.getElem?_eq_getElem hlt⟩
    obtain ⟨u, hu, ru⟩ := rv.get hx
    have hel : e < s.heap.objs.size := Heap.lt_size he
    have hil : it < s.heap.objs.size := by obtain ⟨_, q, _⟩ := hit; exact Heap.lt_size q
    have hh : X.A.in1.handled = none := I.ok.hd hc
    refine wpAny_pyNext_enum_itemD (Draws.tuple hh it a hai its.toArray) he ⟨hit, hp⟩ (by rw [List.size_toArray, ← hll]; exact hlt) hne (fun z => by
      rcases List.mem_cons.mp z with z | z
      · exact hne z
      · exact hea (List.mem_singleton.mp z)) fun v h' tk hP ho hit' hT hsz hk => ?_
    have ev : v = u := by
      have q : its.toArray[i]? = some v := hP
      have q2 : its[i]? = some v := by simpa using q
      rw [hu] at q2
      exact (Option.some.inj q2).symm
    subst ev
    refine ⟨_, rfl, wpAny_letOwnedTupleGo_enum (s := { s with heap := h', toks := tk + 1 }) ho fun h'' he' sb => ?_⟩
    have hT2 : h''.get? s.heap.objs.size = some { cls := .type "tuple", data := .seq #[.int i tk, v] } := (sb.2 _ (Nat.ne_of_gt hel)).trans hT
    have new : ObjOk X.prog X.w (upd H s.heap.objs.size (.tup [.int (i : Nat), x])) h'' s.heap.objs.size (.tup [.int (i : Nat), x]) :=
      ⟨by show 2 ≤ sizeLine; decide, [.int i tk, v], .cons ⟨_, rfl⟩ (.cons ru .nil), ⟨_, hT2, rfl, _, rfl⟩⟩
    have I1 : Inv X pins σ (upd H s.heap.objs.size (.tup [.int (i : Nat), x])) { s with heap := h'', toks := tk + 1 } :=
      I.turnedNew (ch := [e, it]) (fun b ob hb q => (sb.2 b (fun z => hb (by simp [z]))).trans (hk b ob (fun z => hb (by simp [z])) (fun z => hb (by simp [z])) q)) hf (Nat.le_refl _) new
    refine ⟨.ref s.heap.objs.size, _, I1, rfl, ⟨_, x, rfl, I.hok.fresh (Nat.le_refl _), rfl, hx⟩, ⟨⟨v, ?_⟩, hit'.1.at fun o q => (sb.2 it (Ne.symm hne)).trans q, hne, hea, hai, hlt⟩, fun b hb => ?_⟩
    · have e1 : ((i + 1 : Nat) : Int) = (i : Int) + 1 := by omega
      rw [e1]; exact he'
    · have hb' : b < s.heap.objs.size := by
        have e' : b = e ∨ b = it := by simpa using hb
        rcases e' with z | z
        · rw [z]; exact hel
        · rw [z]; exact hil
      rw [upd_ne (Nat.ne_of_lt hb')]
      exact (hf b hb).1
  done := by
    intro X hP hw hK hc i pins s σ H E I hf st hg
    subst hP hw hK
    obtain ⟨⟨old, he⟩, hit, hne, hea, hai, hle⟩ := st
    obtain ⟨hq, hx⟩ := hg
    obtain ⟨its, rv, p, hz⟩ := I.tuple hq
    have hp : s.heap.IsTuple a its.toArray := p
    have hll := rv.length
    obtain ⟨f0, f1, f2, f3, f4, f5⟩ := hf it (by simp)
    have hh : X.A.in1.handled = none := I.ok.hd hc
    have hi : i = its.toArray.size := by rw [List.size_toArray]; omega
    rw [hi] at hit
    exact wpAny_pyNext_enum_endD (Draws.tuple hh it a hai its.toArray) he ⟨hit, hp⟩ fun h' eb => ⟨rfl, I.turned (t' := s.toks) (fun b o hb q => eb b o hb q) f0 f1 f3 f4 f5⟩
  self := fun A i s Q E st h => let ⟨⟨_, he⟩, _⟩ := st; wpAny_pyIter_enum he h
def iEnumT (K : PySem.W.Frag) (ta : TA) : TI := fun σ H R => ta σ H fun vs H1 => ∃ a xs, vs = [.ref a] ∧ SqT K H1 a xs ∧ R (Itet K a xs) H1
theorem pi_enumT {X : Cx} {e : Expr} {ta : TA} {p pos tpos : Pos} {elts : List Expr} {kk : Nat} (hg : Gl X "enumerate") (hm : X.mg "enumerate" = none) (ha : PA X [e] ta) (hs : starEach [e] X.env = [(false, eval e X.env)] := by rfl) :
    PI X (.Tuple elts kk tpos) (.Call (.Name "enumerate" p) [e] [] pos) (iEnumT X.K ta) := by
  refine ⟨fun pins s σ H R I h => ?_⟩
  refine Call_ (ld_blt I hg hm boot_enumerate (PyProof.Rows.callWith_type1 (thn (ha.run pos pins s σ H _ I h) fun us s1 ⟨vs, H1, I1, r1, q1⟩ => ?_) hs rfl))
  obtain ⟨a, xs, ex, hq, q⟩ := q1
  subst ex
  cases r1 with
  | cons r rr =>
    cases rr
    cases r
    obtain ⟨its, rv, p', hz⟩ := I1.tuple hq
    have hp : s1.heap.IsTuple a its.toArray := p'
    have hal : a < s1.heap.objs.size := by obtain ⟨_, q, _⟩ := hp; exact Heap.lt_size q
    refine call_enumerate_tuple hp fun h' he hit hsz hk => wpAny_pyIter_enum he ?_
    have I2 : Inv X pins σ H1 { s1 with heap := h' } := I1.kept (t' := s1.toks) hk
    refine ⟨s1.heap.objs.size + 1, [s1.heap.objs.size + 1, s1.heap.objs.size], _, _, H1, rfl, I2, turn_enumT a (s1.heap.objs.size + 1) s1.heap.objs.size xs, ⟨⟨.none, he⟩, hit, Nat.succ_ne_self _, Nat.ne_of_gt (Nat.lt_succ_of_lt hal), Nat.ne_of_lt hal, Nat.zero_le _⟩, fun b hb => ?_, q⟩
    have e' : b = s1.heap.objs.size + 1 ∨ b = s1.heap.objs.size := by simpa using hb
    have hle : s1.heap.objs.size ≤ b := by
      rcases e' with z | z
      · rw [z]; exact Nat.le_add_right _ _
      · rw [z]; exact Nat.le_refl _
    exact I1.fpOk hle (I1.hok.fresh hle)
theorem walk_enumT {K : PySem.W.Frag} {a : Addr} {xs : List V} : Walk (Itet K a xs) xs.length (fun H => SqT K H a xs) (fun i H v H' => ∃ T x, v = .ref T ∧ H T = none ∧ H' = upd H T (.tup [.int (i : Nat), x]) ∧ xs[i]? = some x) :=
  ⟨fun _ _ hi h => ⟨h, hi⟩, fun _ h => ⟨h, Nat.le_refl _⟩, fun _ _ _ _ _ _ y => y⟩
end VK
end

section
set_option Elab.async false
set_option linter.all false
set_option pp.maxSteps 1500
set_option maxRecDepth 100000
set_option maxHeartbeats 4000000
/-! sorted of a tuple of triples whose first items are ints, unlike ones for unlike triples; after HandS.SortOrd, HandS.SortRule -/
namespace SrtO
open PySem PyProof.Rows Srt
section
variable {prog : Program} {w : World} {A : Around} {E : Value → Shared → Prop} {s : Shared}
theorem collect_tuple {l : Addr} {vs : List Value} {Q : List Value → Shared → Prop} (hl : s.heap.IsTuple l vs.toArray)
    (h : Q vs { s with heap := (s.heap.push (seqObj "list" #[] 0)).update s.heap.objs.size (Obj.mapSeq (· ++ vs.toArray)) }) (hsz : vs.length ≤ sizeLine := by size_fits) :
    wpAny (model prog w) A (collect (.ref l)) Q E s := by
  obtain ⟨o, ho, hc, n, hd⟩ := id hl
  unfold collect
  refine wpAny_bind (wpAny_runValue (codeAny_builtin entry_proto_collect' ?_))
  show wpAny _ _ (do again (.builtin "list.__iadd__" ⟨[← newList [], .ref l], []⟩)) _ _ s
  refine wpAny_bind (wpAny_newList (wpAny_pure ⟨Code.quiet_builtin _ (by decide +kernel), codeAny_builtin entry_list_iadd' ?_⟩))
  show wpAny _ _ (Builtin.List.listExtendWith (.ref s.heap.objs.size) (.ref l) (.ref s.heap.objs.size)) _ _ { s with heap := s.heap.push (seqObj "list" #[] 0) }
  unfold Builtin.List.listExtendWith
  have ho' : (s.heap.push (seqObj "list" #[] 0)).get? l = some o := Heap.get?_push_of_some _ ho
  refine wpAny_bind (wpAny_typeOf (T := "tuple") ⟨o, ho', hc⟩ ?_)
  have ht : (Value.type "tuple" == Value.type "tuple") = true := by rfl
  rw [if_pos (by rw [ht]; simp)]
  refine wpAny_bind (listItems_at ho' hd ?_)
  refine wpAny_bind (listItems_at (xs := #[]) (n := 0) (Heap.get?_push_size _ rfl) rfl ?_)
  rw [if_neg (by simp)]
  refine wpAny_bind (listUpdate_at (xs := #[]) (n := 0) (Heap.get?_push_size _ rfl) rfl ?_ (Nat.zero_le _) (by show (#[] ++ vs.toArray).size ≤ sizeLine + 1; simp only [Array.size_append, List.size_toArray, List.length_nil]; omega))
  refine wpAny_pure ?_
  show wpAny (model prog w) A (do
      let o ← load s.heap.objs.size
      match o.data with
      | .seq xs _ => pure xs.toList
      | _ => unsupported "internal:collect") Q E { s with heap := (s.heap.push (seqObj "list" #[] 0)).update s.heap.objs.size (Obj.mapSeq (· ++ vs.toArray)) }
  refine wpAny_bind (wpAny_load (get?_update_seq (Heap.get?_push_size _ rfl) _) ?_)
  show wpAny _ _ (pure ((#[] : Array Value) ++ vs.toArray).toList) Q E _
  rw [show ((#[] : Array Value) ++ vs.toArray).toList = vs by simp]
  exact wpAny_pure h
theorem sorted_ordT {l : Addr} {vs : List Value} {ltv : Value → Value → Bool} {Q : Value → Shared → Prop} (O : Swo ltv) (hl : s.heap.IsTuple l vs.toArray) (hz : vs.length ≤ sizeLine)
    (hS : 2 ≤ vs.length → ∀ (h₁ : Heap) (a : Addr), h₁.get? a = some (seqObj "list" vs.toArray 0) → (∀ b o, s.heap.get? b = some o → b ≠ a ∧ h₁.get? b = some o) → SortableO prog w A.in1.in1 { s with heap := h₁ } a vs ltv)
    (h : ∀ out : List Value, Srtd ltv out → Stb ltv out vs → Q (.ref (s.heap.objs.size + 1)) { s with heap := sortedAll s.heap vs out.toArray }) :
    wpAny (model prog w) A (call (.builtin "sorted") [.ref l]) Q E s := by
  refine Calls.call_function_entry kind_sorted plain_sorted entry_sorted (args_sorted1 _) ?_
  unfold Builtin.«sorted»
  refine wpAny_bind (m := checkCount "sorted" 1 1 _) (wpAny_pure ?_)
  refine wpAny_bind (collect_tuple hl ?_ hz)
  refine wpAny_bind (wpAny_newList ?_ hz)
  have hsz : ((s.heap.push (seqObj "list" #[] 0)).update s.heap.objs.size (Obj.mapSeq (· ++ vs.toArray))).objs.size = s.heap.objs.size + 1 := by
    rw [Heap.size_update, size_push']
  have hoL : (((s.heap.push (seqObj "list" #[] 0)).update s.heap.objs.size (Obj.mapSeq (· ++ vs.toArray))).push (seqObj "list" vs.toArray 0)).get? (s.heap.objs.size + 1) = some (seqObj "list" vs.toArray 0) := by
    rw [← hsz]; exact Heap.get?_push_size _ rfl
  have keep : ∀ b o, s.heap.get? b = some o → b ≠ s.heap.objs.size + 1 ∧ (((s.heap.push (seqObj "list" #[] 0)).update s.heap.objs.size (Obj.mapSeq (· ++ vs.toArray))).push (seqObj "list" vs.toArray 0)).get? b = some o := fun b o q => by
    have hlt : b < s.heap.objs.size := Heap.lt_size q
    refine ⟨Nat.ne_of_lt (Nat.lt_succ_of_lt hlt), Heap.get?_push_of_some _ ?_⟩
    rw [Heap.get?_update_ne _ _ _ _ (Nat.ne_of_lt hlt)]
    exact Heap.get?_push_of_some _ q
  show wpAny _ _ _ _ _ { s with heap := ((s.heap.push (seqObj "list" #[] 0)).update s.heap.objs.size (Obj.mapSeq (· ++ vs.toArray))).push (seqObj "list" vs.toArray 0) }
  rw [hsz]
  refine wpAny_bind (wpAny_holding (wpAny_call_entry slot_list_sort ⟨_, hoL, rfl⟩ entry_list_sort (list_sort_ord O hoL hz (fun h2 => hS h2 _ _ hoL keep) fun out hs hb => ⟨_, rfl, ?_⟩) (args_list_sort _)))
  exact wpAny_pure ⟨_, rfl, h out hs hb⟩
def IsTri (h : Heap) (v : Value) (x : Int) : Prop := ∃ a o t g m n, v = .ref a ∧ h.get? a = some o ∧ o.cls = .type "tuple" ∧ o.data = .seq #[.int x t, .ref g, .ref m] n
theorem IsTri.keeps {h h' : Heap} {v : Value} {x : Int} (p : IsTri h v x) (k : ∀ b o, h.get? b = some o → o.cls = .type "tuple" → h'.get? b = some o) : IsTri h' v x := by
  obtain ⟨a, o, t, g, m, n, e, ho, hc, hd⟩ := p
  exact ⟨a, o, t, g, m, n, e, k _ _ ho hc, hc, hd⟩
theorem firstsT_of {h : Heap} : ∀ {vs : List Value}, (∀ v ∈ vs, ∃ x, IsTri h v x) → ∃ fs : List Value, PySem.W.KatTups h vs fs ∧ fs.length = vs.length ∧ ∀ f ∈ fs, ∃ x t, f = Value.int x t
  | [], _ => ⟨[], PySem.W.KatTups.nil, rfl, fun _ hm => by simp at hm⟩
  | v :: vs, x => by
    obtain ⟨fs, k, hl, hi⟩ := firstsT_of (vs := vs) fun u hu => x u (List.mem_cons_of_mem _ hu)
    obtain ⟨y, a, o, t, g, m, n, rfl, ho, hc, hd⟩ := x v (List.mem_cons_self ..)
    refine ⟨.int y t :: fs, PySem.W.KatTups.cons ho hc hd rfl k, by rw [List.length_cons, List.length_cons, hl], fun f hf => ?_⟩
    rcases List.mem_cons.mp hf with rfl | hf
    · exact ⟨y, t, rfl⟩
    · exact hi f hf
abbrev ltI (k : Value → Int) : Value → Value → Bool := fun v u => decide (k v < k u)
theorem swo_int {α : Type} (k : α → Int) : Swo fun v u => decide (k v < k u) := by
  refine ⟨fun x y h => ?_, fun x y z h1 h2 => ?_⟩
  · have a := of_decide_eq_true h
    exact decide_eq_false (by omega)
  · have a := of_decide_eq_false h1
    have b := of_decide_eq_false h2
    exact decide_eq_false (by omega)
theorem tri_cmp {vs : List Value} {k : Value → Int} (hp : ∀ v ∈ vs, IsTri s.heap v (k v)) (hd : ∀ v ∈ vs, ∀ u ∈ vs, v = u ∨ k v ≠ k u) : Cmp prog w A s (tuples' true) (fun p => p.1 ∈ vs) (lt2 (ltI k)) := by
  intro p q hm hm'
  have h1 := hp _ hm
  have h2 := hp _ hm'
  show wpAny (model prog w) A (keyLt' (tuples' true) p.1 q.1) (fun r s' => s' = s ∧ r = decide (k p.1 < k q.1)) (fun _ _ => False) s
  rcases hd _ hm _ hm' with e | e
  · have ek : decide (k p.1 < k q.1) = false := by rw [e]; exact decide_eq_false (Int.lt_irrefl _)
    rw [ek, ← e]
    generalize (k p.1) = x at h1 ⊢
    obtain ⟨a, o, t, g, m, n, e1, ho, hc, hd1⟩ := h1
    rw [e1]
    refine PySem.W.kat_lt ho hd1 ho hd1 ?_
    show PySem.W.KatLex prog w A true (decide (3 < 3)) _ [(.int x t, .int x t), (.ref g, .ref g), (.ref m, .ref m)] 0 s
    refine PySem.W.kat_cons (SeqAt.EqAt.same _ prog w _ _ (PySem.W.kat_yes ?_))
    refine PySem.W.kat_cons (SeqAt.EqAt.same _ prog w _ _ (PySem.W.kat_yes ?_))
    refine PySem.W.kat_cons (SeqAt.EqAt.same _ prog w _ _ (PySem.W.kat_yes ?_))
    exact PySem.W.kat_nil ⟨rfl, rfl⟩
  · generalize (k p.1) = x at h1 e ⊢
    generalize (k q.1) = x' at h2 e ⊢
    obtain ⟨a, o, t, g, m, n, e1, ho, hc, hd1⟩ := h1
    obtain ⟨a', o', t', g', m', n', e2, ho', hc', hd2⟩ := h2
    rw [e1, e2]
    refine PySem.W.kat_lt ho hd1 ho' hd2 ?_
    show PySem.W.KatLex prog w A true (decide (3 < 3)) _ [(.int x t, .int x' t'), (.ref g, .ref g'), (.ref m, .ref m')] 0 s
    refine PySem.W.kat_cons (SeqAt.EqAt.int_int x t x' t' prog w _ _ ?_)
    refine PySem.W.kat_go (fun e3 => ?_) (fun e3 => ?_)
    · exact absurd (by simpa using e3) e
    · exact PySem.W.kat_no (oneLt_int ⟨rfl, rfl⟩)
theorem tri_sortable {a : Addr} {vs : List Value} {k : Value → Int} (h0 : 0 < vs.length) (hp : ∀ v ∈ vs, IsTri s.heap v (k v)) (hd : ∀ v ∈ vs, ∀ u ∈ vs, v = u ∨ k v ≠ k u) (ha : ∀ o, s.heap.get? a = some o → o.cls ≠ .type "tuple") : SortableO prog w A s a vs (ltI k) := by
  intro h' keep
  have hp' : ∀ v ∈ vs, IsTri h' v (k v) := fun v hm => (hp v hm).keeps fun b o e c => keep b o (fun z => by subst z; exact ha o e c) e
  obtain ⟨fs, h1, h2, h3⟩ := firstsT_of fun v hm => ⟨_, hp' v hm⟩
  refine ⟨tuples' true, fun Q E hq => ?_, tri_cmp hp' hd⟩
  refine PySem.W.kat_kind (T := .type "int") h1 (by omega) (fun f hm => ?_) (by rfl) ?_
  · obtain ⟨x, t, rfl⟩ := h3 f hm
    exact PySem.W.Looks.now
  · have e : (Value.type "int" != Value.type "tuple") = true := by first | decide +kernel | rfl | decide
    rw [e]
    exact hq
theorem sorted_tri {l : Addr} {vs : List Value} {k : Value → Int} {Q : Value → Shared → Prop} (hl : s.heap.IsTuple l vs.toArray) (hz : vs.length ≤ sizeLine) (hp : ∀ v ∈ vs, IsTri s.heap v (k v)) (hd : ∀ v ∈ vs, ∀ u ∈ vs, v = u ∨ k v ≠ k u)
    (h : ∀ (h' : Heap) (d : Addr) (out : List Value), Srtd (ltI k) out → Stb (ltI k) out vs → (∀ b o, s.heap.get? b = some o → h'.get? b = some o) → s.heap.objs.size ≤ d → (∃ n, h'.get? d = some (seqObj "list" out.toArray n)) → Q (.ref d) { s with heap := h' }) :
    wpAny (model prog w) A (call (.builtin "sorted") [.ref l]) Q E s := by
  refine sorted_ordT (swo_int k) hl hz (fun h2 h₁ a ha kk => ?_) fun out hs hb => ?_
  · refine tri_sortable (s := { s with heap := h₁ }) (by omega) (fun v hm => (hp v hm).keeps fun b o e _ => (kk b o e).2) hd fun o e => ?_
    have e' : some o = some (seqObj "list" vs.toArray 0) := e.symm.trans ha
    cases e'
    intro c
    exact absurd (Value.type.inj c) (by decide)
  · exact h _ _ out hs hb (fun b o e => sortedAll_old e) (Nat.le_succ _) (sortedAll_at s.heap vs out.toArray)
end
end SrtO
namespace VK
open PySem PySem.Spec PyProof.Rows L2
abbrev ltV (k : V → Int) (x y : V) : Bool := decide (k x < k y)
theorem fun_of {α β : Type} [Inhabited β] : ∀ {xs : List α} {ks : List β}, xs.length = ks.length → (∀ (i j : Nat) (x : α), xs[i]? = some x → xs[j]? = some x → ks[i]? = ks[j]?) → ∃ k : α → β, ks = xs.map k
  | [], ks, hl, _ => ⟨fun _ => default, List.eq_nil_of_length_eq_zero hl.symm⟩
  | x :: xs, [], hl, _ => by simp at hl
  | x :: xs, b :: ks, hl, h => by
    obtain ⟨k, hk⟩ := fun_of (xs := xs) (ks := ks) (by simpa using hl) fun i j y hi hj => by
      have := h (i + 1) (j + 1) y (by simpa using hi) (by simpa using hj)
      simpa using this
    classical
    refine ⟨fun y => if y = x then b else k y, ?_⟩
    rw [List.map_cons, if_pos rfl, hk]
    congr 1
    refine List.map_congr_left fun y hy => ?_
    by_cases e : y = x
    · rw [if_pos e]
      obtain ⟨j, hj, ej⟩ := List.getElem_of_mem hy
      have q := h 0 (j + 1) x rfl (by rw [List.getElem?_cons_succ, List.getElem?_eq_getElem hj, ej, e])
      rw [List.getElem?_cons_zero, List.getElem?_cons_succ, hk, List.getElem?_map, List.getElem?_eq_getElem hj, ej] at q
      exact (Option.some.inj q).symm
    · rw [if_neg e]
/-- sorted(xs), xs a tuple of triples of an int and two objects, the ints unlike -/
def rSortedH (K : PySem.W.Frag) : List V → Hp → VK → Prop := fun vs H Q => ∃ (a : Addr) (xs : List V) (ks : List Int), vs = [V.ref a] ∧ SqT K H a xs ∧ xs.length = ks.length ∧ (∀ (i : Nat) (x : V) (k : Int), xs[i]? = some x → ks[i]? = some k → ∃ t g m, x = V.ref t ∧ SqT K H t [.int k, .ref g, .ref m]) ∧ ks.Pairwise (· ≠ ·) ∧
  ∀ (k : V → Int) ys p, ks = xs.map k → SrtO.Srtd (ltV k) ys → ys.Perm xs → H p = none → Q (.ref p) (upd H p (.lst ys))
theorem cr_sortedH {X : Cx} : CallR X (.builtin "sorted") (rSortedH X.K) := by
  intro pins s σ H vs us Q I r h
  obtain ⟨a, xs, ks, rfl, hs, hlk, hx0, hpw, q⟩ := h
  obtain ⟨its, rv, hl, hz⟩ := I.tuple hs
  obtain ⟨u, rfl, ru⟩ := vals1 r
  obtain rfl : u = Value.ref a := ru
  have kat : ∀ (i : Nat) (x : V), xs[i]? = some x → ∃ k, ks[i]? = some k := fun i x h => ⟨ks[i]'(by have := (List.getElem?_eq_some_iff.mp h).1; omega), List.getElem?_eq_getElem _⟩
  obtain ⟨k, hk⟩ := fun_of hlk fun i j x hi hj => by
    obtain ⟨k1, h1⟩ := kat i x hi
    obtain ⟨k2, h2⟩ := kat j x hj
    obtain ⟨t1, g1, m1, e1, q1⟩ := hx0 i x k1 hi h1
    obtain ⟨t2, g2, m2, e2, q2⟩ := hx0 j x k2 hj h2
    rw [e1] at e2
    cases e2
    have := I.tuple_inj q1 q2
    injection this with e3 _
    rw [h1, h2, V.int.inj e3]
  have hx : ∀ x ∈ xs, ∃ t g m, x = V.ref t ∧ SqT X.K H t [.int (k x), .ref g, .ref m] := fun x hm => by
    obtain ⟨i, hi, ei⟩ := List.getElem_of_mem hm
    have h1 : xs[i]? = some x := by rw [List.getElem?_eq_getElem hi, ei]
    exact hx0 i x (k x) h1 (by rw [hk, List.getElem?_map, h1]; rfl)
  have hne : ∀ x ∈ xs, ∀ y ∈ xs, x = y ∨ k x ≠ k y := fun x hm y hm' => by
    obtain ⟨i, hi, ei⟩ := List.getElem_of_mem hm
    obtain ⟨j, hj, ej⟩ := List.getElem_of_mem hm'
    have pw : (xs.map k).Pairwise (· ≠ ·) := by rw [← hk]; exact hpw
    have pw2 := List.pairwise_iff_getElem.mp pw
    have li : i < (xs.map k).length := by rw [List.length_map]; exact hi
    have lj : j < (xs.map k).length := by rw [List.length_map]; exact hj
    rcases Nat.lt_trichotomy i j with z | z | z
    · right
      have := pw2 i j li lj z
      rw [List.getElem_map, List.getElem_map, ei, ej] at this
      exact this
    · left
      subst z
      rw [← ei, ← ej]
    · right
      have := pw2 j i lj li z
      rw [List.getElem_map, List.getElem_map, ei, ej] at this
      exact fun e => this e.symm
  obtain ⟨e1, e2⟩ := refs_back rv fun x m => by
    obtain ⟨t, g, m, e, _⟩ := hx x m
    exact ⟨t, e⟩
  have inx : ∀ v ∈ its, backV v ∈ xs := fun v hv => by rw [e1]; exact List.mem_map.mpr ⟨_, hv, rfl⟩
  refine SrtO.sorted_tri (k := fun u => k (backV u)) hl (by rw [← rv.length]; exact hz) (fun v hv => ?_) (fun v hv u hu => ?_) fun h' d out h1 h2 kp hd hn => ?_
  · obtain ⟨t, rfl⟩ := e2 v hv
    have hm : V.ref t ∈ xs := inx _ hv
    obtain ⟨t', g, m, e, ht⟩ := hx _ hm
    cases e
    obtain ⟨its2, r2, ⟨o, ho, hc, n, hd⟩, _⟩ := I.tuple ht
    cases r2 with
    | cons ri r3 =>
      cases r3 with
      | cons rg r4 =>
        cases r4 with
        | cons rm r5 =>
          cases r5
          obtain ⟨t1, rfl⟩ := ri
          cases rg
          cases rm
          exact ⟨t, o, t1, g, m, n, rfl, ho, hc, hd⟩
  · rcases hne _ (inx v hv) _ (inx u hu) with e | e
    · obtain ⟨t, rfl⟩ := e2 v hv
      obtain ⟨t', rfl⟩ := e2 u hu
      left
      exact congrArg Value.ref (V.ref.inj e)
    · exact .inr e
  · have h3 : ∀ u ∈ out, ∃ a, u = Value.ref a := fun u hu => e2 u (h2.perm.mem_iff.mp hu)
    obtain ⟨n, hn⟩ := hn
    have hb : (out.map backV).Perm xs := by
      rw [e1]
      exact h2.perm.map backV
    refine ⟨.ref d, upd H d (.lst (out.map backV)), I.laid (t' := s.toks) kp hd ⟨?_, out, n, vals_back h3, hn⟩, rfl, q k _ d hk (SrtO.srtd_map (f := backV) h1) hb (I.hok.fresh hd)⟩
    rw [hb.length_eq]
    exact hz
end VK
end

section
set_option Elab.async false
set_option linter.all false
set_option pp.maxSteps 1500
set_option maxRecDepth 100000
set_option maxHeartbeats 4000000
/-! the class InvalidName: __init__(self, name) says super().__init__(text), then self.name = name; after the worked text 42 and KE.KExcSuper -/
namespace PySem
namespace CfX
open PySem.W PySem.Calls PyProof.Rows PySem.HandSPX
def iA : Arguments := { posonlyargs := [], args := [{ arg := "self", annotation := none, pos := ⟨8, 17, 8, 21⟩ }, { arg := "name", annotation := none, pos := ⟨8, 23, 8, 27⟩ }], vararg := none, kwonlyargs := [], kw_defaults := [], kwarg := none, defaults := [] }
abbrev msgC : Str := "this is no name"
def iB : List Stmt := [.Expr (.Call (.Attribute (.Call (.Name "super" ⟨9, 8, 9, 13⟩) [] [] ⟨9, 8, 9, 15⟩) "__init__" ⟨9, 8, 9, 24⟩) [.Constant (.str msgC) 0 ⟨9, 25, 9, 42⟩] [] ⟨9, 8, 9, 43⟩) ⟨9, 8, 9, 43⟩, .Assign [.Attribute (.Name "self" ⟨10, 8, 10, 12⟩) "name" ⟨10, 8, 10, 17⟩] (.Name "name" ⟨10, 20, 10, 24⟩) ⟨10, 8, 10, 24⟩]
def iS : Scope := { kind := .function, names := [(PySem.Str.ofString "self", .local), (PySem.Str.ofString "name", .local), (PySem.Str.ofString "__class__", .free), (PySem.Str.ofString "super", .globalImplicit)], isGenerator := false, isCoroutine := false, more := [] }
theorem iS_cell : ∀ y ∈ iS.names, y.2 ≠ .cell := by decide +kernel
theorem iS_loc {u v : Value} : ∀ y ∈ [(("self" : Str), u), ("name", v)], iS.names.lookup y.1 = some .local := fun y hy => by
  rcases List.mem_cons.mp hy with rfl | hy
  · rfl
  · rw [List.mem_singleton.mp hy]; rfl
/-- what the written part says of Conflict, at C, and of its __init__, at fI -/
structure CfTxt (prog : Program) (K : Frag) (mg : Str → Option Value) (C fI : Addr) : Prop where
  gC : mg "InvalidName" = some (.ref C)
  cls : ∃ nm q N bs bm sn sub ab col dd k0 k1 k2 k3 k5, K.lookup C = some (excClassObj nm q C N bs bm true sn sub ab col dd k0 k1 k2 k3 k5 "ValueError.__new__") ∧ refsVE bm = true
  sa : findIn K (.ref C) "__setattr__" = some (some (.builtin "object.__setattr__"))
  ga : findIn K (.ref C) "__getattribute__" = some (some (.builtin "BaseException.__getattribute__"))
  gg : findIn K (.ref C) "__getattr__" = some none
  noN : findIn K (.ref C) "name" = some none
  iC : findIn K (.ref C) "__init__" = some (some (.ref fI))
  tC : typeIn K (.ref fI) = some (.type "function")
  kC : keepIn K (.ref C) = true
  exC : subIn K (.ref C) (.type "BaseException") = some true
  hB : subIn K (.ref C) (.type "ValueError") = some true
  hCC : subIn K (.ref C) (.ref C) = some true
  tyC : typeIn K (.ref C) = some (.type "type")
  hdC : hasDictIn K C = true
  te : exmOne K (.ref C) (.ref C) = some true
  sup : mg "super" = none
  tp : nsIn K cStatics "thirdparty.any" = some none
  along : ks_superIn K C C "__init__" = some (some (.builtin "ValueError.__init__"))
  htop : (prog.main.scope.names.lookup ("super" : Str)).isSome = false
  fn : ∃ (oc : Value) (od : Option Addr) (doc pm : Value) (an : Option Addr) (cda cc : Addr) (ct : Value) (osl : Array (Option Value)),
    K.lookup fI = some ⟨oc, od, .func (fnX "__init__" "InvalidName.__init__" iA iB iS [("__class__", cc)] .none .none doc pm an (.ref cda) ct), osl⟩ ∧ codeIn K (.ref cda) "InvalidName.__init__" = true ∧
    (∃ (ccl : Value) (cdd : Option Addr) (vs : Array Value) (ccs : Array (Option Value)) (file : Str) (tf : Tok), K.lookup cda = some ⟨ccl, cdd, .fields vs, ccs⟩ ∧ vs[2]? = some (.str file tf) ∧ ((prog.main.file : Str) == file) = true) ∧
    ∃ (cl : Value) (cld : Option Addr) (csl : Array (Option Value)), K.lookup cc = some ⟨cl, cld, .cell (some (.ref C)), csl⟩
theorem one_size (v : Value) : [v].length ≤ sizeLine := by
  rw [sizeLine_eq]
  exact (by decide : 1 ≤ 16777216)
/-- what __init__ leaves of a fresh exception at x -/
structure InitEnd (h h' : Heap) (x C dx t1 : Addr) (v : Value) : Prop where
  keep : ∀ b o, b ≠ x → h.get? b = some o → h'.get? b = some o
  obj : h'.get? x = some { cls := .ref C, dict := some dx, data := .fields #[.ref t1, .none, .none, .none, .bool false, .none] }
  dbig : h.objs.size ≤ dx
  dne : dx ≠ x
  ns : h'.Ns1 dx (fun y => if y = "name" then some v else none)
/-- a made Conflict -/
structure OwnMade (h h' : Heap) (e C d : Addr) (v : Value) : Prop where
  keep : ∀ b o, h.get? b = some o → h'.get? b = some o
  new : h.objs.size ≤ e
  obj : ∃ t1, h'.get? e = some { cls := .ref C, dict := some d, data := .fields #[.ref t1, .none, .none, .none, .bool false, .none] }
  dbig : h.objs.size ≤ d
  dne : d ≠ e
  ns : h'.Ns1 d (fun y => if y = "name" then some v else none)
section
variable {prog : Program} {w : World} {A : Around} {E : Value → Shared → Prop} {h : Heap} {g : Array GenState} {d : Drawn} {t : Nat} {os : OsState}
variable {nm q : Str} {C N : Addr} {bs bm : List Value} {hdct : Bool} {sn : List Str} {sub : List Value} {ab : Bool} {col : Option Bool} {dd : Option Addr} {k0 k1 k2 k3 k5 : Option Value}
/-- the bound ValueError.__init__ called -/
theorem call_mw {u e t0 : Addr} {rest : List Value} {Q : Value → Shared → Prop}
    (hC : h.get? C = some (excClassObj nm q C N bs bm hdct sn sub ab col dd k0 k1 k2 k3 k5 "ValueError.__new__")) (he : h.get? e = some (excO C t0)) (hu : h.get? u = some (kxs_mw "ValueError.__init__" e)) (hrest : rest.length ≤ sizeLine)
    (hq : ∀ h' t1, (∀ b o, b ≠ e → h.get? b = some o → h'.get? b = some o) → h.objs.size ≤ h'.objs.size → h'.get? e = some (excO C t1) → Q .none ⟨h', g, d, t, os⟩) :
    wpAny (model prog w) A (call (.ref u) rest) Q E ⟨h, g, d, t, os⟩ := by
  refine wpAny_call (codeAny_of_tree ?_)
  show wpAny _ A.in1 (callAny (.ref u) ⟨rest, []⟩) _ _ _
  simp only [callAny]
  refine wpAny_bind (wpAny_load hu ?_)
  simp only [kxs_mw, show (Value.type "method-wrapper" == Value.type "method" || Value.type "method-wrapper" == Value.type "builtin_function_or_method" || Value.type "method-wrapper" == Value.type "method-wrapper") = true by decide, if_true]
  refine W.KFB.if_so (by decide) ?_
  refine wpAny_bind (ESX.check_bound F.excBase_ValueError hC he rfl ?_)
  refine wpAny_bind (wpAny_pure (wpAny_pure ?_))
  refine ⟨Code.quiet_builtin _ (by decide +kernel), codeAny_builtin F.excBase_ValueError.initEntry ?_⟩
  rw [Around.under_plainId F.excBase_ValueError.init.plain _]
  wp_walk
  refine hq _ h.objs.size (fun b o hb ho => ?_) ?_ ?_
  · rw [Heap.get?_update_other _ _ (Ne.symm hb)]
    exact Heap.get?_push_of_some _ ho
  · rw [Heap.size_update, Heap.size_push]
    exact Nat.le_succ _
  · rw [Heap.get?_update_self _ (Heap.get?_push_of_some _ he) rfl]
    rfl
end
section
variable {prog : Program} {w : World} {A : Around} {E : Value → Shared → Prop} {R : Result → Shared → Prop} {s : Shared} {K : Frag} {mg : Str → Option Value} {C fI : Addr}
theorem cf_init (T : CfTxt prog K mg C fI) {x t0 : Addr} {v : Value} (X : K.In s.heap) (G : s.heap.Ns mainGlobals mg) (Bt : ∃ mb, s.heap.Ns builtinsNs mb ∧ ∀ y : Str, y ≠ "__name__" → mb y = bootBuiltins y) (hlim : s.heap.NoLimit) (hx : s.heap.get? x = some (excO C t0)) (hnx : K.lookup x = none) (hroom : A.depth < recursionLimit)
    (hq : ∀ h' tk dx t1, InitEnd s.heap h' x C dx t1 v → R (.ok (.ret .none)) { s with heap := h', toks := tk }) :
    codeAny (model prog w) A (.call (.ref fI) ⟨[.ref x, v], []⟩) R s := by
  obtain ⟨oc, od, doc, pm, an, cda, cc, ct, osl, ho, hcd, ⟨ccl, cdd, cvs, ccs, file, tf, hcode, hvs, hfile⟩, cl, cld, csl, hcell⟩ := T.fn
  obtain ⟨nm, q, N, bs, bm, sn, sub, ab, col, dd, k0, k1, k2, k3, k5, hC, hbm⟩ := T.cls
  obtain ⟨cd, ecd⟩ : ∃ cd : ClassData, cd = { name := nm, bases := bs, mro := .ref C :: bm, ns := N, qualname := q, hasDict := true, slotNames := sn, subclasses := sub, abstract := ab, collection := col, hasDel := false } := ⟨_, rfl⟩
  have hcl : clsIn K C = some cd := by rw [ecd]; unfold clsIn; rw [hC] <;> rfl
  obtain ⟨mb, hb1, hb2⟩ := Bt
  have hxC : x ≠ C := fun e => by rw [e, hC] at hnx; cases hnx
  refine ks_codeAny_call_defAt (fd := fnX "__init__" "InvalidName.__init__" iA iB iS [("__class__", cc)] .none .none doc pm an (.ref cda) ct) (body := iB) (binds := [("self", .ref x), ("name", v)])
    hroom (X _ _ ho) rfl hlim (codeRec_of X hcd) rfl (BindsTo.of_eq (by first | rfl | with_unfolding_all rfl)) (fun y hy => iS_cell y hy) (fun y hy => iS_loc y hy) (fun h₁ hn k => ?_) rfl rfl rfl
  obtain ⟨hp, g, dr, tk, os⟩ := s
  have X₁ : K.In h₁ := X.keeps k
  have hx₁ : h₁.get? x = some (excO C t0) := k _ _ hx
  have hCc : ∃ oD, h₁.get? C = some oD ∧ oD.data = .cls cd := by
    refine ⟨_, X₁ _ _ hC, ?_⟩
    rw [ecd]
  obtain ⟨oD, hD1, hD2⟩ := hCc
  refine ks_wpAt_execs_cons (ks_wpAt_Expr_any (ks_wpAt_MethodCall ?_))
  refine ks_wpAt_super_base (by rfl) (by rfl) (by decide +kernel) rfl (X₁ _ _ ho) rfl rfl rfl (X₁ _ _ hcode) rfl hvs hfile T.htop ?_
  refine ks_loadName_global (by rfl) (by rfl) (loadGlobal_builtin (G.keeps k) T.sup (hb1.keeps k) ((hb2 "super" (by decide)).trans (by rfl)) ⟨rfl, ?_⟩)
  refine wpAny_loadName_free (by rfl) (by rfl) rfl ⟨_, X₁ _ _ hcell, rfl⟩ ?_
  refine wpAny_loadName_local (by rfl) (by rfl) hn (v := .ref x) (by rfl) ?_
  refine ks_wpAny_isType_cls hD1 hD2 ⟨rfl, ?_⟩
  refine ks_wpAny_call_super hD1 hD2 hx₁ rfl (fun c e => by cases e) (looks_subIn X₁ T.hCC) (fun h₂ e₂ k₂ => ?_)
  have X₂ : K.In h₂ := X₁.keeps k₂
  have hx₂ := k₂ _ _ hx₁
  have I₂ : InstAt h₂ x (excO C t0) C none := ⟨hx₂, rfl, rfl, trivial⟩
  have hal : alongIn K "__init__" ((cd.mro.dropWhile (· != .ref C)).drop 1) = some (some (.builtin "ValueError.__init__")) := by
    have := T.along
    unfold ks_superIn at this
    rw [hcl] at this
    exact this
  refine kxs_getMethod kxs_ValueError e₂ (looks_opaque X₂ T.tp) (l₀ := cd.mro) (fun A Q E s k q => wpAny_bind ((looks_clsIn X₂ hcl) A _ E s k (wpAny_pure q))) rfl X₂ hal (I₂.type.andThen (looks_subIn X₂ T.hB)) hxC (by decide +kernel) ?_
  have k₃ : ∀ b o, h₂.get? b = some o → (h₂.push (kxs_mw "ValueError.__init__" x)).get? b = some o := fun b o e => Heap.get?_push_of_some _ e
  have hu : (h₂.push (kxs_mw "ValueError.__init__" x)).get? h₂.objs.size = some (kxs_mw "ValueError.__init__" x) := Heap.get?_push_at rfl rfl
  obtain ⟨h₃, e₃⟩ : ∃ h₃, h₃ = h₂.push (kxs_mw "ValueError.__init__" x) := ⟨_, rfl⟩
  rw [← e₃] at k₃ hu ⊢
  refine kxs_callWith (i := "ValueError.__init__") (x := x) (by rfl) (evalArgs_plain ?_)
  show wpAny _ _ (spliced [(false, eval (.Constant (.str msgC) 0 ⟨9, 25, 9, 42⟩) _)]) _ _ _
  refine Calls.spliced_cons (Calls.Constant_str ?_)
  refine Calls.spliced_nil ⟨hu, ?_⟩
  refine call_mw (k₃ _ _ (k₂ _ _ (X₁ _ _ hC))) (k₃ _ _ hx₂) hu (one_size _) (fun h₄ t1 k₄ z₄ hx₄ => ?_)
  -- self.name = name
  have kx : ∀ b o, b ≠ x → h₁.get? b = some o → h₄.get? b = some o := fun b o hb e => k₄ b o hb (k₃ _ _ (k₂ _ _ e))
  have X₄ : K.In h₄ := fun a o e => kx a o (fun z => by rw [z, hnx] at e; cases e) (X₁ a o e)
  have hxL : hp.objs.size ≠ x := Nat.ne_of_gt (Heap.lt_size hx)
  have hn₄ : h₄.Ns hp.objs.size (fun y => ([(("self" : Str), Value.ref x), ("name", v)]).reverse.lookup y) := by
    obtain ⟨o, es, ep, e, r⟩ := hn
    exact ⟨o, es, ep, kx _ _ hxL e, r⟩
  refine wpAt_of_wpAny ?_
  refine wpAny_execs_cons (plainObj_wpAny_Assign_Attribute ?_)
  refine ldc (by rfl) (by rfl) hn₄ (v := v) (by rfl) (ldc (by rfl) (by rfl) hn₄ (v := .ref x) (by rfl) ?_)
  refine set_plain X₄ (ox := excO C t1) (od := none) ⟨hx₄, rfl, rfl, trivial⟩ T.sa ?_
  refine exc_osa X₄ hx₄ hcl (by rw [ecd]; exact hbm) (by rw [ecd]) T.noN (fun h₅ tk₅ dx k₅ dn dne hx₅ hn₅ => ?_)
  show wpAny _ _ (execs _ _) _ _ _
  have z1 : hp.objs.size < h₄.objs.size := hn₄.lt
  exact wpAny_execs_nil (hq h₅ tk₅ dx t1 ⟨fun b o hb e => k₅ b o hb (kx b o hb (k b o e)), hx₅, Nat.le_of_lt (Nat.lt_of_lt_of_le z1 dn), dne, hn₅⟩)
theorem cf_made (T : CfTxt prog K mg C fI) {v : Value} (X : K.In s.heap) (G : s.heap.Ns mainGlobals mg) (Bt : ∃ mb, s.heap.Ns builtinsNs mb ∧ ∀ y : Str, y ≠ "__name__" → mb y = bootBuiltins y) (hlim : s.heap.NoLimit) (hroom : A.depth + 1 < recursionLimit)
    (hq : ∀ h' tk e d, OwnMade s.heap h' e C d v → R (.ok (.ret (.ref e))) { s with heap := h', toks := tk }) :
    codeAny (model prog w) A (.call (.ref C) ⟨[v], []⟩) R s := by
  obtain ⟨nm, q, N, bs, bm, sn, sub, ab, col, dd, k0, k1, k2, k3, k5, hC, hbm⟩ := T.cls
  obtain ⟨hp, g, dr, tk, os⟩ := s
  obtain ⟨mb, hb1, hb2⟩ := Bt
  have k : ∀ b o, hp.get? b = some o → ((hp.push (kdv_tup [v])).push (excO C hp.objs.size)).get? b = some o := fun b o e => Heap.get?_push_of_some _ (Heap.get?_push_of_some _ e)
  have hget : ((hp.push (kdv_tup [v])).push (excO C hp.objs.size)).get? (hp.objs.size + 1) = some (excO C hp.objs.size) := by heap_get
  have hnx : K.lookup (hp.objs.size + 1) = none := by
    cases e : K.lookup (hp.objs.size + 1) with
    | none => rfl
    | some o =>
      have z : hp.get? (hp.objs.size + 1) = some o := X _ _ e
      exact absurd (Nat.lt_of_succ_lt (Heap.lt_size z)) (Nat.lt_irrefl _)
  refine call_own F.excBase_ValueError (fun X => refsVE_contains X bm hbm) (X _ _ hC) (looks_findIn X T.iC) (fun self => bind_fn X self T.tC) (one_size v) ?_
  refine cf_init (s := ⟨(hp.push (kdv_tup [v])).push (excO C hp.objs.size), g, dr, tk, os⟩) T (X.keeps k) (G.keeps k) ⟨mb, hb1.keeps k, hb2⟩ (hlim.keeps k) hget hnx ?_ fun h' tk' dx t1 ⟨k', hx, dn, dne, hns⟩ => ?_
  · show A.depth + 1 < recursionLimit
    exact hroom
  · have old : ∀ b o, hp.get? b = some o → h'.get? b = some o := fun b o e => k' b o (Nat.ne_of_lt (Nat.lt_succ_of_lt (Heap.lt_size e))) (k b o e)
    have z : hp.objs.size + 1 + 1 ≤ dx := by
      first
        | (simpa only [Heap.size_push] using dn)
        | exact dn
        | (have q := dn; rw [Heap.size_push, Heap.size_push] at q; exact q)
    exact ⟨rfl, hq h' tk' (hp.objs.size + 1) dx ⟨old, Nat.le_succ _, ⟨t1, hx⟩, Nat.le_trans (Nat.le_trans (Nat.le_succ _) (Nat.le_succ _)) z, dne, hns⟩⟩
end
end CfX
end PySem
namespace VK
open PySem PySem.Spec PyProof.Rows L2
theorem relO_cf {v : V} {v' : Value} (r : RelV v v') (f : Str) : RelO (List.lookup f [(("name" : Str), v)]) (if f = "name" then some v' else none) := by
  by_cases hw : f = "name"
  · subst hw
    rw [if_pos rfl]
    have q : List.lookup ("name" : Str) [(("name" : Str), v)] = some v := by simp [List.lookup]
    rw [q]
    exact r
  · rw [if_neg hw]
    have qw : (f == ("name" : Str)) = false := by simpa using hw
    have q2 : List.lookup f [(("name" : Str), v)] = none := by simp [List.lookup, qw]
    rw [q2]
    trivial
section
variable {X : Cx} {C fI : Addr}
/-- Conflict(e) -/
def tMkCf (C : Addr) (ta : TA) : L2.St → Hp → XK → Prop := fun σ H Q => ta σ H fun vs H1 => ∃ v, vs = [v] ∧ ∀ d, H1 d = none → Q (.ref C) (some d) (upd H1 d (.xd [(("name" : Str), v)]))
theorem pmk_cf {a : Expr} {ta : TA} {p pos : Pos} {k : Nat} (T : PySem.CfX.CfTxt X.prog X.K X.mg C fI) (hr : Room k X.A) (ha : PA X [a] ta) (hg : Gl X "InvalidName" := by rfl)
    (he : starEach (a :: []) X.env = (false, eval a X.env) :: starEach [] X.env := by rfl) (hpl : (backTo pos (starEach [] X.env)).any (·.1) = false := by rfl) :
    L2N.PMk X (.Call (.Name "InvalidName" p) [a] [] pos) (tMkCf C ta) := by
  intro pins s σ H Q I h
  refine wpAny_Call_Name_kw (ld_glob I hg T.gC ?_)
  refine PySem.W.callWith_K (h₀ := X.base) I.ok.mod.kin T.kC (thn (ha.run pos pins s σ H _ I h) fun us s1 hh => ?_) he hpl
  obtain ⟨vs, H1, I1, r1, v, ev, q1⟩ := hh
  subst ev
  refine ⟨I1.kIn, ?_⟩
  cases r1 with
  | cons rv rn =>
    rename_i v' us'
    cases rn
    show wpAny _ _ (call (.ref C) [v']) _ _ _
    have hlim := I1.nolimit
    have hG := I1.mod.glob.keeps I1.bk
    obtain ⟨mb, hb1, hb2⟩ := I1.mod.blt
    have hBt := hb1.keeps I1.bk
    have hkIn := I1.kIn
    obtain ⟨hp, g, dr, tk, os⟩ := s1
    refine wpAny_call (PySem.CfX.cf_made T hkIn hG ⟨mb, hBt, hb2⟩ hlim (by have := hr.dp; omega) fun h' tk' e d M => ?_)
    show L2N.MkP X pins σ Q (.ref e) ⟨h', g, dr, tk', os⟩
    obtain ⟨t1, hoe⟩ := M.obj
    have hns := M.ns
    obtain ⟨G', g1, g2⟩ := restrict h' fun b => decide (b ≠ e)
    have gk : ∀ b, b ≠ e → G'.get? b = h'.get? b := fun b hb => g1 b (decide_eq_true hb)
    have ge : G'.get? e = none := g2 e (by simp)
    have old : ∀ b o, hp.get? b = some o → G'.get? b = some o := fun b o q => (gk b (Nat.ne_of_lt (Nat.lt_of_lt_of_le (Heap.lt_size q) M.new))).trans (M.keep b o q)
    have ob : ObjOk X.prog X.w (upd H1 d (.xd [(("name" : Str), v)])) G' d (.xd [(("name" : Str), v)]) :=
      ⟨_, hns.at (fun o q => (gk d M.dne).trans q), fun f => relO_cf rv f⟩
    have J : Inv X pins σ (upd H1 d (.xd [(("name" : Str), v)])) ⟨G', g, dr, tk', os⟩ := I1.laid (t' := tk') old M.dbig ob
    refine ⟨e, _, _, ⟨G', g, dr, tk', os⟩, _, .ref C, some d, rfl, J, fun b o q => ?_, ge, hoe, ⟨rfl, rfl, fun vs e => by cases e; rfl⟩, rfl, rfl, ?_, rfl, I1.bare, raises_own T.exC T.tyC, q1 d (I1.hok.fresh M.dbig)⟩
    · by_cases hb : b = e
      · have q' : G'.get? b = some o := q
        rw [hb, ge] at q'; cases q'
      · exact (gk b hb).symm.trans q
    · rw [upd_ne (Ne.symm M.dne)]
      exact I1.hok.fresh M.new
end
end VK
end

section
set_option Elab.async false
set_option linter.all false
set_option pp.maxSteps 1500
set_option maxRecDepth 100000
set_option maxHeartbeats 4000000
namespace VK
open PySem L2
def spApplyL (K : PySem.W.Frag) : Sp := fun vs H Q _ => ∃ (a b : Addr) (ls : List Str) (hs : List Hunk) (ws : List V), vs = [.ref a, .ref b] ∧ SqT K H a (ls.map V.str) ∧ H b = some (.lst ws) ∧ DpAll K H ws (hs.map hunkD) ∧ (applyF ls 0 hs).length ≤ 10000 ∧
  ∀ (H' : Hp) (p : Addr), Same H H' → SqT K H' p ((applyF ls 0 hs).map V.str) → Q (.ref p) H'
section
variable {P : Program} {w : World} {K : PySem.W.Frag} {mg : Str → Option Value} {base : Heap}
theorem ok_applyL {f : Addr} {fd : FuncData} (F : Fun K "_law_apply" "_law_apply" s__law_apply f fd) (T0 : Txt0 mg) : FnOk P w K mg base CX0 1 f fd ["lines", "patch"] (spApplyL K) := by
  refine F.ok sc__law_apply (fun vs H Q E h => ?_) (fun cdv A outer s H vs Q E hr h => ?_)
  · obtain ⟨a, b, ls, hs, ws, rfl, _⟩ := h
    rfl
  · obtain ⟨a, b, ls, hs, ws, rfl, hA, hb, hd, hlen, k⟩ := h
    refine ⟨_, (pss_cons (ps_set (i := 2) sc__law_apply.nd rfl (Or.inl rfl) (pe_tup pa_nil))
      (pss_cons (ps_set (i := 3) sc__law_apply.nd rfl (Or.inl rfl) pe_int)
      (pss_cons (ps_for PassesOwn.never rfl (pi_list (pv 1)) (pg_tup rfl (pgs_cons (pg_name (i := 4) sc__law_apply.nd rfl (Or.inl rfl)) (pgs_cons (pg_name (i := 5) sc__law_apply.nd rfl (Or.inl rfl)) (pgs_cons (pg_name (i := 6) sc__law_apply.nd rfl (Or.inl rfl)) pgs_nil))))
        (pss_cons (ps_set (i := 2) sc__law_apply.nd rfl (Or.inl rfl) (pe_op op_catA (pe_op op_catA (pv 2) (pe_callTy call_tupleT (by rfl) T0.z_tuple (by decide +kernel) (pa_cons (pe_slice sl_tupA (pv 0) (po_some (pv 3)) (po_some (pv 4))) pa_nil))) (pv 6)))
        (pss_one (ps_set (i := 3) sc__law_apply.nd rfl (Or.inl rfl) (pe_op op_add (pv 4) (pe_callB call_len_seq (by rfl) T0.z_len PySem.boot_len (pa_cons (pv 5) pa_nil)))))))
      (pss_one (ps_ret (pe_op op_catA (pv 2) (pe_callTy call_tupleT (by rfl) T0.z_tuple (by decide +kernel) (pa_cons (pe_slice sl_tupA (pv 0) (po_some (pv 3)) po_none) pa_nil)))))))), ?_⟩
    refine ⟨by show 0 ≤ sizeLine; decide, fun fo hfo => ?_⟩
    refine seq_c ?_
    have s0 : Same H (upd H fo (.tup [])) := same_new hfo
    have ln : ws.length = hs.length := by rw [dpAll_len hd, List.length_map]
    refine ⟨_, rfl, b, rfl, ⟨_, SqL.of (s0 _ _ hb)⟩, ?_⟩
    refine for_it (walk_list (xs := ws)) (fun c σ H' => ∃ (i : Nat) (q : Addr) (fs : List Str) (x4 x5 x6 : Option V), σ = [some (.ref a), some (.ref b), some (.ref q), some (.int (i : Int)), x4, x5, x6] ∧ Same H H' ∧ SqT K H' q (fs.map V.str) ∧ fs ++ applyF ls i (hs.drop c) = applyF ls 0 hs) ?_ (fun c σ H' _ h => ?_) ?_ ?_
    · exact ⟨0, fo, [], none, none, none, rfl, s0, .inl (.inl upd_same), rfl⟩
    · obtain ⟨i, q, fs, x4, x5, x6, rfl, h1, h2, h3⟩ := h
      exact SqL.of (h1 _ _ hb)
    · rintro c x σ H5o H5 hc ⟨i, q, fs, x4, x5, x6, rfl, sm, hq, hp⟩ ⟨rfl, hx⟩
      have hcf : c < hs.length := by rw [← ln]; exact hc
      obtain ⟨h, ht⟩ : ∃ h, h = hs[c] := ⟨_, rfl⟩
      have hf : hs[c]? = some h := by rw [List.getElem?_eq_getElem hcf, ht]
      obtain ⟨v, hv1, hv2⟩ := dpAll_at (hunks_keep (TK.same sm) hd) (k := c) (d := hunkD h) (by rw [List.getElem?_map, hf]; rfl)
      obtain rfl : v = x := Option.some.inj (hv1.symm.trans hx)
      obtain ⟨z, g, m, rfl, hz, hg, hm⟩ := of_hunk hv2
      have ed : hs.drop c = h :: hs.drop (c + 1) := by rw [List.drop_eq_getElem_cons hcf, ← ht]
      rw [ed, applyF] at hp
      have hl := congrArg List.length hp
      simp only [List.length_append] at hl
      refine ⟨z, _, rfl, hz, rfl, _, _, rfl, _, _, rfl, _, _, rfl, rfl, ?_⟩
      refine ⟨_, rfl, _, rfl, _, rfl, _, rfl, _, rfl, _, rfl, sl_lines (sm.seqT hA) fun H6 p s56 hp6 => ?_⟩
      refine ⟨p, _, rfl, hp6, ?_⟩
      refine cat_linesB (s56.seqT hq) hp6 (by omega) fun H7 r s67 hr7 => ?_
      refine ⟨_, rfl, cat_linesB hr7 ((s56.trans s67).seqT hm) (by rw [List.length_append]; omega) fun H8 y s78 hy8 => ?_⟩
      have s58 := s56.trans (s67.trans s78)
      refine ⟨_, rfl, _, rfl, g, _, rfl, .inr (s58.seqT hg), _, _, rfl, rfl, ?_⟩
      refine ⟨h.start + h.gone.length, y, fs ++ cutL ls i h.start ++ h.come, some (.int (h.start : Int)), some (.ref g), some (.ref m), ?_, sm.trans s58, hy8, ?_⟩
      · show [_, _, _, some (V.int ((h.start : Int) + ((h.gone.map V.str).length : Int))), _, _, _] = _
        rw [List.length_map]; rfl
      · rw [← hp]; simp [List.append_assoc]
    · rintro σ H5 ⟨i, q, fs, x4, x5, x6, rfl, sm, hq, hp⟩
      rw [ln, List.drop_length, applyF] at hp
      have hl := congrArg List.length hp
      simp only [List.length_append] at hl
      refine ⟨_, rfl, _, rfl, _, rfl, _, rfl, ?_⟩
      dsimp only [tNoPart]
      refine sl_linesFrom (sm.seqT hA) fun H6 p s56 hp6 => ?_
      refine ⟨p, _, rfl, hp6, ?_⟩
      refine cat_linesB (s56.seqT hq) hp6 (by omega) fun H7 r s67 hr7 => ?_
      exact k _ r (sm.trans (s56.trans s67)) (by rw [← hp]; exact hr7)
end
end VK
end

section
set_option Elab.async false
set_option linter.all false
set_option pp.maxSteps 1500
set_option maxRecDepth 100000
set_option maxHeartbeats 4000000
namespace VK
open PySem L2
abbrev s_within : Stmt := topS 14
theorem sc_within : FnScope ["patch", "low", "high", "start", "gone", "come"] ["patch", "low", "high"] (defScope s_within) := ⟨rfl, rfl, rfl, by decide +kernel, rfl, by decide +kernel, by decide +kernel⟩
def spWithin (K : PySem.W.Frag) : Sp := fun vs H Q _ => ∃ (a : Addr) (hs : List Hunk) (lo hi : Nat), vs = [.ref a, .int (lo : Int), .int (hi : Int)] ∧ Dp K H (.ref a) (hunksD hs) ∧ hs.length ≤ 1000 ∧
  ∀ (H' : Hp) (l : Addr) (ws : List V), Same H H' → H l = none → H' l = some (.lst ws) → DpAll K H' ws ((withinF hs lo hi).map hunkD) → Q (.ref l) H'
section
variable {P : Program} {w : World} {K : PySem.W.Frag} {mg : Str → Option Value} {base : Heap}
theorem ok_within {f : Addr} {fd : FuncData} (F : Fun K "within" "within" s_within f fd) (T0 : Txt0 mg) : FnOk P w K mg base CX0 1 f fd ["patch", "low", "high"] (spWithin K) := by
  refine F.ok sc_within (fun vs H Q E h => ?_) (fun cdv A outer s H vs Q E hr h => ?_)
  · obtain ⟨a, hs, lo, hi, rfl, _⟩ := h
    rfl
  · obtain ⟨a, hs, lo, hi, rfl, hA, hlen, k⟩ := h
    refine ⟨_, (pss_one (ps_ret (pe_lc (own := [("start", 3), ("gone", 4), ("come", 5)]) (g := _) (tt := _) rfl sc_within.nd (pi_tup (pv 0)) (blkOk_by (own := [("start", 3), ("gone", 4), ("come", 5)]) (N := ["patch", "low", "high", "start", "gone", "come"]) (sc := defScope s_within) (by decide +kernel)) (fun _ _ _ _ _ => (pg_tupQ (K := K) (n := 3) rfl rfl (pgs_cons (pg_name (i := 3) sc_within.nd rfl (Or.inl rfl)) (pgs_cons (pg_name (i := 4) sc_within.nd rfl (Or.inl rfl)) (pgs_cons (pg_name (i := 5) sc_within.nd rfl (Or.inl rfl)) pgs_nil))))) (fun _ _ _ _ _ => (pts_one (PW.pt (pw_and (pt_cmpR op_le (pv 1) (pv 3) (nomark _)) (pw_and1 (pt_cmpR op_le (pe_op op_add (pv 3) (pe_callB (call_lenQ (K := K) rfl) (by rfl) T0.z_len PySem.boot_len (pa_cons (pv 4) pa_nil))) (pv 2) (nomark _))))))) (fun _ _ _ _ _ => (pe_tup (pa_cons (pv 3) (pa_cons (pv 4) (pa_cons (pv 5) pa_nil)))))))), ?_⟩
    obtain ⟨b', ws, eb, hb, hd⟩ := of_tupD hA
    cases eb
    have ln : ws.length = hs.length := by rw [dpAll_len hd, List.length_map]
    refine ⟨_, rfl, a, rfl, ⟨_, hb⟩, fun D hD => ?_⟩
    refine lc_tup (xs := ws) (fun t H' => ∃ ys, H' D = some (.lst ys) ∧ Same H H' ∧ DpAll K H' ys ((withinF (hs.take t) lo hi).map hunkD)) ⟨[], upd_same, same_new hD, .nil⟩ (fun t H' _ h => by obtain ⟨ys, h1, h2, h3⟩ := h; exact h2.seqT hb) ?_ ?_
    · rintro t x H3 hx ⟨ys, hys, s3, hdy⟩
      have ht : t < hs.length := by rw [← ln]; exact (List.getElem?_eq_some_iff.mp hx).1
      have hrt : hs[t]? = some hs[t] := List.getElem?_eq_getElem ht
      obtain ⟨v, hv1, hv2⟩ := dpAll_at (hunks_keep (TK.same s3) hd) (k := t) (d := hunkD hs[t]) (by rw [List.getElem?_map, hrt]; rfl)
      obtain rfl : v = x := Option.some.inj (hv1.symm.trans hx)
      obtain ⟨z, g, m, rfl, hz, hg, hm⟩ := of_hunk hv2
      have etk : hs.take (t + 1) = hs.take t ++ [hs[t]] := by rw [List.take_succ, hrt]; rfl
      refine ⟨z, _, rfl, hz, rfl, _, _, rfl, _, _, rfl, _, _, rfl, rfl, rfl, ?_⟩
      refine tAnd_pure (y := decide (hs[t].start + hs[t].gone.length ≤ hi)) (fun Q h => ⟨_, rfl, _, rfl, _, _, rfl, rfl, _, rfl, h⟩) (fun Q h => ⟨_, rfl, _, rfl, g, _, rfl, .inr hg, _, _, rfl, rfl, _, rfl, _, _, rfl, rfl, _, rfl, ?_⟩) ?_
      · rw [List.length_map]
        have e : decide ((hs[t].start : Int) + (hs[t].gone.length : Int) ≤ (hi : Int)) = decide (hs[t].start + hs[t].gone.length ≤ hi) := by
          by_cases q : hs[t].start + hs[t].gone.length ≤ hi
          · rw [decide_eq_true q, decide_eq_true]; omega
          · rw [decide_eq_false q, decide_eq_false]; omega
        rw [e]; exact h
      · have e1 : decide ((lo : Int) ≤ (hs[t].start : Int)) = decide (lo ≤ hs[t].start) := by
          by_cases q : lo ≤ hs[t].start
          · rw [decide_eq_true q, decide_eq_true]; omega
          · rw [decide_eq_false q, decide_eq_false]; omega
        rw [e1]
        have lys : ys.length < 1000000 := by
          have q1 := dpAll_len hdy
          rw [List.length_map] at q1
          have q2 := List.length_filter_le (fun h : Hunk => decide (lo ≤ h.start) && decide (h.start + h.gone.length ≤ hi)) (hs.take t)
          rw [List.length_take] at q2
          unfold withinF at q1
          omega
        refine ite2 (fun e => ?_) (fun e => ?_)
        · refine ⟨_, rfl, _, rfl, _, rfl, by show 3 ≤ sizeLine; decide, fun q hq => ?_⟩
          have ys2 : upd H3 q (.tup [.int (hs[t].start : Int), .ref g, .ref m]) D = some (.lst ys) := by rw [upd_ne (ne_of_none hys hq)]; exact hys
          refine ⟨ys, ys2, Nat.lt_of_lt_of_le lys (by decide), ys ++ [.ref q], upd_same, same_mut (s3.trans (same_new hq)) hD, ?_⟩
          have tk := (TK.new (K := K) (o := .tup [.int (hs[t].start : Int), .ref g, .ref m]) hq).trans (TK.lst (o := .lst (ys ++ [.ref q])) ys2)
          have ef : withinF (hs.take (t + 1)) lo hi = withinF (hs.take t) lo hi ++ [hs[t]] := by
            unfold withinF
            rw [etk, List.filter_append, List.filter_cons_of_pos (p := fun h : Hunk => decide (lo ≤ h.start) && decide (h.start + h.gone.length ≤ hi)) e, List.filter_nil]
          rw [ef, List.map_append]
          refine dpAll_app (hunks_keep tk hdy) (dpAll_one (dp_hunk (b := g) (c := m) ?_ ?_ ?_))
          · exact TK.lst ys2 _ _ (.inl (.inl upd_same))
          · exact tk _ _ hg
          · exact tk _ _ hm
        · refine ⟨ys, hys, s3, ?_⟩
          have ef : withinF (hs.take (t + 1)) lo hi = withinF (hs.take t) lo hi := by
            unfold withinF
            rw [etk, List.filter_append, List.filter_cons_of_neg (p := fun h : Hunk => decide (lo ≤ h.start) && decide (h.start + h.gone.length ≤ hi)) e, List.filter_nil, List.append_nil]
          rw [ef]; exact hdy
    · rintro H3 ⟨ys, hys, s3, hdy⟩
      rw [ln, List.take_length] at hdy
      exact k _ D ys s3 hD hys hdy
end
end VK
end

section
set_option Elab.async false
set_option linter.all false
set_option pp.maxSteps 1500
set_option maxRecDepth 100000
set_option maxHeartbeats 4000000
namespace VK
open PySem L2
abbrev s_rewritten : Stmt := topS 15
theorem sc_rewritten : FnScope ["lines", "low", "hunks", "found", "here", "start", "gone", "come"] ["lines", "low", "hunks"] (defScope s_rewritten) := ⟨rfl, rfl, rfl, by decide +kernel, rfl, by decide +kernel, by decide +kernel⟩
def spRew (K : PySem.W.Frag) : Sp := fun vs H Q _ => ∃ (a b : Addr) (ls : List Str) (hs : List Hunk) (ws : List V) (low : Nat), vs = [.ref a, .int (low : Int), .ref b] ∧ SqT K H a (ls.map V.str) ∧ H b = some (.lst ws) ∧ DpAll K H ws (hs.map hunkD) ∧ (∀ h ∈ hs, low ≤ h.start) ∧ (rewF ls low 0 hs).length ≤ 100000 ∧
  ∀ (H' : Hp) (p : Addr), Same H H' → SqT K H' p ((rewF ls low 0 hs).map V.str) → Q (.ref p) H'
section
variable {P : Program} {w : World} {K : PySem.W.Frag} {mg : Str → Option Value} {base : Heap}
theorem ok_rew {f : Addr} {fd : FuncData} (F : Fun K "rewritten" "rewritten" s_rewritten f fd) (T0 : Txt0 mg) : FnOk P w K mg base CX0 1 f fd ["lines", "low", "hunks"] (spRew K) := by
  refine F.ok sc_rewritten (fun vs H Q E h => ?_) (fun cdv A outer s H vs Q E hr h => ?_)
  · obtain ⟨a, b, ls, hs, ws, low, rfl, _⟩ := h
    rfl
  · obtain ⟨a, b, ls, hs, ws, low, rfl, hA, hb, hd, hlow, hlen, k⟩ := h
    refine ⟨_, (pss_cons (ps_asg (pe_tup (pa_cons (pe_tup pa_nil) (pa_cons pe_int pa_nil))) (pg_tup rfl (pgs_cons (pg_name (i := 3) sc_rewritten.nd rfl (Or.inl rfl)) (pgs_cons (pg_name (i := 4) sc_rewritten.nd rfl (Or.inl rfl)) pgs_nil))))
      (pss_cons (ps_for PassesOwn.never rfl (pi_list (pv 2)) (pg_tup rfl (pgs_cons (pg_name (i := 5) sc_rewritten.nd rfl (Or.inl rfl)) (pgs_cons (pg_name (i := 6) sc_rewritten.nd rfl (Or.inl rfl)) (pgs_cons (pg_name (i := 7) sc_rewritten.nd rfl (Or.inl rfl)) pgs_nil))))
        (pss_cons (ps_set (i := 3) sc_rewritten.nd rfl (Or.inl rfl) (pe_op op_catA (pe_op op_catA (pv 3) (pe_callTy call_tupleT (by rfl) T0.z_tuple (by decide +kernel) (pa_cons (pe_slice sl_tupA (pv 0) (po_some (pv 4)) (po_some (pe_op op_sub (pv 5) (pv 1)))) pa_nil))) (pv 7)))
        (pss_one (ps_set (i := 4) sc_rewritten.nd rfl (Or.inl rfl) (pe_op op_add (pe_op op_sub (pv 5) (pv 1)) (pe_callB call_len_seq (by rfl) T0.z_len PySem.boot_len (pa_cons (pv 6) pa_nil)))))))
      (pss_one (ps_ret (pe_op op_catA (pv 3) (pe_callTy call_tupleT (by rfl) T0.z_tuple (by decide +kernel) (pa_cons (pe_slice sl_tupA (pv 0) (po_some (pv 4)) po_none) pa_nil))))))), ?_⟩
    refine ⟨by show 0 ≤ sizeLine; decide, fun fo hfo => ⟨by show 2 ≤ sizeLine; decide, fun tq htq => ⟨tq, _, rfl, .inl (.inl upd_same), rfl, _, _, rfl, _, _, rfl, rfl, ?_⟩⟩⟩
    have s1 : Same (upd H fo (.tup [])) (upd (upd H fo (.tup [])) tq (.tup [.ref fo, .int 0])) := same_new htq
    have s0 : Same H (upd (upd H fo (.tup [])) tq (.tup [.ref fo, .int 0])) := (same_new hfo).trans s1
    have ln : ws.length = hs.length := by rw [dpAll_len hd, List.length_map]
    refine ⟨_, rfl, b, rfl, ⟨_, SqL.of (s0 _ _ hb)⟩, ?_⟩
    refine for_it (walk_list (xs := ws)) (fun c σ H' => ∃ (i : Nat) (q : Addr) (fs : List Str) (x5 x6 x7 : Option V), σ = [some (.ref a), some (.int (low : Int)), some (.ref b), some (.ref q), some (.int (i : Int)), x5, x6, x7] ∧ Same H H' ∧ SqT K H' q (fs.map V.str) ∧ fs ++ rewF ls low i (hs.drop c) = rewF ls low 0 hs) ?_ (fun c σ H' _ h => ?_) ?_ ?_
    · exact ⟨0, fo, [], none, none, none, rfl, s0, s1.seqT (.inl (.inl upd_same)), rfl⟩
    · obtain ⟨i, q, fs, x5, x6, x7, rfl, h1, h2, h3⟩ := h
      exact SqL.of (h1 _ _ hb)
    · rintro c x σ H5o H5 hc ⟨i, q, fs, x5, x6, x7, rfl, sm, hq, hp⟩ ⟨rfl, hx⟩
      have hcf : c < hs.length := by rw [← ln]; exact hc
      obtain ⟨h, ht⟩ : ∃ h, h = hs[c] := ⟨_, rfl⟩
      have hf : hs[c]? = some h := by rw [List.getElem?_eq_getElem hcf, ht]
      have hlo : low ≤ h.start := hlow h (List.mem_of_getElem? hf)
      obtain ⟨v, hv1, hv2⟩ := dpAll_at (hunks_keep (TK.same sm) hd) (k := c) (d := hunkD h) (by rw [List.getElem?_map, hf]; rfl)
      obtain rfl : v = x := Option.some.inj (hv1.symm.trans hx)
      obtain ⟨z, g, m, rfl, hz, hg, hm⟩ := of_hunk hv2
      have ed : hs.drop c = h :: hs.drop (c + 1) := by rw [List.drop_eq_getElem_cons hcf, ← ht]
      rw [ed, rewF] at hp
      have hl := congrArg List.length hp
      simp only [List.length_append] at hl
      have esub : (h.start : Int) - (low : Int) = ((h.start - low : Nat) : Int) := by omega
      refine ⟨z, _, rfl, hz, rfl, _, _, rfl, _, _, rfl, _, _, rfl, rfl, ?_⟩
      refine ⟨_, rfl, _, rfl, _, rfl, _, rfl, _, rfl, _, rfl, _, _, rfl, rfl, _, congrArg V.int esub, ?_⟩
      refine sl_lines (sm.seqT hA) fun H6 p s56 hp6 => ?_
      refine ⟨p, _, rfl, hp6, ?_⟩
      refine cat_linesB (s56.seqT hq) hp6 (by omega) fun H7 r s67 hr7 => ?_
      refine ⟨_, rfl, cat_linesB hr7 ((s56.trans s67).seqT hm) (by rw [List.length_append]; omega) fun H8 y s78 hy8 => ?_⟩
      have s58 := s56.trans (s67.trans s78)
      refine ⟨_, rfl, _, rfl, _, _, rfl, rfl, _, rfl, g, _, rfl, .inr (s58.seqT hg), _, _, rfl, rfl, ?_⟩
      refine ⟨h.start - low + h.gone.length, y, fs ++ cutL ls i (h.start - low) ++ h.come, some (.int (h.start : Int)), some (.ref g), some (.ref m), ?_, sm.trans s58, hy8, ?_⟩
      · show [_, _, _, _, some (V.int ((h.start : Int) - (low : Int) + ((h.gone.map V.str).length : Int))), _, _, _] = _
        rw [List.length_map, esub]; rfl
      · rw [← hp]; simp [List.append_assoc]
    · rintro σ H5 ⟨i, q, fs, x5, x6, x7, rfl, sm, hq, hp⟩
      rw [ln, List.drop_length, rewF] at hp
      have hl := congrArg List.length hp
      simp only [List.length_append] at hl
      refine ⟨_, rfl, _, rfl, _, rfl, _, rfl, ?_⟩
      dsimp only [tNoPart]
      refine sl_linesFrom (sm.seqT hA) fun H6 p s56 hp6 => ?_
      refine ⟨p, _, rfl, hp6, ?_⟩
      refine cat_linesB (s56.seqT hq) hp6 (by omega) fun H7 r s67 hr7 => ?_
      exact k _ r (sm.trans (s56.trans s67)) (by rw [← hp]; exact hr7)
end
end VK
end

section
set_option Elab.async false
set_option linter.all false
set_option pp.maxSteps 1500
set_option maxRecDepth 100000
set_option maxHeartbeats 4000000
namespace VK
open PySem L2
abbrev s_add_same : Stmt := topS 18
theorem sc_add_same : FnScope ["found", "lines"] ["found", "lines"] (defScope s_add_same) := ⟨rfl, rfl, rfl, by decide +kernel, rfl, by decide +kernel, by decide +kernel⟩
def spAdd (K : PySem.W.Frag) : Sp := fun vs H Q _ => ∃ (fo a : Addr) (ws : List V) (ps : List Part) (ls : List Str), vs = [.ref fo, .ref a] ∧ H fo = some (.lst ws) ∧ DpAll K H ws (ps.map partD) ∧ SqT K H a (ls.map V.str) ∧ ps.length ≤ 100000 ∧ (∀ p ∈ ps, plP p ≤ 100000) ∧ ls.length ≤ 100000 ∧
  ∀ (H' : Hp) (ws' : List V), Sv fo H H' → H' fo = some (.lst ws') → DpAll K H' ws' ((addPart ps (.same ls)).map partD) → Q .non H'
section
variable {P : Program} {w : World} {K : PySem.W.Frag} {mg : Str → Option Value} {base : Heap}
theorem ok_add {f : Addr} {fd : FuncData} (F : Fun K "add_same" "add_same" s_add_same f fd) (T0 : Txt0 mg) : FnOk P w K mg base CX0 1 f fd ["found", "lines"] (spAdd K) := by
  refine F.ok sc_add_same (fun vs H Q E h => ?_) (fun cdv A outer s H vs Q E hr h => ?_)
  · obtain ⟨fo, a, ws, ps, ls, rfl, _⟩ := h
    rfl
  · obtain ⟨fo, a, ws, ps, ls, rfl, hfo, hd, hA, hpl, hpp, hll, k⟩ := h
    refine ⟨_, (pss_one (ps_if (PW.pt (pw_and (pt_truth (pv 1) (by intro _; rfl)) (pw_and (pt_truth (pv 0) (by intro _; rfl)) (pw_and1 (pt_cmpR op_eq (pe_ix ix_tup (pe_ix ix_list (pv 0) (pe_un un_neg pe_int) (fun _ _ => rfl)) pe_int (fun _ _ => rfl)) pe_str (nomark _))))))
        (pss_one (ps_asg (pe_tup (pa_cons pe_str (pa_cons (pe_op op_catA (pe_ix ix_tup (pe_ix ix_list (pv 0) (pe_un un_neg pe_int) (fun _ _ => rfl)) pe_int (fun _ _ => rfl)) (pe_callTy call_tupleT (by rfl) T0.z_tuple (by decide +kernel) (pa_cons (pv 1) pa_nil))) pa_nil))) (pg_sub (pv 0) (pe_un un_neg pe_int) set_list)))
        (pss_one (ps_if (pt_truth (pv 1) (by intro _; rfl))
          (pss_one (ps_expr (pe_bm PySem.F.plainAttrs_list PySem.F.slot_list_append PySem.F.type_list_append mt_append (pv 0) (pa_cons (pe_tup (pa_cons pe_str (pa_cons (pe_callTy call_tupleT (by rfl) T0.z_tuple (by decide +kernel) (pa_cons (pv 1) pa_nil)) pa_nil))) pa_nil))))
          pss_nil)))), ?_⟩
    have lw : ws.length = ps.length := by rw [dpAll_len hd, List.length_map]
    cases ls with
    | nil =>
      refine ⟨_, rfl, false, .inr (.inl ⟨_, hA, rfl⟩), ?_⟩
      refine iteF ?_
      refine iteF ?_
      refine ⟨_, rfl, false, .inr (.inl ⟨_, hA, rfl⟩), ?_⟩
      refine iteF ?_
      exact k H ws (Sv.refl _ _) hfo hd
    | cons l ls =>
      have app : addPart ps (.same (l :: ls)) = ps ++ [.same (l :: ls)] → ∀ q, H q = none → Q .non (upd (upd H q (.tup [.str "same", .ref a])) fo (.lst (ws ++ [.ref q]))) := fun e q hq => by
        have n : fo ≠ q := ne_of_none hfo hq
        have h2 : upd H q (.tup [.str "same", .ref a]) fo = some (.lst ws) := by rw [upd_ne n]; exact hfo
        have tk := (TK.new (K := K) (o := .tup [.str "same", .ref a]) hq).trans (TK.lst (o := .lst (ws ++ [.ref q])) h2)
        refine k _ (ws ++ [.ref q]) ((Sv.new hq).trans Sv.at_) upd_same ?_
        rw [e, List.map_append]
        exact dpAll_app (parts_keep tk hd) (dpAll_one (dp_same (b := a) (TK.lst h2 _ _ (.inl (.inl upd_same))) (tk _ _ hA)))
      have lws : ws.length < sizeLine := Nat.lt_of_le_of_lt (show ws.length ≤ 100000 by omega) (by decide)
      refine ⟨_, rfl, true, .inr (.inl ⟨_, hA, rfl⟩), ?_⟩
      refine iteT ?_
      rcases List.eq_nil_or_concat ps with rfl | ⟨init, x, rfl⟩
      · have e0 : ws = [] := List.eq_nil_of_length_eq_zero lw
        subst e0
        refine ⟨_, rfl, false, .inl ⟨_, SqL.of hfo, rfl⟩, ?_⟩
        refine iteF ?_
        refine iteF ?_
        refine ⟨_, rfl, true, .inr (.inl ⟨_, hA, rfl⟩), ?_⟩
        refine iteT ?_
        refine ⟨_, rfl, .inl ⟨rfl, _, SqL.of hfo⟩, _, rfl, _, _, rfl, hA, by show 2 ≤ sizeLine; decide, fun q hq => ⟨fo, [], _, rfl, rfl, by rw [upd_ne (ne_of_none hfo hq)]; exact hfo, lws, ?_⟩⟩
        exact app rfl q hq
      · rw [List.concat_eq_append] at *
        rw [List.map_append] at hd
        obtain ⟨us, v, rfl, hd1, hdv⟩ := dpAll_split hd
        obtain ⟨z, r, rfl, hz⟩ := of_part hdv
        refine ⟨_, rfl, true, .inl ⟨_, SqL.of hfo, by simp⟩, ?_⟩
        refine iteT ?_
        refine ⟨_, rfl, _, rfl, fo, _, _, _, rfl, rfl, SqL.of hfo, at_last, z, _, _, _, rfl, rfl, hz, at_head, rfl, _, rfl, ?_⟩
        cases x with
        | clash b o t =>
          refine iteF ?_
          refine ⟨_, rfl, true, .inr (.inl ⟨_, hA, rfl⟩), ?_⟩
          refine iteT ?_
          refine ⟨_, rfl, .inl ⟨rfl, _, SqL.of hfo⟩, _, rfl, _, _, rfl, hA, by show 2 ≤ sizeLine; decide, fun q hq => ⟨fo, _, _, rfl, rfl, by rw [upd_ne (ne_of_none hfo hq)]; exact hfo, lws, ?_⟩⟩
          refine app ?_ q hq
          simp [addPart]
        | same xs =>
          refine iteT ?_
          obtain ⟨z', y, ez, hz2, hy⟩ := of_same hdv
          cases ez
          have q1 : xs.length ≤ 100000 := hpp (.same xs) (List.mem_append_right _ (List.mem_singleton.mpr rfl))
          refine ⟨_, rfl, _, rfl, fo, _, _, _, rfl, rfl, SqL.of hfo, at_last, z, _, _, _, rfl, rfl, hz2, rfl, ?_⟩
          refine ⟨_, rfl, a, _, rfl, hA, ?_⟩
          refine cat_linesB hy hA (by omega) fun H2 p s2 hp2 => ⟨by show 2 ≤ sizeLine; decide, fun q hq => ?_⟩
          have hfo2 : H2 fo = some (.lst (us ++ [.ref z])) := s2 _ _ hfo
          have n : fo ≠ q := ne_of_none hfo2 hq
          have h3 : upd H2 q (.tup [.str "same", .ref p]) fo = some (.lst (us ++ [.ref z])) := by rw [upd_ne n]; exact hfo2
          refine ⟨_, rfl, _, rfl, fo, _, _, _, rfl, rfl, h3, ix_last, ?_⟩
          rw [set_last]
          have tk := (TK.same s2).trans ((TK.new (K := K) (o := .tup [.str "same", .ref p]) hq).trans (TK.lst (o := .lst (us ++ [.ref q])) h3))
          refine k _ (us ++ [.ref q]) ((Sv.same s2).trans ((Sv.new hq).trans Sv.at_)) upd_same ?_
          have e : addPart (init ++ [Part.same xs]) (.same (l :: ls)) = init ++ [.same (xs ++ (l :: ls))] := by simp [addPart]
          rw [e, List.map_append]
          refine dpAll_app (parts_keep tk hd1) (dpAll_one (dp_same (b := p) (TK.lst h3 _ _ (.inl (.inl upd_same))) ?_))
          exact ((TK.new hq).trans (TK.lst h3)) _ _ hp2
end
end VK
end

section
set_option Elab.async false
set_option linter.all false
set_option pp.maxSteps 1500
set_option maxRecDepth 100000
set_option maxHeartbeats 4000000
namespace VK
open PySem L2
/-! pairs in a list, as new tuples -/
def PTu (H : Hp) (x : V) : Prop := ∃ (t : Addr) (i j : Nat), x = .ref t ∧ H t = some (.tup [.int (i : Int), .int (j : Int)])
def kOf (H : Hp) (v : V) : Int × Int := match v with
  | .ref t => (match H t with
    | some (.tup [.int i, .int j]) => (i, j)
    | _ => (0, 0))
  | _ => (0, 0)
def kN (H : Hp) (v : V) : Nat × Nat := ((kOf H v).1.toNat, (kOf H v).2.toNat)
theorem kOf_at {H : Hp} {t : Addr} {i j : Int} (h : H t = some (.tup [.int i, .int j])) : kOf H (.ref t) = (i, j) := by
  unfold kOf
  dsimp only
  rw [h]
structure PA (H : Hp) (ys : List V) (ps : List (Nat × Nat)) : Prop where
  eq : ps = ys.map (kN H)
  all : ∀ x ∈ ys, PTu H x
theorem PA.dp {K : PySem.W.Frag} {H : Hp} : ∀ {ys : List V} {ps : List (Nat × Nat)}, PA H ys ps → DpAll K H ys (ps.map pairD)
  | [], _, ⟨rfl, _⟩ => .nil
  | x :: ys, _, ⟨rfl, h⟩ => by
    obtain ⟨t, i, j, rfl, ht⟩ := h x (List.mem_cons_self ..)
    refine .cons ?_ (PA.dp ⟨rfl, fun y hy => h y (List.mem_cons_of_mem _ hy)⟩)
    have e : kN H (.ref t) = (i, j) := by
      unfold kN
      rw [kOf_at ht]
      rfl
    rw [e]
    exact dp_pair (.inl (.inl ht))
theorem kN_same {H H' : Hp} (s : Same H H') {x : V} (h : PTu H x) : kN H' x = kN H x ∧ PTu H' x := by
  obtain ⟨t, i, j, rfl, ht⟩ := h
  refine ⟨?_, t, i, j, rfl, s _ _ ht⟩
  unfold kN
  rw [kOf_at ht, kOf_at (s _ _ ht)]
theorem PA.same {H H' : Hp} (s : ∀ a xs, H a = some (.tup xs) → H' a = some (.tup xs)) {ys : List V} {ps : List (Nat × Nat)} (h : PA H ys ps) : PA H' ys ps := by
  have q : ∀ x ∈ ys, kN H' x = kN H x ∧ PTu H' x := fun x hx => by
    obtain ⟨t, i, j, rfl, ht⟩ := h.all x hx
    refine ⟨?_, t, i, j, rfl, s _ _ ht⟩
    unfold kN
    rw [kOf_at ht, kOf_at (s _ _ ht)]
  refine ⟨?_, fun x hx => (q x hx).2⟩
  rw [h.eq]
  exact List.map_congr_left fun x hx => (q x hx).1.symm
theorem PA.snoc {H : Hp} {ys : List V} {ps : List (Nat × Nat)} (h : PA H ys ps) {t : Addr} {i j : Nat} (ht : H t = some (.tup [.int (i : Int), .int (j : Int)])) : PA H (ys ++ [.ref t]) (ps ++ [(i, j)]) := by
  refine ⟨?_, fun x hx => ?_⟩
  · rw [List.map_append, ← h.eq]
    congr 1
    show [(i, j)] = [kN H (.ref t)]
    unfold kN
    rw [kOf_at ht]
    rfl
  · rcases List.mem_append.mp hx with hx | hx
    · exact h.all x hx
    · rw [List.mem_singleton.mp hx]
      exact ⟨t, i, j, rfl, ht⟩
theorem PA.sorted {H : Hp} {ys zs : List V} {ps : List (Nat × Nat)} (h : PA H ys ps) (hs : SrtO.Srtd (ltP (kOf H)) zs) (hst : SrtO.Stb (ltP (kOf H)) zs ys) : PA H zs (sortP ps) := by
  have all : ∀ x ∈ zs, PTu H x := fun x hx => h.all x (hst.perm.mem_iff.mp hx)
  refine ⟨?_, all⟩
  refine (sorted_uniq ((hst.perm.map (kN H)).trans ((by rw [h.eq] : ps = ys.map (kN H)) ▸ (sortP_perm ps).symm)) ?_ (sortP_sorted ps)).symm
  rw [List.pairwise_map]
  refine (List.Pairwise.and_mem.mp hs).imp fun {a b} q => ?_
  obtain ⟨ha, hb, hl⟩ := q
  obtain ⟨t, i, j, rfl, ht⟩ := all a ha
  obtain ⟨t', i', j', rfl, ht'⟩ := all b hb
  have hl2 := SrtO.lexB_no.mp hl
  rw [kOf_at ht, kOf_at ht'] at hl2
  have e1 : kN H (.ref t) = (i, j) := by unfold kN; rw [kOf_at ht]; rfl
  have e2 : kN H (.ref t') = (i', j') := by unfold kN; rw [kOf_at ht']; rfl
  rw [e1, e2]
  simp only [leP, Bool.or_eq_true, Bool.and_eq_true, decide_eq_true_eq]
  dsimp only at hl2
  omega
abbrev s_spans_between : Stmt := topS 13
theorem sc_spans_between : FnScope ["one", "two", "found", "low", "high", "start", "gone", "_"] ["one", "two"] (defScope s_spans_between) := ⟨rfl, rfl, rfl, by decide +kernel, rfl, by decide +kernel, by decide +kernel⟩
def spSpans (K : PySem.W.Frag) : Sp := fun vs H Q _ => ∃ (a b : Addr) (f s : List Hunk), vs = [.ref a, .ref b] ∧ Dp K H (.ref a) (hunksD f) ∧ Dp K H (.ref b) (hunksD s) ∧ f.length ≤ 1000 ∧ s.length ≤ 1000 ∧
  ∀ (H' : Hp) (l : Addr) (ws : List V), Same H H' → H l = none → H' l = some (.lst ws) → DpAll K H' ws ((spansF f s).map pairD) → Q (.ref l) H'
section
variable {P : Program} {w : World} {K : PySem.W.Frag} {mg : Str → Option Value} {base : Heap}
theorem ok_spans {f : Addr} {fd : FuncData} (F : Fun K "spans_between" "spans_between" s_spans_between f fd) (T0 : Txt0 mg) (z_sorted : mg "sorted" = none) : FnOk P w K mg base CX0 1 f fd ["one", "two"] (spSpans K) := by
  refine F.ok sc_spans_between (fun vs H Q E h => ?_) (fun cdv A outer s H vs Q E hr h => ?_)
  · obtain ⟨a, b, f, s, rfl, _⟩ := h
    rfl
  · obtain ⟨a, b, f, s, rfl, hA, hB, hf, hs, k⟩ := h
    refine ⟨_, (pss_cons (ps_set (i := 2) sc_spans_between.nd rfl (Or.inl rfl) (pe_lst pa_nil))
      (pss_cons (ps_for PassesOwn.never rfl (pi_list (pe_callB cr_sortedPO (by rfl) z_sorted (by decide +kernel) (pa_cons (pe_lc (own := [("start", 5), ("gone", 6), ("_", 7)]) (g := _) (tt := tYes) rfl sc_spans_between.nd (pi_tup (pe_op op_catA (pv 0) (pv 1))) (blkOk_by (own := [("start", 5), ("gone", 6), ("_", 7)]) (N := ["one", "two", "found", "low", "high", "start", "gone", "_"]) (sc := defScope s_spans_between) (by decide +kernel)) (fun _ _ _ _ _ => (pg_tupQ (K := K) (n := 3) rfl rfl (pgs_cons (pg_name (i := 5) sc_spans_between.nd rfl (Or.inl rfl)) (pgs_cons (pg_name (i := 6) sc_spans_between.nd rfl (Or.inl rfl)) (pgs_cons (pg_name (i := 7) sc_spans_between.nd rfl (Or.inl rfl)) pgs_nil))))) (fun _ _ _ _ _ => pts_nil) (fun _ _ _ _ _ => (pe_tup (pa_cons (pv 5) (pa_cons (pe_op op_add (pv 5) (pe_callB (call_lenQ (K := K) rfl) (by rfl) T0.z_len PySem.boot_len (pa_cons (pv 6) pa_nil))) pa_nil))))) pa_nil))) (pg_tup rfl (pgs_cons (pg_name (i := 3) sc_spans_between.nd rfl (Or.inl rfl)) (pgs_cons (pg_name (i := 4) sc_spans_between.nd rfl (Or.inl rfl)) pgs_nil)))
        (pss_one (ps_if (PW.pt (pw_and (pt_truth (pv 2) (by intro _; rfl)) (pw_and1 (pt_cmpR op_le (pv 3) (pe_ix ix_tup (pe_ix ix_list (pv 2) (pe_un un_neg pe_int) (fun _ _ => rfl)) pe_int (fun _ _ => rfl)) (nomark _)))))
          (pss_one (ps_asg (pe_tup (pa_cons (pe_ix ix_tup (pe_ix ix_list (pv 2) (pe_un un_neg pe_int) (fun _ _ => rfl)) pe_int (fun _ _ => rfl)) (pa_cons (pe_callB (call_max2 rfl) (by rfl) T0.z_max (by decide +kernel) (pa_cons (pe_ix ix_tup (pe_ix ix_list (pv 2) (pe_un un_neg pe_int) (fun _ _ => rfl)) pe_int (fun _ _ => rfl)) (pa_cons (pv 4) pa_nil))) pa_nil))) (pg_sub (pv 2) (pe_un un_neg pe_int) set_list)))
          (pss_one (ps_expr (pe_bm PySem.F.plainAttrs_list PySem.F.slot_list_append PySem.F.type_list_append mt_append (pv 2) (pa_cons (pe_tup (pa_cons (pv 3) (pa_cons (pv 4) pa_nil))) pa_nil)))))))
      (pss_one (ps_ret (pv 2))))), ?_⟩
    obtain ⟨a', us, ea, ha, hda⟩ := of_tupD hA
    cases ea
    obtain ⟨b', vs, eb, hb, hdb⟩ := of_tupD hB
    cases eb
    have lu : us.length = f.length := by rw [dpAll_len hda, List.length_map]
    have lv : vs.length = s.length := by rw [dpAll_len hdb, List.length_map]
    refine ⟨by show 0 ≤ sizeLine; decide, fun fo hfo => ?_⟩
    have s0 : Same H (upd H fo (.lst [])) := same_new hfo
    refine ⟨_, rfl, _, rfl, cat_tupK (s0.seqT ha) (s0.seqT hb) (Nat.le_trans (show us.length + vs.length ≤ 2000 by omega) (by decide)) fun H1 c s1 hc => ?_⟩
    have s01 := s0.trans s1
    have hd1 : DpAll K H1 (us ++ vs) ((f ++ s).map hunkD) := by
      rw [List.map_append]
      exact dpAll_app (hunks_keep (TK.same s01) hda) (hunks_keep (TK.same s01) hdb)
    have ln : (us ++ vs).length = (f ++ s).length := by rw [List.length_append, List.length_append, lu, lv]
    refine ⟨c, rfl, ⟨_, hc⟩, fun D hD => ?_⟩
    refine lc_tup (xs := us ++ vs) (fun t H' => ∃ ys, H' D = some (.lst ys) ∧ Same H1 H' ∧ PA H' ys (((f ++ s).take t).map hspan)) ⟨[], upd_same, same_new hD, rfl, fun _ h => nomatch h⟩ (fun t H' _ h => by obtain ⟨ys, h1, h2, h3⟩ := h; exact h2.seqT hc) ?_ ?_
    · rintro t x H3 hx ⟨ys, hys, s3, hpa⟩
      have ht : t < (f ++ s).length := by rw [← ln]; exact (List.getElem?_eq_some_iff.mp hx).1
      obtain ⟨h, eh⟩ : ∃ h, h = (f ++ s)[t] := ⟨_, rfl⟩
      have hrt : (f ++ s)[t]? = some h := by rw [List.getElem?_eq_getElem ht, eh]
      obtain ⟨v, hv1, hv2⟩ := dpAll_at (hunks_keep (TK.same s3) hd1) (k := t) (d := hunkD h) (by rw [List.getElem?_map, hrt]; rfl)
      obtain rfl : v = x := Option.some.inj (hv1.symm.trans hx)
      obtain ⟨z, g, m, rfl, hz, hg, hm⟩ := of_hunk hv2
      have etk : (f ++ s).take (t + 1) = (f ++ s).take t ++ [h] := by rw [List.take_succ, hrt]; rfl
      have lys : ys.length < 1000000 := by
        have q1 := congrArg List.length hpa.eq
        rw [List.length_map, List.length_map, List.length_take] at q1
        rw [List.length_append] at ht
        omega
      refine ⟨z, _, rfl, hz, rfl, _, _, rfl, _, _, rfl, _, _, rfl, rfl, rfl, ?_⟩
      refine ⟨_, rfl, _, rfl, _, rfl, g, _, rfl, .inr hg, _, _, rfl, rfl, by show 2 ≤ sizeLine; decide, fun q hq => ?_⟩
      have hys2 : upd H3 q (.tup [.int (h.start : Int), .int ((h.start : Int) + ((h.gone.map V.str).length : Int))]) D = some (.lst ys) := by rw [upd_ne (ne_of_none hys hq)]; exact hys
      refine ⟨ys, hys2, Nat.lt_of_lt_of_le lys (by decide), ys ++ [.ref q], upd_same, same_mut (s3.trans (same_new hq)) hD, ?_⟩
      rw [etk, List.map_append]
      refine (hpa.same fun a xs e => ?_).snoc ?_
      · have n1 : a ≠ q := ne_of_none e hq
        have n2 : a ≠ D := by rintro rfl; rw [hys] at e; cases e
        rw [upd_ne n2, upd_ne n1]; exact e
      · have n2 : q ≠ D := by rintro rfl; rw [hys] at hq; cases hq
        rw [upd_ne n2, upd_same, List.length_map]
        rfl
    · rintro H3 ⟨ys, hys, s3, hpa⟩
      rw [ln, List.take_length] at hpa
      refine ⟨D, ys, kOf H3, rfl, SqL.of hys, fun x hx => ?_, fun zs p hz1 hz2 hp => ?_⟩
      · obtain ⟨t, i, j, rfl, ht⟩ := hpa.all x hx
        exact ⟨t, rfl, by rw [kOf_at ht]; exact ht⟩
      · obtain ⟨H4, e4⟩ : ∃ H4, H4 = upd H3 p (.lst zs) := ⟨_, rfl⟩
        rw [← e4]
        have s34 : Same H3 H4 := by rw [e4]; exact same_new hp
        have hp4 : H4 p = some (.lst zs) := by rw [e4, upd_same]
        obtain ⟨qs, eqs⟩ : ∃ qs, qs = sortP ((f ++ s).map hspan) := ⟨_, rfl⟩
        have hd4 : DpAll K H4 zs (qs.map pairD) := by
          rw [eqs]
          exact ((hpa.sorted hz1 hz2).same fun a xs e => s34 _ _ e).dp
        have lz : zs.length = qs.length := by rw [dpAll_len hd4, List.length_map]
        have lq : qs.length ≤ 2000 := by
          rw [eqs, (sortP_perm _).length_eq, List.length_map, List.length_append]
          omega
        have s14 : Same H1 H4 := s3.trans s34
        have hfo4 : H4 fo = some (.lst []) := s14 _ _ (s1 _ _ upd_same)
        have s4 : Same H H4 := s01.trans s14
        have npf : p ≠ fo := fun e => by
          rw [e, s3 _ _ (s1 _ _ upd_same)] at hp
          cases hp
        refine ⟨p, rfl, ⟨_, SqL.of hp4⟩, ?_⟩
        refine for_it (walk_list (xs := zs)) (fun c σ H' => ∃ (vs : List V) (dn : List (Nat × Nat)) (x3 x4 : Option V), σ = [some (.ref a), some (.ref b), some (.ref fo), x3, x4, none, none, none] ∧ Same H H' ∧ TK K H4 H' ∧ H' p = some (.lst zs) ∧ H' fo = some (.lst vs) ∧ DpAll K H' vs (dn.map pairD) ∧ (qs.drop c).foldl addSpan dn = spansF f s ∧ dn.length ≤ c) ?_ (fun c σ H' _ h => ?_) ?_ ?_
        · exact ⟨[], [], none, none, rfl, s4, TK.refl _ _, hp4, hfo4, .nil, by rw [eqs]; rfl, Nat.le_refl _⟩
        · obtain ⟨vs, dn, x3, x4, rfl, h1, h2, h3, h4⟩ := h
          exact SqL.of h3
        · rintro c x σ H5o H5 hc ⟨vs, dn, x3, x4, rfl, sm, tk, hpp, hv, hdd, hfold, hlen⟩ ⟨rfl, hx⟩
          have hcf : c < qs.length := by rw [← lz]; exact hc
          obtain ⟨⟨lo, hi⟩, eq⟩ : ∃ q, q = qs[c] := ⟨_, rfl⟩
          have hf : qs[c]? = some (lo, hi) := by rw [List.getElem?_eq_getElem hcf, eq]
          obtain ⟨v, hv1, hv2⟩ := dpAll_at (pairs_keep tk hd4) (k := c) (d := pairD (lo, hi)) (by rw [List.getElem?_map, hf]; rfl)
          obtain rfl : v = x := Option.some.inj (hv1.symm.trans hx)
          obtain ⟨z, rfl, hz⟩ := of_pair hv2
          have ed : qs.drop c = (lo, hi) :: qs.drop (c + 1) := by rw [List.drop_eq_getElem_cons hcf, ← eq]
          rw [ed, List.foldl_cons] at hfold
          have lvs : vs.length < sizeLine := by
            have q1 := dpAll_len hdd
            rw [List.length_map] at q1
            exact Nat.lt_of_lt_of_le (show vs.length < 5000 by omega) (by decide)
          -- a new pair is put behind
          have app : addSpan dn (lo, hi) = dn ++ [(lo, hi)] → ∀ q, H5 q = none → ∃ (vs' : List V) (dn' : List (Nat × Nat)) (x3 x4 : Option V), [some (V.ref a), some (.ref b), some (.ref fo), some (.int (lo : Int)), some (.int (hi : Int)), none, none, none] = [some (V.ref a), some (.ref b), some (.ref fo), x3, x4, none, none, none] ∧ Same H (upd (upd H5 q (.tup [.int (lo : Int), .int (hi : Int)])) fo (.lst (vs ++ [.ref q]))) ∧ TK K H4 (upd (upd H5 q (.tup [.int (lo : Int), .int (hi : Int)])) fo (.lst (vs ++ [.ref q]))) ∧
              (upd (upd H5 q (.tup [.int (lo : Int), .int (hi : Int)])) fo (.lst (vs ++ [.ref q]))) p = some (.lst zs) ∧ (upd (upd H5 q (.tup [.int (lo : Int), .int (hi : Int)])) fo (.lst (vs ++ [.ref q]))) fo = some (.lst vs') ∧ DpAll K (upd (upd H5 q (.tup [.int (lo : Int), .int (hi : Int)])) fo (.lst (vs ++ [.ref q]))) vs' (dn'.map pairD) ∧ (qs.drop (c + 1)).foldl addSpan dn' = spansF f s ∧ dn'.length ≤ c + 1 := fun e q hq => by
            have h2 : upd H5 q (.tup [.int (lo : Int), .int (hi : Int)]) fo = some (.lst vs) := by rw [upd_ne (ne_of_none hv hq)]; exact hv
            have tk2 := (TK.new (K := K) (o := .tup [.int (lo : Int), .int (hi : Int)]) hq).trans (TK.lst (o := .lst (vs ++ [.ref q])) h2)
            refine ⟨vs ++ [.ref q], dn ++ [(lo, hi)], _, _, rfl, same_mut (sm.trans (same_new hq)) hfo, tk.trans tk2, ?_, upd_same, ?_, ?_, ?_⟩
            · rw [upd_ne npf, upd_ne (ne_of_none hpp hq)]; exact hpp
            · rw [List.map_append]
              exact dpAll_app (pairs_keep tk2 hdd) (dpAll_one (dp_pair (TK.lst h2 _ _ (.inl (.inl upd_same)))))
            · rw [← e]; exact hfold
            · rw [List.length_append]; exact Nat.succ_le_succ hlen
          refine ⟨z, _, rfl, hz, rfl, _, _, rfl, _, _, rfl, rfl, ?_⟩
          rcases List.eq_nil_or_concat dn with rfl | ⟨init, w, rfl⟩
          · cases hdd
            refine ⟨_, rfl, false, .inl ⟨_, SqL.of hv, rfl⟩, ?_⟩
            refine iteF ?_
            refine iteF ?_
            refine ⟨_, rfl, .inl ⟨rfl, _, SqL.of hv⟩, _, rfl, _, rfl, by show 2 ≤ sizeLine; decide, fun q hq => ⟨fo, [], _, rfl, rfl, by rw [upd_ne (ne_of_none hv hq)]; exact hv, lvs, ?_⟩⟩
            exact app rfl q hq
          · rw [List.concat_eq_append] at *
            rw [List.map_append] at hdd
            obtain ⟨us', v', rfl, hd1', hdv⟩ := dpAll_split hdd
            obtain ⟨z', rfl, hz'⟩ := of_pair hdv
            refine ⟨_, rfl, true, .inl ⟨_, SqL.of hv, by simp⟩, ?_⟩
            refine iteT ?_
            refine ⟨_, rfl, _, rfl, _, rfl, fo, _, _, _, rfl, rfl, SqL.of hv, at_last, z', _, _, _, rfl, rfl, hz', rfl, _, _, rfl, rfl, _, rfl, ?_⟩
            refine ite2 (fun e => ?_) (fun e => ?_)
            · have e' : lo ≤ w.2 := by
                have := of_decide_eq_true e
                omega
              refine ⟨_, rfl, _, rfl, fo, _, _, _, rfl, rfl, SqL.of hv, at_last, z', _, _, _, rfl, rfl, hz', rfl, ?_⟩
              refine ⟨_, rfl, _, rfl, fo, _, _, _, rfl, rfl, SqL.of hv, at_last, z', _, _, _, rfl, rfl, hz', rfl, _, rfl, _, _, rfl, by show 2 ≤ sizeLine; decide, fun q hq => ?_⟩
              have em : (if (hi : Int) > (w.2 : Int) then (hi : Int) else (w.2 : Int)) = ((max w.2 hi : Nat) : Int) := by
                by_cases z : (hi : Int) > (w.2 : Int)
                · rw [if_pos z]; omega
                · rw [if_neg z]; omega
              have h2 : upd H5 q (.tup [.int (w.1 : Int), .int (if (hi : Int) > (w.2 : Int) then (hi : Int) else (w.2 : Int))]) fo = some (.lst (us' ++ [.ref z'])) := by rw [upd_ne (ne_of_none hv hq)]; exact hv
              refine ⟨_, rfl, _, rfl, fo, _, _, _, rfl, rfl, h2, ix_last, ?_⟩
              rw [set_last]
              have tk2 := (TK.new (K := K) (o := .tup [.int (w.1 : Int), .int (if (hi : Int) > (w.2 : Int) then (hi : Int) else (w.2 : Int))]) hq).trans (TK.lst (o := .lst (us' ++ [.ref q])) h2)
              refine ⟨us' ++ [.ref q], init ++ [(w.1, max w.2 hi)], _, _, rfl, same_mut (sm.trans (same_new hq)) hfo, tk.trans tk2, ?_, upd_same, ?_, ?_, ?_⟩
              · rw [upd_ne npf, upd_ne (ne_of_none hpp hq)]; exact hpp
              · rw [List.map_append]
                refine dpAll_app (pairs_keep tk2 hd1') (dpAll_one (dp_pair (TK.lst h2 _ _ (.inl (.inl ?_)))))
                rw [upd_same, em]
              · have e2 : addSpan (init ++ [w]) (lo, hi) = init ++ [(w.1, max w.2 hi)] := by
                  unfold addSpan
                  simp [e']
                rw [← e2]; exact hfold
              · simp only [List.length_append, List.length_singleton] at hlen ⊢
                omega
            · have e' : ¬ lo ≤ w.2 := fun q => e (decide_eq_true (by omega))
              refine ⟨_, rfl, .inl ⟨rfl, _, SqL.of hv⟩, _, rfl, _, rfl, by show 2 ≤ sizeLine; decide, fun q hq => ⟨fo, _, _, rfl, rfl, by rw [upd_ne (ne_of_none hv hq)]; exact hv, lvs, ?_⟩⟩
              refine app ?_ q hq
              unfold addSpan
              simp [e']
        · rintro σ H5 ⟨vs, dn, x3, x4, rfl, sm, tk, hpp, hv, hdd, hfold, hlen⟩
          rw [lz, List.drop_length] at hfold
          rw [← (show dn = spansF f s from hfold)] at k
          exact ⟨_, rfl, k _ fo vs sm hfo hv hdd⟩
end
end VK
end

section
set_option Elab.async false
set_option linter.all false
set_option pp.maxSteps 1500
set_option maxRecDepth 100000
set_option maxHeartbeats 4000000
namespace VK
open PySem L2
theorem same_sv {p : Addr} {H H1 H2 : Hp} (e : Same H H1) (s : Sv p H1 H2) (h : H p = none) : Same H H2 := fun a x q => s a x (ne_of_none q h) (e a x q)
theorem tk_sv {K : PySem.W.Frag} {p : Addr} {H H' : Hp} {l : List V} (h : H p = some (.lst l)) (s : Sv p H H') : TK K H H' := fun a xs q => by
  rcases q with q | q
  · have n : a ≠ p := by
      rintro rfl
      rcases q with q | ⟨o, q⟩ <;> (rw [h] at q; cases q)
    exact .inl (s.rd q n)
  · exact .inr q
theorem hunksF_come {one two : List Str} : ∀ {r : List (Nat × Nat)} {i j : Nat} {h : Hunk}, h ∈ hunksF one two i j r → h.come.length ≤ two.length
  | [], _, _, _, hm => nomatch hm
  | (a, b) :: r, i, j, h, hm => by
    rw [hunksF] at hm
    rcases List.mem_append.mp hm with hm | hm
    · split at hm
      · rw [List.mem_singleton.mp hm]
        exact cut_le two j b
      · cases hm
    · exact hunksF_come hm
theorem hunksL_len (one two : List Str) : (hunksL one two).length ≤ one.length + 1 := by
  unfold hunksL
  refine Nat.le_trans (hunksF_len one two _ 0 0) ?_
  have q3 : T one two 0 0 ≤ one.length := lcs_le1 _ _
  rw [List.length_append, pairs_len, List.length_singleton]
  omega
theorem side_ok {base one : List Str} (hb : OkL base) (ho : OkL one) (lo hi : Nat) : OkL (sideF base (hunksL base one) lo hi) :=
  side_all (L := fun x => PyData.strOk x = true) hb (fun h hm x hx => ho x ((hunksF_sub hm).2 x hx)) lo hi
theorem cut_ok {base : List Str} (hb : OkL base) (i j : Nat) : OkL (cutL base i j) := fun x hx => hb x (cutL_sub hx)
abbrev s_merged_parts : Stmt := topS 17
theorem sc_merged_parts : FnScope ["base", "one", "two", "first", "second", "found", "here", "low", "high", "old", "left", "right"] ["base", "one", "two"] (defScope s_merged_parts) := ⟨rfl, rfl, rfl, by decide +kernel, rfl, by decide +kernel, by decide +kernel⟩
def spMerged (K : PySem.W.Frag) : Sp := fun vs H Q _ => ∃ (a b c : Addr) (base one two : List Str), vs = [.ref a, .ref b, .ref c] ∧ SqT K H a (base.map V.str) ∧ SqT K H b (one.map V.str) ∧ SqT K H c (two.map V.str) ∧ base.length ≤ 10 ∧ one.length ≤ 10 ∧ two.length ≤ 10 ∧ OkL base ∧ OkL one ∧ OkL two ∧
  ∀ (H' : Hp) (v : V), Same H H' → Dp K H' v (partsD (partsF base (hunksL base one) (hunksL base two))) → Q v H'
section
variable {P : Program} {w : World} {K : PySem.W.Frag} {mg : Str → Option Value} {base : Heap}
theorem ok_merged_parts {f fC fN fP fH fS fA fR fW C : Addr} {fd fdC fdN fdP fdH fdS fdA fdR fdW : FuncData} (F : Fun K "merged_parts" "merged_parts" s_merged_parts f fd) (T0 : Txt0 mg) (z_sorted : mg "sorted" = none) (L : TL K mg C) {tM : Tok} (hc : mg "MOST_PLACES" = some (.int 40000 tM))
    (DC : Df K mg "common_table" s_common_table ["one", "two"] fC fdC) (DN : Df K mg "next_pair" s_next_pair ["one", "two", "table", "place"] fN fdN) (DP : Df K mg "kept_pairs" s_kept_pairs ["one", "two"] fP fdP) (D_hunks_of : Df K mg "hunks_of" s_hunks_of ["one", "two"] fH fdH)
    (D_spans_between : Df K mg "spans_between" s_spans_between ["one", "two"] fS fdS) (D_add_same : Df K mg "add_same" s_add_same ["found", "lines"] fA fdA) (D_rewritten : Df K mg "rewritten" s_rewritten ["lines", "low", "hunks"] fR fdR) (D_within : Df K mg "within" s_within ["patch", "low", "high"] fW fdW) : FnOk P w K mg base CX0 4 f fd ["base", "one", "two"] (spMerged K) := by
  have G_hunks_of : FnOk P w K mg base CX0 3 fH fdH ["one", "two"] (spHunksOf K) := ok_hunks D_hunks_of.F T0 L hc DC DN DP
  have G_spans_between : FnOk P w K mg base CX0 1 fS fdS ["one", "two"] (spSpans K) := ok_spans D_spans_between.F T0 z_sorted
  have G_add_same : FnOk P w K mg base CX0 1 fA fdA ["found", "lines"] (spAdd K) := ok_add D_add_same.F T0
  have G_rewritten : FnOk P w K mg base CX0 1 fR fdR ["lines", "low", "hunks"] (spRew K) := ok_rew D_rewritten.F T0
  have G_within : FnOk P w K mg base CX0 1 fW fdW ["patch", "low", "high"] (spWithin K) := ok_within D_within.F T0
  refine F.ok sc_merged_parts (fun vs H Q E h => ?_) (fun cdv A outer s H vs Q E hr h => ?_)
  · obtain ⟨a, b, c, bs, one, two, rfl, _⟩ := h
    rfl
  · obtain ⟨a, b, c, bs, one, two, rfl, hA, hB, hC, lb, lo, lt, ob, oo, ot, k⟩ := h
    have hu := Nat.lt_of_le_of_lt (Nat.add_le_add (Nat.le_add_right _ _) (by decide : 64 ≤ 200)) hr.un
    refine ⟨_, (pss_cons (ps_par (i := 3) (j := 4) (by rfl) sc_merged_parts.nd rfl rfl (by decide) rfl rfl (pa_cons (pe_call G_hunks_of (hr.mono (by decide)) rfl D_hunks_of.m D_hunks_of.F.kp D_hunks_of.b .nil pass0 (pa_cons (pv 0) (pa_cons (pv 1) pa_nil))) (pa_cons (pe_call G_hunks_of (hr.mono (by decide)) rfl D_hunks_of.m D_hunks_of.F.kp D_hunks_of.b .nil pass0 (pa_cons (pv 0) (pa_cons (pv 2) pa_nil))) pa_nil)) (by rfl))
      (pss_cons (ps_par (i := 5) (j := 6) (by rfl) sc_merged_parts.nd rfl rfl (by decide) rfl rfl (pa_cons (pe_lst pa_nil) (pa_cons pe_int pa_nil)) (by rfl))
      (pss_cons (ps_for PassesOwn.never rfl (pi_list (pe_call G_spans_between (hr.mono (by decide)) rfl D_spans_between.m D_spans_between.F.kp D_spans_between.b .nil pass0 (pa_cons (pv 3) (pa_cons (pv 4) pa_nil)))) (pg_tup rfl (pgs_cons (pg_name (i := 7) sc_merged_parts.nd rfl (Or.inl rfl)) (pgs_cons (pg_name (i := 8) sc_merged_parts.nd rfl (Or.inl rfl)) pgs_nil)))
        (pss_cons (ps_expr (pe_call G_add_same (hr.mono (by decide)) rfl D_add_same.m D_add_same.F.kp D_add_same.b .nil pass0 (pa_cons (pv 5) (pa_cons (pe_slice sl_tupA (pv 0) (po_some (pv 6)) (po_some (pv 7))) pa_nil))))
        (pss_cons (ps_set (i := 9) sc_merged_parts.nd rfl (Or.inl rfl) (pe_callTy call_tupleT (by rfl) T0.z_tuple (by decide +kernel) (pa_cons (pe_slice sl_tupA (pv 0) (po_some (pv 7)) (po_some (pv 8))) pa_nil)))
        (pss_cons (ps_set (i := 10) sc_merged_parts.nd rfl (Or.inl rfl) (pe_call G_rewritten (hr.mono (by decide)) rfl D_rewritten.m D_rewritten.F.kp D_rewritten.b .nil pass0 (pa_cons (pv 9) (pa_cons (pv 7) (pa_cons (pe_call G_within (hr.mono (by decide)) rfl D_within.m D_within.F.kp D_within.b .nil pass0 (pa_cons (pv 3) (pa_cons (pv 7) (pa_cons (pv 8) pa_nil)))) pa_nil)))))
        (pss_cons (ps_set (i := 11) sc_merged_parts.nd rfl (Or.inl rfl) (pe_call G_rewritten (hr.mono (by decide)) rfl D_rewritten.m D_rewritten.F.kp D_rewritten.b .nil pass0 (pa_cons (pv 9) (pa_cons (pv 7) (pa_cons (pe_call G_within (hr.mono (by decide)) rfl D_within.m D_within.F.kp D_within.b .nil pass0 (pa_cons (pv 4) (pa_cons (pv 7) (pa_cons (pv 8) pa_nil)))) pa_nil)))))
        (pss_cons (ps_if (PW.pt (pw_or (pt_cmpR (op_eqD hr.units) (pv 10) (pv 11) (nomark _)) (pw_or1 (pt_cmpR (op_eqD hr.units) (pv 11) (pv 9) (nomark _)))))
          (pss_one (ps_expr (pe_call G_add_same (hr.mono (by decide)) rfl D_add_same.m D_add_same.F.kp D_add_same.b .nil pass0 (pa_cons (pv 5) (pa_cons (pv 10) pa_nil)))))
          (pss_one (ps_if (pt_cmpR (op_eqD hr.units) (pv 10) (pv 9) (nomark _))
            (pss_one (ps_expr (pe_call G_add_same (hr.mono (by decide)) rfl D_add_same.m D_add_same.F.kp D_add_same.b .nil pass0 (pa_cons (pv 5) (pa_cons (pv 11) pa_nil)))))
            (pss_one (ps_expr (pe_bm PySem.F.plainAttrs_list PySem.F.slot_list_append PySem.F.type_list_append mt_append (pv 5) (pa_cons (pe_tup (pa_cons pe_str (pa_cons (pv 9) (pa_cons (pv 10) (pa_cons (pv 11) pa_nil))))) pa_nil)))))))
        (pss_one (ps_set (i := 6) sc_merged_parts.nd rfl (Or.inl rfl) (pv 8)))))))))
      (pss_cons (ps_expr (pe_call G_add_same (hr.mono (by decide)) rfl D_add_same.m D_add_same.F.kp D_add_same.b .nil pass0 (pa_cons (pv 5) (pa_cons (pe_slice sl_tupA (pv 0) (po_some (pv 6)) po_none) pa_nil))))
      (pss_one (ps_ret (pe_callTy call_tuple_of (by rfl) T0.z_tuple (by decide +kernel) (pa_cons (pv 5) pa_nil)))))))), ?_⟩
    obtain ⟨f1, ef⟩ : ∃ f1, f1 = hunksL bs one := ⟨_, rfl⟩
    obtain ⟨f2, es⟩ : ∃ f2, f2 = hunksL bs two := ⟨_, rfl⟩
    have lf1 : f1.length ≤ 11 := by rw [ef]; have := hunksL_len bs one; omega
    have lf2 : f2.length ≤ 11 := by rw [es]; have := hunksL_len bs two; omega
    have cf1 : ∀ h ∈ f1, h.come.length ≤ 10 := fun h hm => by rw [ef] at hm; have := hunksF_come hm; omega
    have cf2 : ∀ h ∈ f2, h.come.length ≤ 10 := fun h hm => by rw [es] at hm; have := hunksF_come hm; omega
    have mo : bs.length * one.length ≤ 40000 := by have := Nat.mul_le_mul lb lo; omega
    have mt : bs.length * two.length ≤ 40000 := by have := Nat.mul_le_mul lb lt; omega
    refine ⟨_, rfl, _, rfl, a, b, bs, one, rfl, hA, hB, by omega, by omega, mo, fun H1 v1 s1 d1 => ?_⟩
    refine ⟨_, rfl, _, rfl, a, c, bs, two, rfl, s1.seqT hA, s1.seqT hC, by omega, by omega, mt, fun H2 v2 s2 d2 => ?_⟩
    rw [← ef] at d1
    rw [← es] at d2
    have s02 := s1.trans s2
    have d1' := dp_keep (TK.same s2) _ _ (imm_hunks f1) d1
    obtain ⟨p1, us1, rfl, -, -⟩ := of_tupD d1'
    obtain ⟨p2, us2, rfl, -, -⟩ := of_tupD d2
    refine ⟨_, _, rfl, ?_⟩
    refine ⟨by show 0 ≤ sizeLine; decide, fun fo hfo => ⟨_, _, rfl, ?_⟩⟩
    obtain ⟨H3, e3⟩ : ∃ H3, H3 = upd H2 fo (.lst []) := ⟨_, rfl⟩
    rw [← e3]
    have s23 : Same H2 H3 := by rw [e3]; exact same_new hfo
    have hfo3 : H3 fo = some (.lst []) := by rw [e3, upd_same]
    have s03 := s02.trans s23
    have hfo0 : H fo = none := none_of s02 hfo
    refine ⟨_, rfl, _, rfl, p1, p2, f1, f2, rfl, dp_keep (TK.same s23) _ _ (imm_hunks f1) d1', dp_keep (TK.same s23) _ _ (imm_hunks f2) d2, by omega, by omega, fun H4 l ws s4 hln hl hd => ⟨l, rfl, ⟨_, SqL.of hl⟩, ?_⟩⟩
    have s04 := s03.trans s4
    have hfo4 : H4 fo = some (.lst []) := s4 _ _ hfo3
    have nlf : l ≠ fo := fun e => by rw [e, hfo3] at hln; cases hln
    obtain ⟨sps, esp⟩ : ∃ sps, sps = spansF f1 f2 := ⟨_, rfl⟩
    rw [← esp] at hd
    have lw : ws.length = sps.length := by rw [dpAll_len hd, List.length_map]
    have lsp : sps.length ≤ 22 := by rw [esp]; have := spansF_len f1 f2; omega
    have rp := raw_plP (m := 10) (base := bs) (f := f1) (s := f2) lb lf1 lf2 cf1 cf2
    have d14 : Dp K H4 (.ref p1) (hunksD f1) := dp_keep (TK.same (s23.trans s4)) _ _ (imm_hunks f1) d1'
    have d24 : Dp K H4 (.ref p2) (hunksD f2) := dp_keep (TK.same (s23.trans s4)) _ _ (imm_hunks f2) d2
    have bnd : ∀ dn rest : List Part, dn ++ rest = rawF bs f1 f2 0 sps → dn.length ≤ 45 → (tidyF dn).length ≤ 100000 ∧ ∀ p ∈ tidyF dn, plP p ≤ 20000 := fun dn rest e hl => by
      obtain ⟨q1, q2⟩ := tidy_sz (k := (2 * 10 + 3) * 10) (ps := dn) fun q hq => rp sps 0 q (by rw [← e]; exact List.mem_append_left _ hq)
      refine ⟨by omega, fun p hp => Nat.le_trans (q2 p hp) ?_⟩
      have := Nat.mul_le_mul_right ((2 * 10 + 3) * 10) hl
      omega
    have tadd : ∀ (dn : List Part) (p : Part), tidyF (dn ++ [p]) = addPart (tidyF dn) p := fun dn p => by unfold tidyF; rw [List.foldl_append]; rfl
    refine for_it (walk_list (xs := ws)) (fun i σ H' => ∃ (here : Nat) (vs : List V) (dn : List Part) (x7 x8 x9 x10 x11 : Option V), σ = [some (.ref a), some (.ref b), some (.ref c), some (.ref p1), some (.ref p2), some (.ref fo), some (.int (here : Int)), x7, x8, x9, x10, x11] ∧ Same H H' ∧ TK K H4 H' ∧ H' l = some (.lst ws) ∧ H' fo = some (.lst vs) ∧ DpAll K H' vs ((tidyF dn).map partD) ∧ dn ++ rawF bs f1 f2 here (sps.drop i) = rawF bs f1 f2 0 sps ∧ dn.length = 2 * i) ?_ (fun i σ H' _ h => ?_) ?_ ?_
    · exact ⟨0, [], [], none, none, none, none, none, rfl, s04, TK.refl _ _, hl, hfo4, .nil, rfl, rfl⟩
    · obtain ⟨here, vs, dn, x7, x8, x9, x10, x11, rfl, h1, h2, h3, h4⟩ := h
      exact SqL.of h3
    · rintro i x σ H5o H5 hi ⟨here, vs, dn, x7, x8, x9, x10, x11, rfl, sm, tk, hll, hv, hdd, hraw, hdl⟩ ⟨rfl, hx⟩
      have hif : i < sps.length := by rw [← lw]; exact hi
      obtain ⟨⟨lo, hi'⟩, eq⟩ : ∃ q, q = sps[i] := ⟨_, rfl⟩
      have hf : sps[i]? = some (lo, hi') := by rw [List.getElem?_eq_getElem hif, eq]
      obtain ⟨v, hv1, hv2⟩ := dpAll_at (pairs_keep tk hd) (k := i) (d := pairD (lo, hi')) (by rw [List.getElem?_map, hf]; rfl)
      obtain rfl : v = x := Option.some.inj (hv1.symm.trans hx)
      obtain ⟨z, rfl, hz⟩ := of_pair hv2
      have ed : sps.drop i = (lo, hi') :: sps.drop (i + 1) := by rw [List.drop_eq_getElem_cons hif, ← eq]
      rw [ed, rawF] at hraw
      obtain ⟨bd1, bd2⟩ := bnd dn _ hraw (by omega)
      obtain ⟨l1, el1⟩ : ∃ l1, l1 = sideF bs f1 lo hi' := ⟨_, rfl⟩
      obtain ⟨l2, el2⟩ : ∃ l2, l2 = sideF bs f2 lo hi' := ⟨_, rfl⟩
      rw [← el1, ← el2] at hraw
      have ll1 : l1.length ≤ 230 := by rw [el1]; exact side_len (m := 10) lb lf1 cf1 lo hi'
      have ll2 : l2.length ≤ 230 := by rw [el2]; exact side_len (m := 10) lb lf2 cf2 lo hi'
      have lc1 := cut_le bs here lo
      refine ⟨z, _, rfl, hz, rfl, _, _, rfl, _, _, rfl, rfl, ?_⟩
      refine ⟨_, rfl, _, rfl, _, rfl, _, rfl, _, rfl, _, rfl, sl_lines (sm.seqT hA) fun H6 q s56 hq6 => ?_⟩
      have hv6 := s56 _ _ hv
      refine ⟨fo, q, vs, tidyF dn, cutL bs here lo, rfl, hv6, parts_keep (TK.same s56) hdd, hq6, bd1, fun p hp => Nat.le_trans (bd2 p hp) (by decide), by omega, fun H7 ws7 sv7 hf7 hd7 => ?_⟩
      have sm7 : Same H H7 := same_sv (sm.trans s56) sv7 hfo0
      have tk7 : TK K H4 H7 := tk.trans ((TK.same s56).trans (tk_sv hv6 sv7))
      have hl7 : H7 l = some (.lst ws) := sv7 _ _ nlf (s56 _ _ hll)
      refine ⟨_, rfl, _, rfl, _, rfl, _, rfl, _, rfl, sl_lines (sm7.seqT hA) fun H8 y s78 hy8 => ?_⟩
      refine ⟨y, _, rfl, hy8, ?_⟩
      have tk8 := tk7.trans (TK.same s78)
      -- left
      refine ⟨_, rfl, _, rfl, _, rfl, _, rfl, _, rfl, p1, f1, lo, hi', rfl, dp_keep tk8 _ _ (imm_hunks f1) d14, by omega, fun H9 l9 w9 s89 hn9 hl9 hd9 => ?_⟩
      refine ⟨y, l9, cutL bs lo hi', withinF f1 lo hi', w9, lo, rfl, s89.seqT hy8, hl9, hd9, fun h hh => ?_, ?_, fun H10 r1 s910 hr1 => ?_⟩
      · have := (List.mem_filter.mp hh).2
        simp only [Bool.and_eq_true, decide_eq_true_eq] at this
        exact this.1
      · show (sideF bs f1 lo hi').length ≤ _
        rw [← el1]; omega
      -- right
      have s8x := s89.trans s910
      have tk10 := tk8.trans (TK.same s8x)
      refine ⟨_, rfl, _, rfl, _, rfl, _, rfl, _, rfl, p2, f2, lo, hi', rfl, dp_keep tk10 _ _ (imm_hunks f2) d24, by omega, fun H11 l11 w11 s1011 hn11 hl11 hd11 => ?_⟩
      refine ⟨y, l11, cutL bs lo hi', withinF f2 lo hi', w11, lo, rfl, (s8x.trans s1011).seqT hy8, hl11, hd11, fun h hh => ?_, ?_, fun H12 r2 s1112 hr2 => ?_⟩
      · have := (List.mem_filter.mp hh).2
        simp only [Bool.and_eq_true, decide_eq_true_eq] at this
        exact this.1
      · show (sideF bs f2 lo hi').length ≤ _
        rw [← el2]; omega
      have s1012 := s1011.trans s1112
      have s812 := s8x.trans s1012
      have s712 := s78.trans s812
      have hr1' : SqT K H12 r1 (l1.map V.str) := by rw [el1]; exact s1012.seqT hr1
      have hr2' : SqT K H12 r2 (l2.map V.str) := by rw [el2]; exact hr2
      have hy12 := s812.seqT hy8
      have ok0 : OkL (cutL bs lo hi') := cut_ok ob lo hi'
      have ok1 : OkL l1 := by rw [el1, ef]; exact side_ok ob oo lo hi'
      have ok2 : OkL l2 := by rw [el2, es]; exact side_ok ob ot lo hi'
      have hv12 : H12 fo = some (.lst ws7) := s712 _ _ hf7
      have sm12 := sm7.trans s712
      have tk12 := tk7.trans (TK.same s712)
      have hl12 := s712 _ _ hl7
      have hd12 : DpAll K H12 ws7 ((addPart (tidyF dn) (.same (cutL bs here lo))).map partD) := parts_keep (TK.same s712) hd7
      have rw12 : (dn ++ [.same (cutL bs here lo)]) ++ joinP (cutL bs lo hi') l1 l2 :: rawF bs f1 f2 hi' (sps.drop (i + 1)) = rawF bs f1 f2 0 sps := by rw [List.append_assoc]; exact hraw
      obtain ⟨be1, be2⟩ := bnd _ _ rw12 (by rw [List.length_append]; simp; omega)
      rw [tadd] at be1 be2
      have fin : ∀ (H' : Hp) (vs' : List V), Sv fo H12 H' → H' fo = some (.lst vs') → DpAll K H' vs' ((addPart (addPart (tidyF dn) (.same (cutL bs here lo))) (joinP (cutL bs lo hi') l1 l2)).map partD) → ∃ (here' : Nat) (vs : List V) (dn : List Part) (x7 x8 x9 x10 x11 : Option V), [some (V.ref a), some (.ref b), some (.ref c), some (.ref p1), some (.ref p2), some (.ref fo), some (.int (hi' : Int)), some (.int (lo : Int)), some (.int (hi' : Int)), some (.ref y), some (.ref r1), some (.ref r2)] = [some (.ref a), some (.ref b), some (.ref c), some (.ref p1), some (.ref p2), some (.ref fo), some (.int (here' : Int)), x7, x8, x9, x10, x11] ∧ Same H H' ∧ TK K H4 H' ∧ H' l = some (.lst ws) ∧ H' fo = some (.lst vs) ∧ DpAll K H' vs ((tidyF dn).map partD) ∧ dn ++ rawF bs f1 f2 here' (sps.drop (i + 1)) = rawF bs f1 f2 0 sps ∧ dn.length = 2 * (i + 1) := fun H' vs' sv hv' hd' => by
        refine ⟨hi', vs', dn ++ [.same (cutL bs here lo), joinP (cutL bs lo hi') l1 l2], _, _, _, _, _, rfl, same_sv sm12 sv hfo0, tk12.trans (tk_sv hv12 sv), sv _ _ nlf hl12, hv', ?_, ?_, ?_⟩
        · have e : tidyF (dn ++ [.same (cutL bs here lo), joinP (cutL bs lo hi') l1 l2]) = addPart (addPart (tidyF dn) (.same (cutL bs here lo))) (joinP (cutL bs lo hi') l1 l2) := by
            unfold tidyF
            rw [List.foldl_append]; rfl
          rw [e]; exact hd'
        · rw [List.append_assoc]; exact hraw
        · rw [List.length_append, hdl]; simp; omega
      dsimp only [gName]
      refine tOr_pure (x := decide (l1 = l2)) (y := decide (l2 = cutL bs lo hi')) (fun Q h => ⟨_, rfl, _, rfl, eq_lines hr1' hr2' ok1 ok2 ⟨_, rfl, h⟩⟩) (fun Q h => ⟨_, rfl, _, rfl, eq_lines hr2' hy12 ok2 ok0 ⟨_, rfl, h⟩⟩) ?_
      refine ite2 (fun e => ?_) (fun e => ?_)
      · have e' : l1 = l2 ∨ l2 = cutL bs lo hi' := by
          rw [Bool.or_eq_true, decide_eq_true_eq, decide_eq_true_eq] at e
          exact e
        have ej : joinP (cutL bs lo hi') l1 l2 = .same l1 := by unfold joinP; rw [if_pos e']
        rw [ej] at fin
        refine ⟨_, rfl, _, rfl, fo, r1, ws7, _, l1, rfl, hv12, hd12, hr1', be1, fun p hp => Nat.le_trans (be2 p hp) (by decide), by omega, fun H13 ws13 sv13 hf13 hd13 => ⟨_, rfl, fin H13 ws13 sv13 hf13 hd13⟩⟩
      · have e' : ¬ (l1 = l2 ∨ l2 = cutL bs lo hi') := by
          rw [Bool.or_eq_true, decide_eq_true_eq, decide_eq_true_eq] at e
          exact e
        refine ⟨_, rfl, _, rfl, eq_lines hr1' hy12 ok1 ok0 ⟨_, rfl, ?_⟩⟩
        refine ite2 (fun e2 => ?_) (fun e2 => ?_)
        · have ej : joinP (cutL bs lo hi') l1 l2 = .same l2 := by unfold joinP; rw [if_neg e', if_pos (of_decide_eq_true e2)]
          rw [ej] at fin
          refine ⟨_, rfl, _, rfl, fo, r2, ws7, _, l2, rfl, hv12, hd12, hr2', be1, fun p hp => Nat.le_trans (be2 p hp) (by decide), by omega, fun H13 ws13 sv13 hf13 hd13 => ⟨_, rfl, fin H13 ws13 sv13 hf13 hd13⟩⟩
        · have ej : joinP (cutL bs lo hi') l1 l2 = .clash (cutL bs lo hi') l1 l2 := by unfold joinP; rw [if_neg e', if_neg fun q => e2 (decide_eq_true q)]
          rw [ej] at fin
          refine ⟨_, rfl, .inl ⟨rfl, _, SqL.of hv12⟩, _, rfl, _, rfl, _, rfl, by show 4 ≤ sizeLine; decide, fun q2 hq2 => ⟨fo, _, _, rfl, rfl, by rw [upd_ne (ne_of_none hv12 hq2)]; exact hv12, ?_, ?_⟩⟩
          · have q1 := dpAll_len hd12
            rw [List.length_map] at q1
            exact Nat.lt_of_le_of_lt (show ws7.length ≤ 100000 by omega) (by decide)
          · have h2 : upd H12 q2 (.tup [.str "clash", .ref y, .ref r1, .ref r2]) fo = some (.lst ws7) := by rw [upd_ne (ne_of_none hv12 hq2)]; exact hv12
            have tk2 := (TK.new (K := K) (o := .tup [.str "clash", .ref y, .ref r1, .ref r2]) hq2).trans (TK.lst (o := .lst (ws7 ++ [.ref q2])) h2)
            refine ⟨_, rfl, fin _ (ws7 ++ [.ref q2]) ((Sv.new hq2).trans Sv.at_) upd_same ?_⟩
            show DpAll _ _ _ ((_ ++ [_]).map partD)
            rw [List.map_append]
            exact dpAll_app (parts_keep tk2 hd12) (dpAll_one (dp_clash (TK.lst h2 _ _ (.inl (.inl upd_same))) (tk2 _ _ hy12) (tk2 _ _ hr1') (tk2 _ _ hr2')))
    · rintro σ H5 ⟨here, vs, dn, x7, x8, x9, x10, x11, rfl, sm, tk, hll, hv, hdd, hraw, hdl⟩
      rw [lw, List.drop_length, rawF] at hraw
      obtain ⟨bd1, bd2⟩ := bnd dn _ hraw (by omega)
      have ed := List.length_drop (i := here) (l := bs)
      refine ⟨_, rfl, _, rfl, _, rfl, _, rfl, ?_⟩
      dsimp only [tNoPart]
      refine sl_linesFrom (sm.seqT hA) fun H6 q s56 hq6 => ?_
      have hv6 := s56 _ _ hv
      refine ⟨fo, q, vs, tidyF dn, bs.drop here, rfl, hv6, parts_keep (TK.same s56) hdd, hq6, bd1, fun p hp => Nat.le_trans (bd2 p hp) (by decide), by omega, fun H7 ws7 sv7 hf7 hd7 => ?_⟩
      refine ⟨_, rfl, fo, _, rfl, .inl ⟨SqL.of hf7, fun l2 hl2 => ?_⟩⟩
      refine k _ _ ((same_sv (sm.trans s56) sv7 hfo0).trans (same_new hl2)) ?_
      refine .tup (.inl (.inl upd_same)) ?_
      have e : partsF bs f1 f2 = addPart (tidyF dn) (.same (bs.drop here)) := by
        unfold partsF
        rw [← esp, ← hraw, tadd]
      rw [← ef, ← es, e]
      exact parts_keep (TK.new hl2) hd7
end
end VK
end

section
set_option Elab.async false
set_option linter.all false
set_option pp.maxSteps 1500
set_option maxRecDepth 100000
set_option maxHeartbeats 4000000
namespace VK
open PySem L2
abbrev s_ended : Stmt := topS 19
theorem sc_ended : FnScope ["lines", "line"] ["lines"] (defScope s_ended) := ⟨rfl, rfl, rfl, by decide +kernel, rfl, by decide +kernel, by decide +kernel⟩
section
variable {P : Program} {w : World} {K : PySem.W.Frag} {mg : Str → Option Value} {base : Heap}
theorem ok_ended {f : Addr} {fd : FuncData} (F : Fun K "ended" "ended" s_ended f fd) (T0 : Txt0 mg) : FnOk P w K mg base CX0 1 f fd ["lines"] (spEnded K) := by
  refine F.ok sc_ended (fun vs H Q E h => ?_) (fun cdv A outer s H vs Q E hr h => ?_)
  · obtain ⟨a, ls, rfl, _⟩ := h
    rfl
  · obtain ⟨a, ls, rfl, hA, hl, hx, k⟩ := h
    refine ⟨_, (pss_one (ps_ret (pe_callTy call_tuple_of (by rfl) T0.z_tuple (by decide +kernel) (pa_cons (pe_lc (own := [("line", 1)]) (g := gName 1) (tt := tYes) rfl sc_ended.nd (pi_tup (pv 0)) (blkOk_by (own := [("line", 1)]) (N := ["lines", "line"]) (sc := defScope s_ended) (by decide +kernel)) (fun _ _ _ _ _ => (pg_name (i := 1) sc_ended.nd rfl (Or.inl rfl))) (fun _ _ _ _ _ => pts_nil) (fun _ _ _ _ _ => (pe_ifExp (pt_cmpR op_eq (pe_slice sl_str (pv 1) (po_some (pe_un un_neg pe_int)) po_none) pe_str (nomark _)) (pv 1) (pe_op op_add_str (pv 1) pe_str)))) pa_nil)))), ?_⟩
    refine ⟨_, rfl, a, rfl, ⟨_, hA⟩, fun D hD => ?_⟩
    refine lc_tup (xs := ls.map V.str) (fun t H' => Same H H' ∧ H' D = some (.lst ((endF (ls.take t)).map V.str))) ⟨same_new hD, upd_same⟩ (fun t H' _ h => h.1.seqT hA) ?_ ?_
    · rintro t x H2 hxt ⟨s2, hl2⟩
      rw [List.getElem?_map] at hxt
      obtain ⟨y, hy, rfl⟩ := Option.map_eq_some_iff.mp hxt
      have htl : t < ls.length := (List.getElem?_eq_some_iff.mp hy).1
      have hyl : y.length ≤ 1000 := hx y (List.mem_of_getElem? hy)
      have etk : ls.take (t + 1) = ls.take t ++ [y] := by rw [List.take_succ, hy]; rfl
      have fin : ∃ acc, H2 D = some (.lst acc) ∧ acc.length < sizeLine ∧ Same H (upd H2 D (.lst (acc ++ [V.str (endL y)]))) ∧ (upd H2 D (.lst (acc ++ [V.str (endL y)]))) D = some (.lst ((endF (ls.take (t + 1))).map V.str)) := by
        refine ⟨_, hl2, ?_, same_mut s2 hD, ?_⟩
        · unfold endF
          rw [List.length_map, List.length_map, List.length_take]
          exact Nat.lt_of_le_of_lt (show _ ≤ 10000000 by omega) (by decide)
        · rw [upd_same, etk]
          unfold endF
          rw [List.map_append, List.map_append]; rfl
      refine ⟨rfl, _, rfl, _, rfl, _, rfl, ?_⟩
      dsimp only [tNoPart]
      refine ⟨y, rfl, Nat.le_trans hyl (by decide), rfl, _, rfl, ?_⟩
      refine ite2 (fun e => ?_) (fun e => ?_)
      · rw [cutS_last] at e
        rw [endL_yes (of_decide_eq_true e)] at fin
        exact ⟨_, rfl, fin⟩
      · rw [cutS_last] at e
        rw [endL_no (fun q => e (decide_eq_true q))] at fin
        exact ⟨_, rfl, _, _, rfl, rfl, Nat.le_trans (Nat.add_le_add hyl (Nat.le_refl 1)) (by decide), fin⟩
    · rintro H2 ⟨s2, hl2⟩
      rw [List.length_map, List.take_length] at hl2
      refine ⟨D, _, rfl, .inl ⟨SqL.of hl2, fun p hp => ?_⟩⟩
      exact k _ p (s2.trans (same_new hp)) (.inl (.inl upd_same))
end
end VK
end

section
set_option Elab.async false
set_option linter.all false
set_option pp.maxSteps 1500
set_option maxRecDepth 100000
set_option maxHeartbeats 4000000
namespace VK
open PySem L2
abbrev s__law_ended : Stmt := topS 46
theorem sc__law_ended : FnScope ["lines", "line"] ["lines"] (defScope s__law_ended) := ⟨rfl, rfl, rfl, by decide +kernel, rfl, by decide +kernel, by decide +kernel⟩
section
variable {P : Program} {w : World} {K : PySem.W.Frag} {mg : Str → Option Value} {base : Heap}
theorem ok_lended {f : Addr} {fd : FuncData} (F : Fun K "_law_ended" "_law_ended" s__law_ended f fd) (T0 : Txt0 mg) : FnOk P w K mg base CX0 1 f fd ["lines"] (spEnded K) := by
  refine F.ok sc__law_ended (fun vs H Q E h => ?_) (fun cdv A outer s H vs Q E hr h => ?_)
  · obtain ⟨a, ls, rfl, _⟩ := h
    rfl
  · obtain ⟨a, ls, rfl, hA, hl, hx, k⟩ := h
    refine ⟨_, (pss_one (ps_ret (pe_callTy call_tuple_of (by rfl) T0.z_tuple (by decide +kernel) (pa_cons (pe_lc (own := [("line", 1)]) (g := gName 1) (tt := tYes) rfl sc__law_ended.nd (pi_tup (pv 0)) (blkOk_by (own := [("line", 1)]) (N := ["lines", "line"]) (sc := defScope s__law_ended) (by decide +kernel)) (fun _ _ _ _ _ => (pg_name (i := 1) sc__law_ended.nd rfl (Or.inl rfl))) (fun _ _ _ _ _ => pts_nil) (fun _ _ _ _ _ => (pe_ifExp (pt_cmpR op_eq (pe_slice sl_str (pv 1) (po_some (pe_un un_neg pe_int)) po_none) pe_str (nomark _)) (pv 1) (pe_op op_add_str (pv 1) pe_str)))) pa_nil)))), ?_⟩
    refine ⟨_, rfl, a, rfl, ⟨_, hA⟩, fun D hD => ?_⟩
    refine lc_tup (xs := ls.map V.str) (fun t H' => Same H H' ∧ H' D = some (.lst ((endF (ls.take t)).map V.str))) ⟨same_new hD, upd_same⟩ (fun t H' _ h => h.1.seqT hA) ?_ ?_
    · rintro t x H2 hxt ⟨s2, hl2⟩
      rw [List.getElem?_map] at hxt
      obtain ⟨y, hy, rfl⟩ := Option.map_eq_some_iff.mp hxt
      have htl : t < ls.length := (List.getElem?_eq_some_iff.mp hy).1
      have hyl : y.length ≤ 1000 := hx y (List.mem_of_getElem? hy)
      have etk : ls.take (t + 1) = ls.take t ++ [y] := by rw [List.take_succ, hy]; rfl
      have fin : ∃ acc, H2 D = some (.lst acc) ∧ acc.length < sizeLine ∧ Same H (upd H2 D (.lst (acc ++ [V.str (endL y)]))) ∧ (upd H2 D (.lst (acc ++ [V.str (endL y)]))) D = some (.lst ((endF (ls.take (t + 1))).map V.str)) := by
        refine ⟨_, hl2, ?_, same_mut s2 hD, ?_⟩
        · unfold endF
          rw [List.length_map, List.length_map, List.length_take]
          exact Nat.lt_of_le_of_lt (show _ ≤ 10000000 by omega) (by decide)
        · rw [upd_same, etk]
          unfold endF
          rw [List.map_append, List.map_append]; rfl
      refine ⟨rfl, _, rfl, _, rfl, _, rfl, ?_⟩
      dsimp only [tNoPart]
      refine ⟨y, rfl, Nat.le_trans hyl (by decide), rfl, _, rfl, ?_⟩
      refine ite2 (fun e => ?_) (fun e => ?_)
      · rw [cutS_last] at e
        rw [endL_yes (of_decide_eq_true e)] at fin
        exact ⟨_, rfl, fin⟩
      · rw [cutS_last] at e
        rw [endL_no (fun q => e (decide_eq_true q))] at fin
        exact ⟨_, rfl, _, _, rfl, rfl, Nat.le_trans (Nat.add_le_add hyl (Nat.le_refl 1)) (by decide), fin⟩
    · rintro H2 ⟨s2, hl2⟩
      rw [List.length_map, List.take_length] at hl2
      refine ⟨D, _, rfl, .inl ⟨SqL.of hl2, fun p hp => ?_⟩⟩
      exact k _ p (s2.trans (same_new hp)) (.inl (.inl upd_same))
end
end VK
end

section
set_option Elab.async false
set_option linter.all false
set_option pp.maxSteps 1500
set_option maxRecDepth 100000
set_option maxHeartbeats 4000000
namespace VK
open PySem L2
abbrev s_marked_lines : Stmt := topS 20
theorem sc_marked_lines : FnScope ["parts", "names", "found", "part"] ["parts", "names"] (defScope s_marked_lines) := ⟨rfl, rfl, rfl, by decide +kernel, rfl, by decide +kernel, by decide +kernel⟩
section
variable {P : Program} {w : World} {K : PySem.W.Frag} {mg : Str → Option Value} {base : Heap}
theorem ok_marked {f fE : Addr} {fd fdE : FuncData} (F : Fun K "marked_lines" "marked_lines" s_marked_lines f fd) (T0 : Txt0 mg) (D_ended : Df K mg "ended" s_ended ["lines"] fE fdE) : FnOk P w K mg base CX0 2 f fd ["parts", "names"] (spMarked K) := by
  have G_ended : FnOk P w K mg base CX0 1 fE fdE ["lines"] (spEnded K) := ok_ended D_ended.F T0
  refine F.ok sc_marked_lines (fun vs H Q E h => ?_) (fun cdv A outer s H vs Q E hr h => ?_)
  · obtain ⟨a, nm, ps, n0, n1, rfl, _⟩ := h
    rfl
  · obtain ⟨a, nm, ps, n0, n1, rfl, hA, hN, l0, l1, hpl, hpp, hsh, k⟩ := h
    refine ⟨_, (pss_cons (ps_set (i := 2) sc_marked_lines.nd rfl (Or.inl rfl) (pe_tup pa_nil))
      (pss_cons (ps_for PassesOwn.never rfl (pi_tup (pv 0)) (pg_name (i := 3) sc_marked_lines.nd rfl (Or.inl rfl))
        (pss_one (ps_if (pt_cmpR op_eq (pe_ix ix_tup (pv 3) pe_int (fun _ _ => rfl)) pe_str (nomark _))
          (pss_one (ps_set (i := 2) sc_marked_lines.nd rfl (Or.inl rfl) (pe_op op_catA (pv 2) (pe_ix ix_tup (pv 3) pe_int (fun _ _ => rfl)))))
          (pss_cons (ps_set (i := 2) sc_marked_lines.nd rfl (Or.inl rfl) (pe_op op_catA (pe_op op_catA (pe_op op_catA (pe_call G_ended (hr.mono (by decide)) rfl D_ended.m D_ended.F.kp D_ended.b .nil pass0 (pa_cons (pv 2) pa_nil)) (pe_tup (pa_cons (pe_op op_add_str (pe_op op_add_str pe_str (pe_ix ix_tup (pv 1) pe_int (fun _ _ => rfl))) pe_str) pa_nil))) (pe_call G_ended (hr.mono (by decide)) rfl D_ended.m D_ended.F.kp D_ended.b .nil pass0 (pa_cons (pe_ix ix_tup (pv 3) pe_int (fun _ _ => rfl)) pa_nil))) (pe_tup (pa_cons pe_str pa_nil))))
          (pss_one (ps_set (i := 2) sc_marked_lines.nd rfl (Or.inl rfl) (pe_op op_catA (pe_op op_catA (pe_op op_catA (pe_op op_catA (pv 2) (pe_call G_ended (hr.mono (by decide)) rfl D_ended.m D_ended.F.kp D_ended.b .nil pass0 (pa_cons (pe_ix ix_tup (pv 3) pe_int (fun _ _ => rfl)) pa_nil))) (pe_tup (pa_cons pe_str pa_nil))) (pe_call G_ended (hr.mono (by decide)) rfl D_ended.m D_ended.F.kp D_ended.b .nil pass0 (pa_cons (pe_ix ix_tup (pv 3) pe_int (fun _ _ => rfl)) pa_nil))) (pe_tup (pa_cons (pe_op op_add_str (pe_op op_add_str pe_str (pe_ix ix_tup (pv 1) pe_int (fun _ _ => rfl))) pe_str) pa_nil)))))))))
      (pss_one (ps_ret (pv 2))))), ?_⟩
    obtain ⟨a', ws, ea, ha, hd⟩ := of_tupD hA
    cases ea
    have lw : ws.length = ps.length := by rw [dpAll_len hd, List.length_map]
    obtain ⟨k0, k1, k2, _⟩ := mk_len l0
    obtain ⟨_, _, _, k3⟩ := mk_len l1
    refine ⟨by show 0 ≤ sizeLine; decide, fun fo hfo => ?_⟩
    have s0 : Same H (upd H fo (.tup [])) := same_new hfo
    refine ⟨_, rfl, a, rfl, ⟨_, s0.seqT ha⟩, ?_⟩
    refine for_it (walk_tup (xs := ws)) (fun c σ H' => ∃ (q : Addr) (fs : List Str) (x3 : Option V), σ = [some (.ref a), some (.ref nm), some (.ref q), x3] ∧ Same H H' ∧ SqT K H' q (fs.map V.str) ∧ mkd n0 n1 fs (ps.drop c) = mkd n0 n1 [] ps ∧ fs.length ≤ c * 60004 ∧ ∀ x ∈ fs, x.length ≤ 200 + c) ?_ (fun c σ H' _ h => ?_) ?_ ?_
    · exact ⟨fo, [], none, rfl, s0, .inl (.inl upd_same), rfl, Nat.zero_le _, fun _ h => nomatch h⟩
    · obtain ⟨q, fs, x3, rfl, h1, h2⟩ := h
      exact h1.seqT ha
    · rintro c x σ H5o H5 hc ⟨q, fs, x3, rfl, sm, hq, hm, hl, hs⟩ ⟨rfl, hx⟩
      have hcf : c < ps.length := by rw [← lw]; exact hc
      obtain ⟨p, hp⟩ : ∃ p, p = ps[c] := ⟨_, rfl⟩
      have hf : ps[c]? = some p := by rw [List.getElem?_eq_getElem hcf, hp]
      have hpm := List.mem_of_getElem? hf
      obtain ⟨v, hv1, hv2⟩ := dpAll_at (parts_keep (TK.same sm) hd) (k := c) (d := partD p) (by rw [List.getElem?_map, hf]; rfl)
      obtain rfl : v = x := Option.some.inj (hv1.symm.trans hx)
      have ed : ps.drop c = p :: ps.drop (c + 1) := by rw [List.drop_eq_getElem_cons hcf, ← hp]
      rw [ed] at hm
      have hcl : c < 100 := by omega
      have hl2 : fs.length ≤ 99 * 60004 := Nat.le_trans hl (Nat.mul_le_mul_right _ (by omega))
      obtain ⟨z, r, rfl, hz⟩ := of_part hv2
      refine ⟨_, rfl, z, _, _, _, rfl, rfl, hz, at_head, rfl, _, rfl, ?_⟩
      cases p with
      | same ls =>
        obtain ⟨z', y, ez, hz2, hy⟩ := of_same hv2
        cases ez
        have pl : ls.length ≤ 20000 := hpp _ hpm
        have psh : ∀ x ∈ ls, x.length ≤ 100 := hsh _ hpm
        refine iteT ?_
        refine ⟨_, rfl, _, rfl, z, _, _, _, rfl, rfl, hz2, rfl, cat_linesB hq hy (by omega) fun H6 u s6 hu => ?_⟩
        refine ⟨u, fs ++ ls, _, rfl, sm.trans s6, hu, hm, ?_, fun x hx => ?_⟩
        · rw [List.length_append, Nat.add_mul]; omega
        · rcases List.mem_append.mp hx with hx | hx
          · have := hs x hx; omega
          · have := psh x hx; omega
      | clash b o t =>
        obtain ⟨z', x1, x2, x3', ez, hz2, hb, ho, ht⟩ := of_clash hv2
        cases ez
        have pl : max b.length (max o.length t.length) ≤ 20000 := hpp _ hpm
        obtain ⟨sb, so, st⟩ := hsh _ hpm
        refine iteF ?_
        refine ⟨_, rfl, q, fs, rfl, hq, by omega, fun x hx => by have := hs x hx; omega, fun H6 q6 s6 hq6 => ?_⟩
        refine ⟨_, rfl, nm, _, _, _, rfl, rfl, (sm.trans s6).seqT hN, rfl, _, _, rfl, rfl, ?_, _, _, rfl, rfl, ?_, by show 1 ≤ sizeLine; decide, fun t1 ht1 => ?_⟩
        · exact Nat.le_trans (Nat.add_le_add (show ("<<<<<<< " : Str).length ≤ 8 by decide +kernel) l0) (by decide)
        · rw [app_len]
          exact Nat.le_trans (Nat.add_le_add (Nat.add_le_add (show ("<<<<<<< " : Str).length ≤ 8 by decide +kernel) l0) (show ("\n" : Str).length ≤ 1 by decide +kernel)) (by decide)
        refine cat_new (m := mk0 n0) hq6 ht1 (by rw [endF_len]; omega) fun H7 q7 s7 hq7 => ?_
        have s57 := s6.trans s7
        refine ⟨_, rfl, z, _, _, _, rfl, rfl, s57.seqT hz2, rfl, x2, o, rfl, s57.seqT ho, by omega, fun x hx => by have := so x hx; omega, fun H8 q8 s8 hq8 => ?_⟩
        refine cat_linesB (s8.seqT hq7) hq8 (by simp only [List.length_append, List.length_singleton, endF_len]; omega) fun H9 q9 s9 hq9 => ⟨by show 1 ≤ sizeLine; decide, fun t2 ht2 => ?_⟩
        refine cat_new (m := mk1) hq9 ht2 (by simp only [List.length_append, List.length_singleton, endF_len]; omega) fun H10 q10 s10 hq10 => ?_
        have s510 := s57.trans (s8.trans (s9.trans s10))
        refine ⟨_, rfl, _, rfl, z, _, _, _, rfl, rfl, s510.seqT hz2, rfl, x1, b, rfl, s510.seqT hb, by omega, fun x hx => by have := sb x hx; omega, fun H11 q11 s11 hq11 => ?_⟩
        refine cat_linesB (s11.seqT hq10) hq11 (by simp only [List.length_append, List.length_singleton, endF_len]; omega) fun H12 q12 s12 hq12 => ⟨by show 1 ≤ sizeLine; decide, fun t3 ht3 => ?_⟩
        refine cat_new (m := mk2) hq12 ht3 (by simp only [List.length_append, List.length_singleton, endF_len]; omega) fun H13 q13 s13 hq13 => ?_
        have s513 := s510.trans (s11.trans (s12.trans s13))
        refine ⟨_, rfl, z, _, _, _, rfl, rfl, s513.seqT hz2, rfl, x3', t, rfl, s513.seqT ht, by omega, fun x hx => by have := st x hx; omega, fun H14 q14 s14 hq14 => ?_⟩
        refine cat_linesB (s14.seqT hq13) hq14 (by simp only [List.length_append, List.length_singleton, endF_len]; omega) fun H15 q15 s15 hq15 => ?_
        have s515 := s513.trans (s14.trans s15)
        refine ⟨_, rfl, nm, _, _, _, rfl, rfl, (sm.trans s515).seqT hN, rfl, _, _, rfl, rfl, ?_, _, _, rfl, rfl, ?_, by show 1 ≤ sizeLine; decide, fun t4 ht4 => ?_⟩
        · exact Nat.le_trans (Nat.add_le_add (show (">>>>>>> " : Str).length ≤ 8 by decide +kernel) l1) (by decide)
        · rw [app_len]
          exact Nat.le_trans (Nat.add_le_add (Nat.add_le_add (show (">>>>>>> " : Str).length ≤ 8 by decide +kernel) l1) (show ("\n" : Str).length ≤ 1 by decide +kernel)) (by decide)
        refine cat_new (m := mk3 n1) hq15 ht4 (by simp only [List.length_append, List.length_singleton, endF_len]; omega) fun H16 q16 s16 hq16 => ?_
        refine ⟨q16, _, _, rfl, sm.trans (s515.trans s16), hq16, ?_, ?_, fun x hx => ?_⟩
        · rw [← hm]
          show mkd n0 n1 _ _ = mkd n0 n1 (endF fs ++ blkC (mk0 n0) mk1 mk2 (mk3 n1) b o t) _
          congr 1
          simp only [blkC, List.append_assoc]
        · rw [Nat.add_mul]
          simp only [List.length_append, List.length_singleton, endF_len]
          omega
        · simp only [List.mem_append, List.mem_singleton] at hx
          have e0 := endF_sz hs
          have e1 := endF_sz so
          have e2 := endF_sz sb
          have e3 := endF_sz st
          rcases hx with ((((((hx | rfl) | hx) | rfl) | hx) | rfl) | hx) | rfl
          · have := e0 x hx; omega
          · omega
          · have := e1 x hx; omega
          · omega
          · have := e2 x hx; omega
          · omega
          · have := e3 x hx; omega
          · omega
    · rintro σ H5 ⟨q, fs, x3, rfl, sm, hq, hm, hl, hs⟩
      rw [lw, List.drop_length] at hm
      exact ⟨_, rfl, k _ q sm (by rw [← hm]; exact hq)⟩
end
end VK
end

section
set_option Elab.async false
set_option linter.all false
set_option pp.maxSteps 1500
set_option maxRecDepth 100000
set_option maxHeartbeats 4000000
namespace VK
open PySem L2
abbrev s__law_marked : Stmt := topS 47
theorem sc__law_marked : FnScope ["parts", "names", "found", "part"] ["parts", "names"] (defScope s__law_marked) := ⟨rfl, rfl, rfl, by decide +kernel, rfl, by decide +kernel, by decide +kernel⟩
section
variable {P : Program} {w : World} {K : PySem.W.Frag} {mg : Str → Option Value} {base : Heap}
theorem ok_lmarked {f fE : Addr} {fd fdE : FuncData} (F : Fun K "_law_marked" "_law_marked" s__law_marked f fd) (T0 : Txt0 mg) (D__law_ended : Df K mg "_law_ended" s__law_ended ["lines"] fE fdE) : FnOk P w K mg base CX0 2 f fd ["parts", "names"] (spMarked K) := by
  have G__law_ended : FnOk P w K mg base CX0 1 fE fdE ["lines"] (spEnded K) := ok_lended D__law_ended.F T0
  refine F.ok sc__law_marked (fun vs H Q E h => ?_) (fun cdv A outer s H vs Q E hr h => ?_)
  · obtain ⟨a, nm, ps, n0, n1, rfl, _⟩ := h
    rfl
  · obtain ⟨a, nm, ps, n0, n1, rfl, hA, hN, l0, l1, hpl, hpp, hsh, k⟩ := h
    refine ⟨_, (pss_cons (ps_set (i := 2) sc__law_marked.nd rfl (Or.inl rfl) (pe_tup pa_nil))
      (pss_cons (ps_for PassesOwn.never rfl (pi_tup (pv 0)) (pg_name (i := 3) sc__law_marked.nd rfl (Or.inl rfl))
        (pss_one (ps_if (pt_cmpR op_eq (pe_ix ix_tup (pv 3) pe_int (fun _ _ => rfl)) pe_str (nomark _))
          (pss_one (ps_set (i := 2) sc__law_marked.nd rfl (Or.inl rfl) (pe_op op_catA (pv 2) (pe_ix ix_tup (pv 3) pe_int (fun _ _ => rfl)))))
          (pss_cons (ps_set (i := 2) sc__law_marked.nd rfl (Or.inl rfl) (pe_op op_catA (pe_op op_catA (pe_op op_catA (pe_op op_catA (pe_call G__law_ended (hr.mono (by decide)) rfl D__law_ended.m D__law_ended.F.kp D__law_ended.b .nil pass0 (pa_cons (pv 2) pa_nil)) (pe_tup (pa_cons (pe_op op_add_str (pe_op op_add_str pe_str (pe_ix ix_tup (pv 1) pe_int (fun _ _ => rfl))) pe_str) pa_nil))) (pe_call G__law_ended (hr.mono (by decide)) rfl D__law_ended.m D__law_ended.F.kp D__law_ended.b .nil pass0 (pa_cons (pe_ix ix_tup (pv 3) pe_int (fun _ _ => rfl)) pa_nil))) (pe_tup (pa_cons pe_str pa_nil))) (pe_call G__law_ended (hr.mono (by decide)) rfl D__law_ended.m D__law_ended.F.kp D__law_ended.b .nil pass0 (pa_cons (pe_ix ix_tup (pv 3) pe_int (fun _ _ => rfl)) pa_nil))))
          (pss_one (ps_set (i := 2) sc__law_marked.nd rfl (Or.inl rfl) (pe_op op_catA (pe_op op_catA (pe_op op_catA (pv 2) (pe_tup (pa_cons pe_str pa_nil))) (pe_call G__law_ended (hr.mono (by decide)) rfl D__law_ended.m D__law_ended.F.kp D__law_ended.b .nil pass0 (pa_cons (pe_ix ix_tup (pv 3) pe_int (fun _ _ => rfl)) pa_nil))) (pe_tup (pa_cons (pe_op op_add_str (pe_op op_add_str pe_str (pe_ix ix_tup (pv 1) pe_int (fun _ _ => rfl))) pe_str) pa_nil)))))))))
      (pss_one (ps_ret (pv 2))))), ?_⟩
    obtain ⟨a', ws, ea, ha, hd⟩ := of_tupD hA
    cases ea
    have lw : ws.length = ps.length := by rw [dpAll_len hd, List.length_map]
    obtain ⟨k0, k1, k2, _⟩ := mk_len l0
    obtain ⟨_, _, _, k3⟩ := mk_len l1
    refine ⟨by show 0 ≤ sizeLine; decide, fun fo hfo => ?_⟩
    have s0 : Same H (upd H fo (.tup [])) := same_new hfo
    refine ⟨_, rfl, a, rfl, ⟨_, s0.seqT ha⟩, ?_⟩
    refine for_it (walk_tup (xs := ws)) (fun c σ H' => ∃ (q : Addr) (fs : List Str) (x3 : Option V), σ = [some (.ref a), some (.ref nm), some (.ref q), x3] ∧ Same H H' ∧ SqT K H' q (fs.map V.str) ∧ mkd n0 n1 fs (ps.drop c) = mkd n0 n1 [] ps ∧ fs.length ≤ c * 60004 ∧ ∀ x ∈ fs, x.length ≤ 200 + c) ?_ (fun c σ H' _ h => ?_) ?_ ?_
    · exact ⟨fo, [], none, rfl, s0, .inl (.inl upd_same), rfl, Nat.zero_le _, fun _ h => nomatch h⟩
    · obtain ⟨q, fs, x3, rfl, h1, h2⟩ := h
      exact h1.seqT ha
    · rintro c x σ H5o H5 hc ⟨q, fs, x3, rfl, sm, hq, hm, hl, hs⟩ ⟨rfl, hx⟩
      have hcf : c < ps.length := by rw [← lw]; exact hc
      obtain ⟨p, hp⟩ : ∃ p, p = ps[c] := ⟨_, rfl⟩
      have hf : ps[c]? = some p := by rw [List.getElem?_eq_getElem hcf, hp]
      have hpm := List.mem_of_getElem? hf
      obtain ⟨v, hv1, hv2⟩ := dpAll_at (parts_keep (TK.same sm) hd) (k := c) (d := partD p) (by rw [List.getElem?_map, hf]; rfl)
      obtain rfl : v = x := Option.some.inj (hv1.symm.trans hx)
      have ed : ps.drop c = p :: ps.drop (c + 1) := by rw [List.drop_eq_getElem_cons hcf, ← hp]
      rw [ed] at hm
      have hcl : c < 100 := by omega
      have hl2 : fs.length ≤ 99 * 60004 := Nat.le_trans hl (Nat.mul_le_mul_right _ (by omega))
      obtain ⟨z, r, rfl, hz⟩ := of_part hv2
      refine ⟨_, rfl, z, _, _, _, rfl, rfl, hz, at_head, rfl, _, rfl, ?_⟩
      cases p with
      | same ls =>
        obtain ⟨z', y, ez, hz2, hy⟩ := of_same hv2
        cases ez
        have pl : ls.length ≤ 20000 := hpp _ hpm
        have psh : ∀ x ∈ ls, x.length ≤ 100 := hsh _ hpm
        refine iteT ?_
        refine ⟨_, rfl, _, rfl, z, _, _, _, rfl, rfl, hz2, rfl, cat_linesB hq hy (by omega) fun H6 u s6 hu => ?_⟩
        refine ⟨u, fs ++ ls, _, rfl, sm.trans s6, hu, hm, ?_, fun x hx => ?_⟩
        · rw [List.length_append, Nat.add_mul]; omega
        · rcases List.mem_append.mp hx with hx | hx
          · have := hs x hx; omega
          · have := psh x hx; omega
      | clash b o t =>
        obtain ⟨z', x1, x2, x3', ez, hz2, hb, ho, ht⟩ := of_clash hv2
        cases ez
        have pl : max b.length (max o.length t.length) ≤ 20000 := hpp _ hpm
        obtain ⟨sb, so, st⟩ := hsh _ hpm
        refine iteF ?_
        refine ⟨_, rfl, q, fs, rfl, hq, by omega, fun x hx => by have := hs x hx; omega, fun H6 q6 s6 hq6 => ?_⟩
        refine ⟨_, rfl, nm, _, _, _, rfl, rfl, (sm.trans s6).seqT hN, rfl, _, _, rfl, rfl, ?_, _, _, rfl, rfl, ?_, by show 1 ≤ sizeLine; decide, fun t1 ht1 => ?_⟩
        · exact Nat.le_trans (Nat.add_le_add (show ("<<<<<<< " : Str).length ≤ 8 by decide +kernel) l0) (by decide)
        · rw [app_len]
          exact Nat.le_trans (Nat.add_le_add (Nat.add_le_add (show ("<<<<<<< " : Str).length ≤ 8 by decide +kernel) l0) (show ("\n" : Str).length ≤ 1 by decide +kernel)) (by decide)
        refine cat_new (m := mk0 n0) hq6 ht1 (by rw [endF_len]; omega) fun H7 q7 s7 hq7 => ?_
        have s57 := s6.trans s7
        refine ⟨_, rfl, z, _, _, _, rfl, rfl, s57.seqT hz2, rfl, x2, o, rfl, s57.seqT ho, by omega, fun x hx => by have := so x hx; omega, fun H8 q8 s8 hq8 => ?_⟩
        refine cat_linesB (s8.seqT hq7) hq8 (by simp only [List.length_append, List.length_singleton, endF_len]; omega) fun H9 q9 s9 hq9 => ⟨by show 1 ≤ sizeLine; decide, fun t2 ht2 => ?_⟩
        refine cat_new (m := mk1) hq9 ht2 (by simp only [List.length_append, List.length_singleton, endF_len]; omega) fun H10 q10 s10 hq10 => ?_
        have s510 := s57.trans (s8.trans (s9.trans s10))
        refine ⟨_, rfl, z, _, _, _, rfl, rfl, s510.seqT hz2, rfl, x1, b, rfl, s510.seqT hb, by omega, fun x hx => by have := sb x hx; omega, fun H11 q11 s11 hq11 => ?_⟩
        refine cat_linesB (s11.seqT hq10) hq11 (by simp only [List.length_append, List.length_singleton, endF_len]; omega) fun H12 q12 s12 hq12 => ⟨_, rfl, by show 1 ≤ sizeLine; decide, fun t3 ht3 => ?_⟩
        refine cat_new (m := mk2) hq12 ht3 (by simp only [List.length_append, List.length_singleton, endF_len]; omega) fun H13 q13 s13 hq13 => ?_
        have s513 := s510.trans (s11.trans (s12.trans s13))
        refine ⟨_, rfl, z, _, _, _, rfl, rfl, s513.seqT hz2, rfl, x3', t, rfl, s513.seqT ht, by omega, fun x hx => by have := st x hx; omega, fun H14 q14 s14 hq14 => ?_⟩
        refine cat_linesB (s14.seqT hq13) hq14 (by simp only [List.length_append, List.length_singleton, endF_len]; omega) fun H15 q15 s15 hq15 => ?_
        have s515 := s513.trans (s14.trans s15)
        refine ⟨_, rfl, nm, _, _, _, rfl, rfl, (sm.trans s515).seqT hN, rfl, _, _, rfl, rfl, ?_, _, _, rfl, rfl, ?_, by show 1 ≤ sizeLine; decide, fun t4 ht4 => ?_⟩
        · exact Nat.le_trans (Nat.add_le_add (show (">>>>>>> " : Str).length ≤ 8 by decide +kernel) l1) (by decide)
        · rw [app_len]
          exact Nat.le_trans (Nat.add_le_add (Nat.add_le_add (show (">>>>>>> " : Str).length ≤ 8 by decide +kernel) l1) (show ("\n" : Str).length ≤ 1 by decide +kernel)) (by decide)
        refine cat_new (m := mk3 n1) hq15 ht4 (by simp only [List.length_append, List.length_singleton, endF_len]; omega) fun H16 q16 s16 hq16 => ?_
        refine ⟨q16, _, _, rfl, sm.trans (s515.trans s16), hq16, ?_, ?_, fun x hx => ?_⟩
        · rw [← hm]
          show mkd n0 n1 _ _ = mkd n0 n1 (endF fs ++ blkC (mk0 n0) mk1 mk2 (mk3 n1) b o t) _
          congr 1
          simp only [blkC, List.append_assoc]
        · rw [Nat.add_mul]
          simp only [List.length_append, List.length_singleton, endF_len]
          omega
        · simp only [List.mem_append, List.mem_singleton] at hx
          have e0 := endF_sz hs
          have e1 := endF_sz so
          have e2 := endF_sz sb
          have e3 := endF_sz st
          rcases hx with ((((((hx | rfl) | hx) | rfl) | hx) | rfl) | hx) | rfl
          · have := e0 x hx; omega
          · omega
          · have := e1 x hx; omega
          · omega
          · have := e2 x hx; omega
          · omega
          · have := e3 x hx; omega
          · omega
    · rintro σ H5 ⟨q, fs, x3, rfl, sm, hq, hm, hl, hs⟩
      rw [lw, List.drop_length] at hm
      exact ⟨_, rfl, k _ q sm (by rw [← hm]; exact hq)⟩
end
end VK
end

section
set_option Elab.async false
set_option linter.all false
set_option pp.maxSteps 1500
set_option maxRecDepth 100000
set_option maxHeartbeats 4000000
namespace VK
open PySem L2
abbrev s__law_tidy : Stmt := topS 45
theorem sc__law_tidy : FnScope ["parts", "found", "part"] ["parts"] (defScope s__law_tidy) := ⟨rfl, rfl, rfl, by decide +kernel, rfl, by decide +kernel, by decide +kernel⟩
def spTidy (K : PySem.W.Frag) : Sp := fun vs H Q _ => ∃ (a : Addr) (ws : List V) (ps : List Part), vs = [.ref a] ∧ H a = some (.lst ws) ∧ DpAll K H ws (ps.map partD) ∧ ps.length ≤ 100 ∧ (∀ p ∈ ps, plP p ≤ 50000) ∧
  ∀ (H' : Hp) (v : V), Same H H' → Dp K H' v (partsD (tidyF ps)) → Q v H'
theorem tag_clash2 (p : Part) : decide (V.str (tagP p) = V.str ("clash" : Str)) = !isS p := by
  cases p with
  | same ls =>
    show decide (V.str ("same" : Str) = V.str ("clash" : Str)) = false
    decide +kernel
  | clash b o t => rfl
section
variable {P : Program} {w : World} {K : PySem.W.Frag} {mg : Str → Option Value} {base : Heap}
theorem ok_tidy {f : Addr} {fd : FuncData} (F : Fun K "_law_tidy" "_law_tidy" s__law_tidy f fd) (T0 : Txt0 mg) : FnOk P w K mg base CX0 1 f fd ["parts"] (spTidy K) := by
  refine F.ok sc__law_tidy (fun vs H Q E h => ?_) (fun cdv A outer s H vs Q E hr h => ?_)
  · obtain ⟨a, ws, ps, rfl, _⟩ := h
    rfl
  · obtain ⟨a, ws, ps, rfl, ha, hd, hpl, hpp, k⟩ := h
    refine ⟨_, (pss_cons (ps_set (i := 1) sc__law_tidy.nd rfl (Or.inl rfl) (pe_lst pa_nil))
      (pss_cons (ps_for PassesOwn.never rfl (pi_list (pv 0)) (pg_name (i := 2) sc__law_tidy.nd rfl (Or.inl rfl))
        (pss_one (ps_if (pt_cmpR op_eq (pe_ix ix_tup (pv 2) pe_int (fun _ _ => rfl)) pe_str (nomark _))
          (pss_one (ps_expr (pe_bm PySem.F.plainAttrs_list PySem.F.slot_list_append PySem.F.type_list_append mt_append (pv 1) (pa_cons (pv 2) pa_nil))))
          (pss_one (ps_if (PW.pt (pw_and (pt_cmpR op_gt (pe_callB call_len_seq (by rfl) T0.z_len PySem.boot_len (pa_cons (pe_ix ix_tup (pv 2) pe_int (fun _ _ => rfl)) pa_nil)) pe_int (nomark _)) (pw_and (pt_cmpR op_gt (pe_callB call_len_seq (by rfl) T0.z_len PySem.boot_len (pa_cons (pv 1) pa_nil)) pe_int (nomark _)) (pw_and1 (pt_cmpR op_eq (pe_ix ix_tup (pe_ix ix_list (pv 1) (pe_un un_neg pe_int) (fun _ _ => rfl)) pe_int (fun _ _ => rfl)) pe_str (nomark _))))))
            (pss_one (ps_asg (pe_tup (pa_cons pe_str (pa_cons (pe_op op_catA (pe_ix ix_tup (pe_ix ix_list (pv 1) (pe_un un_neg pe_int) (fun _ _ => rfl)) pe_int (fun _ _ => rfl)) (pe_ix ix_tup (pv 2) pe_int (fun _ _ => rfl))) pa_nil))) (pg_sub (pv 1) (pe_un un_neg pe_int) set_list)))
            (pss_one (ps_if (pt_cmpR op_gt (pe_callB call_len_seq (by rfl) T0.z_len PySem.boot_len (pa_cons (pe_ix ix_tup (pv 2) pe_int (fun _ _ => rfl)) pa_nil)) pe_int (nomark _))
              (pss_one (ps_expr (pe_bm PySem.F.plainAttrs_list PySem.F.slot_list_append PySem.F.type_list_append mt_append (pv 1) (pa_cons (pv 2) pa_nil))))
              pss_nil)))))))
      (pss_one (ps_ret (pe_callTy call_tuple_of (by rfl) T0.z_tuple (by decide +kernel) (pa_cons (pv 1) pa_nil)))))), ?_⟩
    have lw : ws.length = ps.length := by rw [dpAll_len hd, List.length_map]
    refine ⟨by show 0 ≤ sizeLine; decide, fun fo hfo => ?_⟩
    have s0 : Same H (upd H fo (.lst [])) := same_new hfo
    have naf : a ≠ fo := ne_of_none ha hfo
    have tadd : ∀ (dn : List Part) (p : Part), tidyF (dn ++ [p]) = addPart (tidyF dn) p := fun dn p => by unfold tidyF; rw [List.foldl_append]; rfl
    refine ⟨_, rfl, a, rfl, ⟨_, SqL.of (s0 _ _ ha)⟩, ?_⟩
    refine for_it (walk_list (xs := ws)) (fun c σ H' => ∃ (vs : List V) (x2 : Option V), σ = [some (.ref a), some (.ref fo), x2] ∧ Same H H' ∧ H' fo = some (.lst vs) ∧ DpAll K H' vs ((tidyF (ps.take c)).map partD)) ?_ (fun c σ H' _ h => ?_) ?_ ?_
    · exact ⟨[], none, rfl, s0, upd_same, .nil⟩
    · obtain ⟨vs, x2, rfl, h1, h2⟩ := h
      exact SqL.of (h1 _ _ ha)
    · rintro c x σ H5o H5 hc ⟨vs, x2, rfl, sm, hv, hdd⟩ ⟨rfl, hx⟩
      have hcf : c < ps.length := by rw [← lw]; exact hc
      obtain ⟨p, hp⟩ : ∃ p, p = ps[c] := ⟨_, rfl⟩
      have hf : ps[c]? = some p := by rw [List.getElem?_eq_getElem hcf, hp]
      have hpm := List.mem_of_getElem? hf
      obtain ⟨v, hv1, hv2⟩ := dpAll_at (parts_keep (TK.same sm) hd) (k := c) (d := partD p) (by rw [List.getElem?_map, hf]; rfl)
      obtain rfl : v = x := Option.some.inj (hv1.symm.trans hx)
      have etk : ps.take (c + 1) = ps.take c ++ [p] := by rw [List.take_succ, hf]; rfl
      obtain ⟨q1, q2⟩ := tidy_sz (k := 50000) (ps := ps.take c) fun q hq => hpp q (List.mem_of_mem_take hq)
      rw [List.length_take] at q1
      have q3 : ∀ p ∈ tidyF (ps.take c), plP p ≤ 5000000 := fun p hp => Nat.le_trans (q2 p hp) (by
        rw [List.length_take]
        have : min c ps.length * 50000 ≤ 100 * 50000 := Nat.mul_le_mul_right _ (by omega)
        omega)
      have lvs : vs.length = (tidyF (ps.take c)).length := by rw [dpAll_len hdd, List.length_map]
      have lvz : vs.length < sizeLine := Nat.lt_of_le_of_lt (show vs.length ≤ 1000 by omega) (by decide)
      obtain ⟨z, r, rfl, hz⟩ := of_part hv2
      have app : addPart (tidyF (ps.take c)) p = tidyF (ps.take c) ++ [p] → ∃ (vs' : List V) (x2 : Option V), [some (V.ref a), some (.ref fo), some (.ref z)] = [some (V.ref a), some (.ref fo), x2] ∧ Same H (upd H5 fo (.lst (vs ++ [.ref z]))) ∧ (upd H5 fo (.lst (vs ++ [.ref z]))) fo = some (.lst vs') ∧ DpAll K (upd H5 fo (.lst (vs ++ [.ref z]))) vs' ((tidyF (ps.take (c + 1))).map partD) := fun e => by
        refine ⟨vs ++ [.ref z], _, rfl, same_mut sm hfo, upd_same, ?_⟩
        rw [etk, tadd, e, List.map_append]
        exact dpAll_app (parts_keep (TK.lst hv) hdd) (dpAll_one (dp_keep (TK.lst hv) _ _ (imm_part p) hv2))
      refine ⟨_, rfl, z, _, _, _, rfl, rfl, hz, at_head, rfl, _, rfl, ?_⟩
      refine ite2 (fun e => ?_) (fun e => ?_)
      · rw [tag_clash2] at e
        cases p with
        | same ls => cases e
        | clash b o t => exact ⟨_, rfl, .inl ⟨rfl, _, SqL.of hv⟩, _, rfl, fo, vs, _, rfl, rfl, hv, lvz, app rfl⟩
      · rw [tag_clash2] at e
        cases p with
        | clash b o t => exact absurd rfl e
        | same ls =>
          obtain ⟨z', y, ez, hz2, hy⟩ := of_same hv2
          cases ez
          have pl : ls.length ≤ 50000 := hpp _ hpm
          refine ⟨_, rfl, z, _, _, _, rfl, rfl, hz2, rfl, y, _, rfl, .inr hy, _, _, rfl, rfl, _, rfl, ?_⟩
          cases ls with
          | nil =>
            refine iteF ?_
            refine iteF ?_
            refine ⟨_, rfl, z, _, _, _, rfl, rfl, hz2, rfl, y, _, rfl, .inr hy, _, _, rfl, rfl, _, rfl, ?_⟩
            refine iteF ?_
            refine ⟨vs, _, rfl, sm, hv, ?_⟩
            rw [etk, tadd]
            exact hdd
          | cons l ls =>
            have lp : decide ((((l :: ls).map V.str).length : Int) > 0) = true := decide_eq_true (by simp)
            rw [lp]
            refine iteT ?_
            refine ⟨_, rfl, fo, _, rfl, .inl (SqL.of hv), _, _, rfl, rfl, _, rfl, ?_⟩
            obtain ⟨tf, etf⟩ : ∃ tf, tf = tidyF (ps.take c) := ⟨_, rfl⟩
            rw [← etf] at hdd lvs q3 app
            rcases List.eq_nil_or_concat tf with e0 | ⟨init, x, e0⟩
            · have e1 : vs = [] := List.eq_nil_of_length_eq_zero (by rw [lvs, e0]; rfl)
              subst e1
              refine iteF ?_
              refine iteF ?_
              refine ⟨_, rfl, z, _, _, _, rfl, rfl, hz2, rfl, y, _, rfl, .inr hy, _, _, rfl, rfl, _, rfl, ?_⟩
              rw [lp]
              refine iteT ?_
              exact ⟨_, rfl, .inl ⟨rfl, _, SqL.of hv⟩, _, rfl, fo, _, _, rfl, rfl, hv, lvz, app (by rw [e0]; rfl)⟩
            · rw [List.concat_eq_append] at e0
              have lpv : decide ((vs.length : Int) > 0) = true := decide_eq_true (by rw [lvs, e0, List.length_append, List.length_singleton]; omega)
              rw [lpv]
              refine iteT ?_
              rw [e0, List.map_append] at hdd
              obtain ⟨us, w', rfl, hd1, hdv⟩ := dpAll_split hdd
              obtain ⟨zz, rr, rfl, hzz⟩ := of_part hdv
              refine ⟨_, rfl, _, rfl, fo, _, _, _, rfl, rfl, SqL.of hv, at_last, zz, _, _, _, rfl, rfl, hzz, at_head, rfl, _, rfl, ?_⟩
              cases x with
              | clash b o t =>
                refine iteF ?_
                refine ⟨_, rfl, z, _, _, _, rfl, rfl, hz2, rfl, y, _, rfl, .inr hy, _, _, rfl, rfl, _, rfl, ?_⟩
                rw [lp]
                refine iteT ?_
                refine ⟨_, rfl, .inl ⟨rfl, _, SqL.of hv⟩, _, rfl, fo, _, _, rfl, rfl, hv, lvz, app ?_⟩
                rw [e0]
                simp [addPart]
              | same xs =>
                refine iteT ?_
                obtain ⟨zz', yy, ezz, hzz2, hyy⟩ := of_same hdv
                cases ezz
                have q1 : xs.length ≤ 5000000 := q3 (.same xs) (by rw [e0]; exact List.mem_append_right _ (List.mem_singleton.mpr rfl))
                refine ⟨_, rfl, _, rfl, fo, _, _, _, rfl, rfl, SqL.of hv, at_last, zz, _, _, _, rfl, rfl, hzz2, rfl, ?_⟩
                refine ⟨_, rfl, z, _, _, _, rfl, rfl, hz2, rfl, ?_⟩
                refine cat_linesB hyy hy (by omega) fun H2 p s2 hp2 => ⟨by show 2 ≤ sizeLine; decide, fun q hq => ?_⟩
                have hv2' : H2 fo = some (.lst (us ++ [.ref zz])) := s2 _ _ hv
                have n : fo ≠ q := ne_of_none hv2' hq
                have h3 : upd H2 q (.tup [.str "same", .ref p]) fo = some (.lst (us ++ [.ref zz])) := by rw [upd_ne n]; exact hv2'
                refine ⟨_, rfl, _, rfl, fo, _, _, _, rfl, rfl, h3, ix_last, ?_⟩
                rw [set_last]
                have tk := (TK.same s2).trans ((TK.new (K := K) (o := .tup [.str "same", .ref p]) hq).trans (TK.lst (o := .lst (us ++ [.ref q])) h3))
                refine ⟨us ++ [.ref q], _, rfl, same_mut (sm.trans (s2.trans (same_new hq))) hfo, upd_same, ?_⟩
                have e : addPart (init ++ [Part.same xs]) (.same (l :: ls)) = init ++ [.same (xs ++ (l :: ls))] := by simp [addPart]
                rw [etk, tadd, ← etf, e0, e, List.map_append]
                refine dpAll_app (parts_keep tk hd1) (dpAll_one (dp_same (b := p) (TK.lst h3 _ _ (.inl (.inl upd_same))) ?_))
                exact ((TK.new hq).trans (TK.lst h3)) _ _ hp2
    · rintro σ H5 ⟨vs, x2, rfl, sm, hv, hdd⟩
      rw [lw, List.take_length] at hdd
      refine ⟨_, rfl, fo, _, rfl, .inl ⟨SqL.of hv, fun l2 hl2 => ?_⟩⟩
      refine k _ _ (sm.trans (same_new hl2)) ?_
      exact .tup (.inl (.inl upd_same)) (parts_keep (TK.new hl2) hdd)
end
end VK
end

section
set_option Elab.async false
set_option linter.all false
set_option pp.maxSteps 1500
set_option maxRecDepth 100000
set_option maxHeartbeats 4000000
namespace VK
open PySem L2
def shiftH (lo : Nat) (h : Hunk) : Hunk := ⟨h.start - lo, h.gone, h.come⟩
theorem rew_shift (ls : List Str) (lo : Nat) : ∀ (hs : List Hunk) (i : Nat), applyF ls i (hs.map (shiftH lo)) = rewF ls lo i hs
  | [], _ => rfl
  | h :: r, i => by
    rw [List.map_cons, applyF, rewF, ← rew_shift ls lo r]
    rfl
theorem strs_keep {K : PySem.W.Frag} {H H' : Hp} (t : TK K H H') {vs : List V} {ls : List (List Str)} (h : DpAll K H vs (ls.map linesD)) : DpAll K H' vs (ls.map linesD) :=
  dpAll_keep t _ _ (immAll_map _ imm_lines ls) h
abbrev s__law_parts : Stmt := topS 44
theorem sc__law_parts : FnScope ["base", "one", "two", "first", "second", "spans", "low", "high", "found", "here", "sides", "patch", "inner", "old", "hunk"] ["base", "one", "two"] (defScope s__law_parts) := ⟨rfl, rfl, rfl, by decide +kernel, rfl, by decide +kernel, by decide +kernel⟩
section
variable {P : Program} {w : World} {K : PySem.W.Frag} {mg : Str → Option Value} {base : Heap}
theorem ok_lparts {f fT fP fH fA fY : Addr} {fd fdT fdP fdH fdA fdY : FuncData} (F : Fun K "_law_parts" "_law_parts" s__law_parts f fd) (T0 : Txt0 mg) (z_sorted : mg "sorted" = none)
    (DT : Df K mg "_law_table" s__law_table ["one", "two"] fT fdT) (DP : Df K mg "_law_pairs" s__law_pairs ["one", "two"] fP fdP) (D__law_hunks : Df K mg "_law_hunks" s__law_hunks ["one", "two"] fH fdH) (D__law_apply : Df K mg "_law_apply" s__law_apply ["lines", "patch"] fA fdA) (D__law_tidy : Df K mg "_law_tidy" s__law_tidy ["parts"] fY fdY) : FnOk P w K mg base CX0 4 f fd ["base", "one", "two"] (spMerged K) := by
  have G__law_hunks : FnOk P w K mg base CX0 3 fH fdH ["one", "two"] (spLHunks K) := ok_lhunks D__law_hunks.F T0 DT DP
  have G__law_apply : FnOk P w K mg base CX0 1 fA fdA ["lines", "patch"] (spApplyL K) := ok_applyL D__law_apply.F T0
  have G__law_tidy : FnOk P w K mg base CX0 1 fY fdY ["parts"] (spTidy K) := ok_tidy D__law_tidy.F T0
  refine F.ok sc__law_parts (fun vs H Q E h => ?_) (fun cdv A outer s H vs Q E hr h => ?_)
  · obtain ⟨a, b, c, bs, one, two, rfl, _⟩ := h
    rfl
  · obtain ⟨a, b, c, bs, one, two, rfl, hA, hB, hC, lb, lo, lt, ob, oo, ot, k⟩ := h
    refine ⟨_, (pss_cons (ps_set (i := 3) sc__law_parts.nd rfl (Or.inl rfl) (pe_call G__law_hunks (hr.mono (by decide)) rfl D__law_hunks.m D__law_hunks.F.kp D__law_hunks.b .nil pass0 (pa_cons (pv 0) (pa_cons (pv 1) pa_nil))))
      (pss_cons (ps_set (i := 4) sc__law_parts.nd rfl (Or.inl rfl) (pe_call G__law_hunks (hr.mono (by decide)) rfl D__law_hunks.m D__law_hunks.F.kp D__law_hunks.b .nil pass0 (pa_cons (pv 0) (pa_cons (pv 2) pa_nil))))
      (pss_cons (ps_set (i := 5) sc__law_parts.nd rfl (Or.inl rfl) (pe_lst pa_nil))
      (pss_cons (ps_for PassesOwn.never rfl (pi_list (pe_callB cr_sortedPO (by rfl) z_sorted (by decide +kernel) (pa_cons (pe_lc (own := [("hunk", 14)]) (g := gName 14) (tt := tYes) rfl sc__law_parts.nd (pi_tup (pe_op op_catA (pv 3) (pv 4))) (blkOk_by (own := [("hunk", 14)]) (N := ["base", "one", "two", "first", "second", "spans", "low", "high", "found", "here", "sides", "patch", "inner", "old", "hunk"]) (sc := defScope s__law_parts) (by decide +kernel)) (fun _ _ _ _ _ => (pg_name (i := 14) sc__law_parts.nd rfl (Or.inl rfl))) (fun _ _ _ _ _ => pts_nil) (fun _ _ _ _ _ => (pe_tup (pa_cons (pe_ix (ix_tupQ (K := K) rfl) (pv 14) pe_int (fun _ _ => rfl)) (pa_cons (pe_op op_add (pe_ix (ix_tupQ (K := K) rfl) (pv 14) pe_int (fun _ _ => rfl)) (pe_callB (call_lenQ (K := K) rfl) (by rfl) T0.z_len PySem.boot_len (pa_cons (pe_ix (ix_tupQ (K := K) rfl) (pv 14) pe_int (fun _ _ => rfl)) pa_nil))) pa_nil))))) pa_nil))) (pg_tup rfl (pgs_cons (pg_name (i := 6) sc__law_parts.nd rfl (by first | exact Or.inl rfl | exact Or.inr rfl)) (pgs_cons (pg_name (i := 7) sc__law_parts.nd rfl (by first | exact Or.inl rfl | exact Or.inr rfl)) pgs_nil)))
        (pss_one (ps_if (PW.pt (pw_and (pt_cmpR op_gt (pe_callB call_len_seq (by rfl) T0.z_len PySem.boot_len (pa_cons (pv 5) pa_nil)) pe_int (nomark _)) (pw_and1 (pt_cmpR op_le (pv 6) (pe_ix ix_tup (pe_ix ix_list (pv 5) (pe_un un_neg pe_int) (fun _ _ => rfl)) pe_int (fun _ _ => rfl)) (nomark _)))))
          (pss_one (ps_set (i := 5) sc__law_parts.nd rfl (Or.inl rfl) (pe_op op_cat (pe_slice sl_list (pv 5) po_none (po_some (pe_un un_neg pe_int))) (pe_lst (pa_cons (pe_tup (pa_cons (pe_ix ix_tup (pe_ix ix_list (pv 5) (pe_un un_neg pe_int) (fun _ _ => rfl)) pe_int (fun _ _ => rfl)) (pa_cons (pe_callB (call_max2 rfl) (by rfl) T0.z_max (by decide +kernel) (pa_cons (pv 7) (pa_cons (pe_ix ix_tup (pe_ix ix_list (pv 5) (pe_un un_neg pe_int) (fun _ _ => rfl)) pe_int (fun _ _ => rfl)) pa_nil))) pa_nil))) pa_nil)))))
          (pss_one (ps_expr (pe_bm PySem.F.plainAttrs_list PySem.F.slot_list_append PySem.F.type_list_append mt_append (pv 5) (pa_cons (pe_tup (pa_cons (pv 6) (pa_cons (pv 7) pa_nil))) pa_nil)))))))
      (pss_cons (ps_set (i := 8) sc__law_parts.nd rfl (Or.inl rfl) (pe_lst pa_nil))
      (pss_cons (ps_set (i := 9) sc__law_parts.nd rfl (Or.inl rfl) pe_int)
      (pss_cons (ps_for PassesOwn.never rfl (pi_list (pv 5)) (pg_tup rfl (pgs_cons (pg_name (i := 6) sc__law_parts.nd rfl (by first | exact Or.inl rfl | exact Or.inr rfl)) (pgs_cons (pg_name (i := 7) sc__law_parts.nd rfl (by first | exact Or.inl rfl | exact Or.inr rfl)) pgs_nil)))
        (pss_cons (ps_set (i := 10) sc__law_parts.nd rfl (Or.inl rfl) (pe_lst pa_nil))
        (pss_cons (ps_for PassesOwn.never rfl (pi_list (pe_lst (pa_cons (pv 3) (pa_cons (pv 4) pa_nil)))) (pg_name (i := 11) sc__law_parts.nd rfl (Or.inl rfl))
          (pss_cons (ps_setLc (i := 12) (own := [("hunk", 14)]) (g := gName 14) (tt := _) rfl sc__law_parts.nd rfl rfl (sw_true rfl rfl rfl (by decide +kernel)) (pi_tup (pv 11)) (blkOk_by (own := [("hunk", 14)]) (N := ["base", "one", "two", "first", "second", "spans", "low", "high", "found", "here", "sides", "patch", "inner", "old", "hunk"]) (sc := defScope s__law_parts) (by decide +kernel)) (fun _ _ _ _ _ => (pg_name (i := 14) sc__law_parts.nd rfl (Or.inl rfl))) (fun _ _ _ _ _ => (pts_one (PW.pt (pw_and (pt_cmpR op_le (pv 6) (pe_ix (ix_tupQ (K := K) rfl) (pv 14) pe_int (fun _ _ => rfl)) (nomark _)) (pw_and1 (pt_cmpR op_le (pe_op op_add (pe_ix (ix_tupQ (K := K) rfl) (pv 14) pe_int (fun _ _ => rfl)) (pe_callB (call_lenQ (K := K) rfl) (by rfl) T0.z_len PySem.boot_len (pa_cons (pe_ix (ix_tupQ (K := K) rfl) (pv 14) pe_int (fun _ _ => rfl)) pa_nil))) (pv 7) (nomark _))))))) (fun _ _ _ _ _ => (pe_tup (pa_cons (pe_op op_sub (pe_ix (ix_tupQ (K := K) rfl) (pv 14) pe_int (fun _ _ => rfl)) (pv 6)) (pa_cons (pe_ix (ix_tupQ (K := K) rfl) (pv 14) pe_int (fun _ _ => rfl)) (pa_cons (pe_ix (ix_tupQ (K := K) rfl) (pv 14) pe_int (fun _ _ => rfl)) pa_nil))))))
          (pss_one (ps_expr (pe_bm PySem.F.plainAttrs_list PySem.F.slot_list_append PySem.F.type_list_append mt_append (pv 10) (pa_cons (pe_call G__law_apply (hr.mono (by decide)) rfl D__law_apply.m D__law_apply.F.kp D__law_apply.b .nil pass0 (pa_cons (pe_slice sl_tupA (pv 0) (po_some (pv 6)) (po_some (pv 7))) (pa_cons (pv 12) pa_nil))) pa_nil))))))
        (pss_cons (ps_set (i := 13) sc__law_parts.nd rfl (Or.inl rfl) (pe_callTy call_tupleT (by rfl) T0.z_tuple (by decide +kernel) (pa_cons (pe_slice sl_tupA (pv 0) (po_some (pv 6)) (po_some (pv 7))) pa_nil)))
        (pss_cons (ps_expr (pe_bm PySem.F.plainAttrs_list PySem.F.slot_list_append PySem.F.type_list_append mt_append (pv 8) (pa_cons (pe_tup (pa_cons pe_str (pa_cons (pe_callTy call_tupleT (by rfl) T0.z_tuple (by decide +kernel) (pa_cons (pe_slice sl_tupA (pv 0) (po_some (pv 9)) (po_some (pv 6))) pa_nil)) pa_nil))) pa_nil)))
        (pss_cons (ps_if (PW.pt (pw_or (pt_cmpR (op_eqD hr.units) (pe_ix ix_list (pv 10) pe_int (fun _ _ => rfl)) (pe_ix ix_list (pv 10) pe_int (fun _ _ => rfl)) (nomark _)) (pw_or1 (pt_cmpR (op_eqD hr.units) (pe_ix ix_list (pv 10) pe_int (fun _ _ => rfl)) (pv 13) (nomark _)))))
          (pss_one (ps_expr (pe_bm PySem.F.plainAttrs_list PySem.F.slot_list_append PySem.F.type_list_append mt_append (pv 8) (pa_cons (pe_tup (pa_cons pe_str (pa_cons (pe_ix ix_list (pv 10) pe_int (fun _ _ => rfl)) pa_nil))) pa_nil))))
          (pss_one (ps_if (pt_cmpR (op_eqD hr.units) (pe_ix ix_list (pv 10) pe_int (fun _ _ => rfl)) (pv 13) (nomark _))
            (pss_one (ps_expr (pe_bm PySem.F.plainAttrs_list PySem.F.slot_list_append PySem.F.type_list_append mt_append (pv 8) (pa_cons (pe_tup (pa_cons pe_str (pa_cons (pe_ix ix_list (pv 10) pe_int (fun _ _ => rfl)) pa_nil))) pa_nil))))
            (pss_one (ps_expr (pe_bm PySem.F.plainAttrs_list PySem.F.slot_list_append PySem.F.type_list_append mt_append (pv 8) (pa_cons (pe_tup (pa_cons pe_str (pa_cons (pv 13) (pa_cons (pe_ix ix_list (pv 10) pe_int (fun _ _ => rfl)) (pa_cons (pe_ix ix_list (pv 10) pe_int (fun _ _ => rfl)) pa_nil))))) pa_nil)))))))
        (pss_one (ps_set (i := 9) sc__law_parts.nd rfl (Or.inl rfl) (pv 7)))))))))
      (pss_one (ps_ret (pe_call G__law_tidy (hr.mono (by decide)) rfl D__law_tidy.m D__law_tidy.F.kp D__law_tidy.b .nil pass0 (pa_cons (pe_op op_cat (pv 8) (pe_lst (pa_cons (pe_tup (pa_cons pe_str (pa_cons (pe_callTy call_tupleT (by rfl) T0.z_tuple (by decide +kernel) (pa_cons (pe_slice sl_tupA (pv 0) (po_some (pv 9)) po_none) pa_nil)) pa_nil))) pa_nil))) pa_nil))))))))))), ?_⟩
    obtain ⟨f1, ef⟩ : ∃ f1, f1 = hunksL bs one := ⟨_, rfl⟩
    obtain ⟨f2, es⟩ : ∃ f2, f2 = hunksL bs two := ⟨_, rfl⟩
    have lf1 : f1.length ≤ 11 := by rw [ef]; have := hunksL_len bs one; omega
    have lf2 : f2.length ≤ 11 := by rw [es]; have := hunksL_len bs two; omega
    have cf1 : ∀ h ∈ f1, h.come.length ≤ 10 := fun h hm => by rw [ef] at hm; have := hunksF_come hm; omega
    have cf2 : ∀ h ∈ f2, h.come.length ≤ 10 := fun h hm => by rw [es] at hm; have := hunksF_come hm; omega
    refine ⟨_, rfl, _, rfl, a, b, bs, one, rfl, hA, hB, by omega, by omega, fun H1 v1 s1 d1 => ?_⟩
    refine ⟨_, rfl, _, rfl, a, c, bs, two, rfl, s1.seqT hA, s1.seqT hC, by omega, by omega, fun H2 v2 s2 d2 => ?_⟩
    rw [← ef] at d1
    rw [← es] at d2
    have s02 := s1.trans s2
    have d1' := dp_keep (TK.same s2) _ _ (imm_hunks f1) d1
    obtain ⟨p1, us, rfl, ha, hda⟩ := of_tupD d1'
    obtain ⟨p2, vs, rfl, hb, hdb⟩ := of_tupD d2
    have lu : us.length = f1.length := by rw [dpAll_len hda, List.length_map]
    have lv : vs.length = f2.length := by rw [dpAll_len hdb, List.length_map]
    refine ⟨by show 0 ≤ sizeLine; decide, fun fo hfo => ?_⟩
    dsimp only [gName]
    obtain ⟨H3, e3⟩ : ∃ H3, H3 = upd H2 fo (.lst []) := ⟨_, rfl⟩
    rw [← e3]
    have s23 : Same H2 H3 := by rw [e3]; exact same_new hfo
    have hfo3 : H3 fo = some (.lst []) := by rw [e3, upd_same]
    have s03 := s02.trans s23
    -- the spans
    refine cut (fun σ' H' => ∃ (sp : Addr) (ws : List V) (x6 x7 : Option V), σ' = [some (.ref a), some (.ref b), some (.ref c), some (.ref p1), some (.ref p2), some (.ref sp), x6, x7, none, none, none, none, none, none, none] ∧ Same H2 H' ∧ H' sp = some (.lst ws) ∧ DpAll K H' ws ((spansF f1 f2).map pairD)) (fun nx hn => ?_) ?_
    · refine ⟨_, rfl, _, rfl, cat_tupK (s23.seqT ha) (s23.seqT hb) (Nat.le_trans (show us.length + vs.length ≤ 2000 by omega) (by decide)) fun H4 cc s4 hc => ?_⟩
      have s24 := s23.trans s4
      have hd4 : DpAll K H4 (us ++ vs) ((f1 ++ f2).map hunkD) := by
        rw [List.map_append]
        exact dpAll_app (hunks_keep (TK.same s24) hda) (hunks_keep (TK.same s24) hdb)
      have ln : (us ++ vs).length = (f1 ++ f2).length := by rw [List.length_append, List.length_append, lu, lv]
      refine ⟨cc, rfl, ⟨_, hc⟩, fun D hD => ?_⟩
      refine lc_tup (xs := us ++ vs) (fun t H' => ∃ ys, H' D = some (.lst ys) ∧ Same H4 H' ∧ PA H' ys (((f1 ++ f2).take t).map hspan)) ⟨[], upd_same, same_new hD, rfl, fun _ h => nomatch h⟩ (fun t H' _ h => by obtain ⟨ys, h1, h2, h3⟩ := h; exact h2.seqT hc) ?_ ?_
      · rintro t x H5 hx ⟨ys, hys, s5, hpa⟩
        have ht : t < (f1 ++ f2).length := by rw [← ln]; exact (List.getElem?_eq_some_iff.mp hx).1
        obtain ⟨h, eh⟩ : ∃ h, h = (f1 ++ f2)[t] := ⟨_, rfl⟩
        have hrt : (f1 ++ f2)[t]? = some h := by rw [List.getElem?_eq_getElem ht, eh]
        obtain ⟨v, hv1, hv2⟩ := dpAll_at (hunks_keep (TK.same s5) hd4) (k := t) (d := hunkD h) (by rw [List.getElem?_map, hrt]; rfl)
        obtain rfl : v = x := Option.some.inj (hv1.symm.trans hx)
        obtain ⟨z, g, m, rfl, hz, hg, hm⟩ := of_hunk hv2
        have etk : (f1 ++ f2).take (t + 1) = (f1 ++ f2).take t ++ [h] := by rw [List.take_succ, hrt]; rfl
        have lys : ys.length < 1000000 := by
          have q1 := congrArg List.length hpa.eq
          rw [List.length_map, List.length_map, List.length_take] at q1
          rw [List.length_append] at ht
          omega
        refine ⟨rfl, _, rfl, z, _, _, _, rfl, rfl, hz, rfl, _, rfl, z, _, _, _, rfl, rfl, hz, rfl, _, rfl, z, _, _, _, rfl, rfl, hz, rfl, g, _, rfl, .inr hg, _, _, rfl, rfl, by show 2 ≤ sizeLine; decide, fun q hq => ?_⟩
        have hys2 : upd H5 q (.tup [.int (h.start : Int), .int ((h.start : Int) + ((h.gone.map V.str).length : Int))]) D = some (.lst ys) := by rw [upd_ne (ne_of_none hys hq)]; exact hys
        refine ⟨ys, hys2, Nat.lt_of_lt_of_le lys (by decide), ys ++ [.ref q], upd_same, same_mut (s5.trans (same_new hq)) hD, ?_⟩
        rw [etk, List.map_append]
        refine (hpa.same fun a xs e => ?_).snoc ?_
        · have n1 : a ≠ q := ne_of_none e hq
          have n2 : a ≠ D := by rintro rfl; rw [hys] at e; cases e
          rw [upd_ne n2, upd_ne n1]; exact e
        · have n2 : q ≠ D := by rintro rfl; rw [hys] at hq; cases hq
          rw [upd_ne n2, upd_same, List.length_map]
          rfl
      · rintro H5 ⟨ys, hys, s5, hpa⟩
        rw [ln, List.take_length] at hpa
        refine ⟨D, ys, kOf H5, rfl, SqL.of hys, fun x hx => ?_, fun zs p hz1 hz2 hp => ?_⟩
        · obtain ⟨t, i, j, rfl, ht⟩ := hpa.all x hx
          exact ⟨t, rfl, by rw [kOf_at ht]; exact ht⟩
        · obtain ⟨H6, e6⟩ : ∃ H6, H6 = upd H5 p (.lst zs) := ⟨_, rfl⟩
          rw [← e6]
          have s56 : Same H5 H6 := by rw [e6]; exact same_new hp
          have hp6 : H6 p = some (.lst zs) := by rw [e6, upd_same]
          obtain ⟨qs, eqs⟩ : ∃ qs, qs = sortP ((f1 ++ f2).map hspan) := ⟨_, rfl⟩
          have hd6 : DpAll K H6 zs (qs.map pairD) := by
            rw [eqs]
            exact ((hpa.sorted hz1 hz2).same fun a xs e => s56 _ _ e).dp
          have lz : zs.length = qs.length := by rw [dpAll_len hd6, List.length_map]
          have lq : qs.length ≤ 2000 := by
            rw [eqs, (sortP_perm _).length_eq, List.length_map, List.length_append]
            omega
          have s46 : Same H4 H6 := s5.trans s56
          have hfo6 : H6 fo = some (.lst []) := s46 _ _ (s4 _ _ hfo3)
          have s26 : Same H2 H6 := s24.trans s46
          have npf : p ≠ fo := fun e => by
            rw [e, s5 _ _ (s4 _ _ hfo3)] at hp
            cases hp
          refine ⟨p, rfl, ⟨_, SqL.of hp6⟩, ?_⟩
          refine for_it (walk_list (xs := zs)) (fun i σ H' => ∃ (sp : Addr) (vs : List V) (dn : List (Nat × Nat)) (x6 x7 : Option V), σ = [some (.ref a), some (.ref b), some (.ref c), some (.ref p1), some (.ref p2), some (.ref sp), x6, x7, none, none, none, none, none, none, none] ∧ Same H2 H' ∧ H2 sp = none ∧ sp ≠ p ∧ TK K H6 H' ∧ H' p = some (.lst zs) ∧ H' sp = some (.lst vs) ∧ DpAll K H' vs (dn.map pairD) ∧ (qs.drop i).foldl addSpan dn = spansF f1 f2 ∧ dn.length ≤ i) ?_ (fun i σ H' _ h => ?_) ?_ ?_
          · exact ⟨fo, [], [], none, none, rfl, s26, hfo, npf.symm, TK.refl _ _, hp6, hfo6, .nil, by rw [eqs]; rfl, Nat.le_refl _⟩
          · obtain ⟨sp, vs, dn, x6, x7, rfl, h1, h2, h2', h3, h4, h5⟩ := h
            exact SqL.of h4
          · rintro i x σ H7o H7 hi ⟨sp, vs, dn, x6, x7, rfl, sm, hsp, nsp, tk, hpp, hv, hdd, hfold, hlen⟩ ⟨rfl, hx⟩
            have hcf : i < qs.length := by rw [← lz]; exact hi
            obtain ⟨⟨lo', hi'⟩, eq⟩ : ∃ q, q = qs[i] := ⟨_, rfl⟩
            have hf : qs[i]? = some (lo', hi') := by rw [List.getElem?_eq_getElem hcf, eq]
            obtain ⟨v, hv1, hv2⟩ := dpAll_at (pairs_keep tk hd6) (k := i) (d := pairD (lo', hi')) (by rw [List.getElem?_map, hf]; rfl)
            obtain rfl : v = x := Option.some.inj (hv1.symm.trans hx)
            obtain ⟨z, rfl, hz⟩ := of_pair hv2
            have ed : qs.drop i = (lo', hi') :: qs.drop (i + 1) := by rw [List.drop_eq_getElem_cons hcf, ← eq]
            rw [ed, List.foldl_cons] at hfold
            have lvd : vs.length = dn.length := by rw [dpAll_len hdd, List.length_map]
            have lvs : vs.length < sizeLine := Nat.lt_of_lt_of_le (show vs.length < 5000 by omega) (by decide)
            refine ⟨z, _, rfl, hz, rfl, _, _, rfl, _, _, rfl, rfl, ?_⟩
            refine ⟨_, rfl, sp, _, rfl, .inl (SqL.of hv), _, _, rfl, rfl, _, rfl, ?_⟩
            have app : addSpan dn (lo', hi') = dn ++ [(lo', hi')] → ∀ q, H7 q = none → ∃ (sp' : Addr) (vs' : List V) (dn' : List (Nat × Nat)) (x6 x7 : Option V), [some (V.ref a), some (.ref b), some (.ref c), some (.ref p1), some (.ref p2), some (.ref sp), some (.int (lo' : Int)), some (.int (hi' : Int)), none, none, none, none, none, none, none] = [some (V.ref a), some (.ref b), some (.ref c), some (.ref p1), some (.ref p2), some (.ref sp'), x6, x7, none, none, none, none, none, none, none] ∧ Same H2 (upd (upd H7 q (.tup [.int (lo' : Int), .int (hi' : Int)])) sp (.lst (vs ++ [.ref q]))) ∧ H2 sp' = none ∧ sp' ≠ p ∧ TK K H6 (upd (upd H7 q (.tup [.int (lo' : Int), .int (hi' : Int)])) sp (.lst (vs ++ [.ref q]))) ∧
                (upd (upd H7 q (.tup [.int (lo' : Int), .int (hi' : Int)])) sp (.lst (vs ++ [.ref q]))) p = some (.lst zs) ∧ (upd (upd H7 q (.tup [.int (lo' : Int), .int (hi' : Int)])) sp (.lst (vs ++ [.ref q]))) sp' = some (.lst vs') ∧ DpAll K (upd (upd H7 q (.tup [.int (lo' : Int), .int (hi' : Int)])) sp (.lst (vs ++ [.ref q]))) vs' (dn'.map pairD) ∧ (qs.drop (i + 1)).foldl addSpan dn' = spansF f1 f2 ∧ dn'.length ≤ i + 1 := fun e q hq => by
              have h2 : upd H7 q (.tup [.int (lo' : Int), .int (hi' : Int)]) sp = some (.lst vs) := by rw [upd_ne (ne_of_none hv hq)]; exact hv
              have tk2 := (TK.new (K := K) (o := .tup [.int (lo' : Int), .int (hi' : Int)]) hq).trans (TK.lst (o := .lst (vs ++ [.ref q])) h2)
              refine ⟨sp, vs ++ [.ref q], dn ++ [(lo', hi')], _, _, rfl, same_mut (sm.trans (same_new hq)) hsp, hsp, nsp, tk.trans tk2, ?_, upd_same, ?_, ?_, ?_⟩
              · rw [upd_ne nsp.symm, upd_ne (ne_of_none hpp hq)]; exact hpp
              · rw [List.map_append]
                exact dpAll_app (pairs_keep tk2 hdd) (dpAll_one (dp_pair (TK.lst h2 _ _ (.inl (.inl upd_same)))))
              · rw [← e]; exact hfold
              · rw [List.length_append]; exact Nat.succ_le_succ hlen
            rcases List.eq_nil_or_concat dn with rfl | ⟨init, w', rfl⟩
            · cases hdd
              refine iteF ?_
              refine iteF ?_
              refine ⟨_, rfl, .inl ⟨rfl, _, SqL.of hv⟩, _, rfl, _, rfl, by show 2 ≤ sizeLine; decide, fun q hq => ⟨sp, [], _, rfl, rfl, by rw [upd_ne (ne_of_none hv hq)]; exact hv, lvs, ?_⟩⟩
              exact app rfl q hq
            · rw [List.concat_eq_append] at *
              have lpv : decide ((vs.length : Int) > 0) = true := decide_eq_true (by rw [lvd, List.length_append, List.length_singleton]; omega)
              rw [lpv]
              refine iteT ?_
              rw [List.map_append] at hdd
              obtain ⟨us', v', rfl, hd1', hdv⟩ := dpAll_split hdd
              obtain ⟨z', rfl, hz'⟩ := of_pair hdv
              refine ⟨_, rfl, _, rfl, _, rfl, sp, _, _, _, rfl, rfl, SqL.of hv, at_last, z', _, _, _, rfl, rfl, hz', rfl, _, _, rfl, rfl, _, rfl, ?_⟩
              refine ite2 (fun e => ?_) (fun e => ?_)
              · have e' : lo' ≤ w'.2 := by
                  have := of_decide_eq_true e
                  omega
                refine ⟨_, rfl, ?_⟩
                dsimp only [tNoPart]
                refine ⟨_, rfl, _, rfl, sp, _, rfl, SqL.of hv, fun l1 hl1 => ?_⟩
                rw [cutV_init]
                obtain ⟨H8, e8⟩ : ∃ H8, H8 = upd H7 l1 (.lst us') := ⟨_, rfl⟩
                rw [← e8]
                have s78 : Same H7 H8 := by rw [e8]; exact same_new hl1
                have hl18 : H8 l1 = some (.lst us') := by rw [e8, upd_same]
                have hv8 := s78 _ _ hv
                have hz8 := s78.seqT hz'
                refine ⟨_, rfl, _, rfl, sp, _, _, _, rfl, rfl, SqL.of hv8, at_last, z', _, _, _, rfl, rfl, hz8, rfl, _, rfl, _, rfl, _, rfl, sp, _, _, _, rfl, rfl, SqL.of hv8, at_last, z', _, _, _, rfl, rfl, hz8, rfl, _, _, rfl, by show 2 ≤ sizeLine; decide, fun q hq => ⟨by show 1 ≤ sizeLine; decide, fun l2 hl2 => ?_⟩⟩
                have em : (if (w'.2 : Int) > (hi' : Int) then (w'.2 : Int) else (hi' : Int)) = ((max w'.2 hi' : Nat) : Int) := by
                  by_cases z : (w'.2 : Int) > (hi' : Int)
                  · rw [if_pos z]; omega
                  · rw [if_neg z]; omega
                obtain ⟨H9, e9⟩ : ∃ H9, H9 = upd H8 q (.tup [.int (w'.1 : Int), .int (if (w'.2 : Int) > (hi' : Int) then (w'.2 : Int) else (hi' : Int))]) := ⟨_, rfl⟩
                rw [← e9] at hl2 ⊢
                have s89 : Same H8 H9 := by rw [e9]; exact same_new hq
                have hq9 : H9 q = some (.tup [.int (w'.1 : Int), .int ((max w'.2 hi' : Nat) : Int)]) := by rw [e9, upd_same, em]
                obtain ⟨H10, e10⟩ : ∃ H10, H10 = upd H9 l2 (.lst [.ref q]) := ⟨_, rfl⟩
                rw [← e10]
                have s910 : Same H9 H10 := by rw [e10]; exact same_new hl2
                have s710 := s78.trans (s89.trans s910)
                have lus : us'.length ≤ 5000 := by
                  have := dpAll_len hd1'
                  rw [List.length_map] at this
                  rw [List.length_append] at hlen
                  omega
                refine ⟨l1, l2, us', [.ref q], rfl, rfl, (s89.trans s910) _ _ hl18, by rw [e10, upd_same], Nat.le_trans (show us'.length + 1 ≤ 6000 by omega) (by decide), fun L hL => ?_⟩
                have sL := s710.trans (same_new (o := .lst (us' ++ [.ref q])) hL)
                refine ⟨L, us' ++ [.ref q], init ++ [(w'.1, max w'.2 hi')], _, _, rfl, sm.trans sL, none_of (sm.trans s710) hL, fun e => ?_, tk.trans (TK.same sL), sL _ _ hpp, upd_same, ?_, ?_, ?_⟩
                · rw [e, s710 _ _ hpp] at hL
                  cases hL
                · rw [List.map_append]
                  refine dpAll_app (pairs_keep (TK.same sL) hd1') (dpAll_one (dp_pair ?_))
                  exact (s910.trans (same_new hL)).seqT (.inl (.inl hq9))
                · have e2 : addSpan (init ++ [w']) (lo', hi') = init ++ [(w'.1, max w'.2 hi')] := by
                    unfold addSpan
                    simp [e']
                  rw [← e2]; exact hfold
                · simp only [List.length_append, List.length_singleton] at hlen ⊢
                  omega
              · have e' : ¬ lo' ≤ w'.2 := fun q => e (decide_eq_true (by omega))
                refine ⟨_, rfl, .inl ⟨rfl, _, SqL.of hv⟩, _, rfl, _, rfl, by show 2 ≤ sizeLine; decide, fun q hq => ⟨sp, _, _, rfl, rfl, by rw [upd_ne (ne_of_none hv hq)]; exact hv, lvs, ?_⟩⟩
                refine app ?_ q hq
                unfold addSpan
                simp [e']
          · rintro σ H7 ⟨sp, vs, dn, x6, x7, rfl, sm, hsp, nsp, tk, hpp, hv, hdd, hfold, hlen⟩
            rw [lz, List.drop_length] at hfold
            exact hn _ _ ⟨sp, vs, x6, x7, rfl, sm, hv, by rw [← (show dn = spansF f1 f2 from hfold)]; exact hdd⟩
    · rintro σ' H4 ⟨sp, ws, x6, x7, rfl, s24, hsp, hd⟩
      have s04 := s02.trans s24
      obtain ⟨sps, esp⟩ : ∃ sps, sps = spansF f1 f2 := ⟨_, rfl⟩
      rw [← esp] at hd
      have lw : ws.length = sps.length := by rw [dpAll_len hd, List.length_map]
      have lsp : sps.length ≤ 22 := by rw [esp]; have := spansF_len f1 f2; omega
      have rp := raw_plP (m := 10) (base := bs) (f := f1) (s := f2) lb lf1 lf2 cf1 cf2
      refine ⟨by show 0 ≤ sizeLine; decide, fun fo2 hfo2 => ?_⟩
      refine seq_c ?_
      obtain ⟨H5, e5⟩ : ∃ H5, H5 = upd H4 fo2 (.lst []) := ⟨_, rfl⟩
      rw [← e5]
      have s45 : Same H4 H5 := by rw [e5]; exact same_new hfo2
      have hfo5 : H5 fo2 = some (.lst []) := by rw [e5, upd_same]
      have s05 := s04.trans s45
      have hfo0 : H fo2 = none := none_of s04 hfo2
      have hsp5 := s45 _ _ hsp
      have nsf : sp ≠ fo2 := ne_of_none hsp hfo2
      have hd5 : DpAll K H5 ws (sps.map pairD) := pairs_keep (TK.same s45) hd
      have s25 := s24.trans s45
      have d15 : Dp K H5 (.ref p1) (hunksD f1) := dp_keep (TK.same s25) _ _ (imm_hunks f1) d1'
      have d25 : Dp K H5 (.ref p2) (hunksD f2) := dp_keep (TK.same s25) _ _ (imm_hunks f2) d2
      refine ⟨_, rfl, sp, rfl, ⟨_, SqL.of hsp5⟩, ?_⟩
      refine for_it (walk_list (xs := ws)) (fun i σ H' => ∃ (here : Nat) (vs : List V) (dn : List Part) (x6 x7 x10 x11 x12 x13 : Option V), σ = [some (.ref a), some (.ref b), some (.ref c), some (.ref p1), some (.ref p2), some (.ref sp), x6, x7, some (.ref fo2), some (.int (here : Int)), x10, x11, x12, x13, none] ∧ Same H H' ∧ TK K H5 H' ∧ H' sp = some (.lst ws) ∧ H' fo2 = some (.lst vs) ∧ DpAll K H' vs (dn.map partD) ∧ dn ++ rawF bs f1 f2 here (sps.drop i) = rawF bs f1 f2 0 sps ∧ dn.length = 2 * i) ?_ (fun i σ H' _ h => ?_) ?_ ?_
      · exact ⟨0, [], [], _, _, none, none, none, none, rfl, s05, TK.refl _ _, hsp5, hfo5, .nil, rfl, rfl⟩
      · obtain ⟨here, vs, dn, x6, x7, x10, x11, x12, x13, rfl, h1, h2, h3, h4⟩ := h
        exact SqL.of h3
      · rintro i x σ H6o H6 hi ⟨here, vs, dn, x6, x7, x10, x11, x12, x13, rfl, sm, tk, hss, hv, hdd, hraw, hdl⟩ ⟨rfl, hx⟩
        have hif : i < sps.length := by rw [← lw]; exact hi
        obtain ⟨⟨lo', hi'⟩, eq⟩ : ∃ q, q = sps[i] := ⟨_, rfl⟩
        have hf : sps[i]? = some (lo', hi') := by rw [List.getElem?_eq_getElem hif, eq]
        obtain ⟨v, hv1, hv2⟩ := dpAll_at (pairs_keep tk hd5) (k := i) (d := pairD (lo', hi')) (by rw [List.getElem?_map, hf]; rfl)
        obtain rfl : v = x := Option.some.inj (hv1.symm.trans hx)
        obtain ⟨z, rfl, hz⟩ := of_pair hv2
        have ed : sps.drop i = (lo', hi') :: sps.drop (i + 1) := by rw [List.drop_eq_getElem_cons hif, ← eq]
        rw [ed, rawF] at hraw
        obtain ⟨l1, el1⟩ : ∃ l1, l1 = sideF bs f1 lo' hi' := ⟨_, rfl⟩
        obtain ⟨l2, el2⟩ : ∃ l2, l2 = sideF bs f2 lo' hi' := ⟨_, rfl⟩
        rw [← el1, ← el2] at hraw
        have ll1 : l1.length ≤ 230 := by rw [el1]; exact side_len (m := 10) lb lf1 cf1 lo' hi'
        have ll2 : l2.length ≤ 230 := by rw [el2]; exact side_len (m := 10) lb lf2 cf2 lo' hi'
        have lvd : vs.length = dn.length := by rw [dpAll_len hdd, List.length_map]
        have lvs : vs.length < 1000 := by omega
        refine ⟨z, _, rfl, hz, rfl, _, _, rfl, _, _, rfl, rfl, ?_⟩
        refine ⟨by show 0 ≤ sizeLine; decide, fun sd hsd => ?_⟩
        dsimp only [gName]
        have s67 : Same H6 (upd H6 sd (.lst [])) := same_new hsd
        refine cut (fun σ' H' => ∃ (r1 r2 : Addr) (x11 x12 : Option V), σ' = [some (.ref a), some (.ref b), some (.ref c), some (.ref p1), some (.ref p2), some (.ref sp), some (.int (lo' : Int)), some (.int (hi' : Int)), some (.ref fo2), some (.int (here : Int)), some (.ref sd), x11, x12, x13, none] ∧ Same H6 H' ∧ H' sd = some (.lst [.ref r1, .ref r2]) ∧ SqT K H' r1 (l1.map V.str) ∧ SqT K H' r2 (l2.map V.str)) (fun nx hn => ?_) ?_
        · refine ⟨_, rfl, _, rfl, by show 2 ≤ sizeLine; decide, fun pl hpl => ⟨pl, rfl, ⟨_, SqL.of upd_same⟩, ?_⟩⟩
          have s68 : Same H6 (upd (upd H6 sd (.lst [])) pl (.lst [.ref p1, .ref p2])) := s67.trans (same_new hpl)
          have npd : pl ≠ sd := fun e => by rw [e, upd_same] at hpl; cases hpl
          refine for_it (walk_list (xs := [.ref p1, .ref p2])) (fun j σ H' => ∃ (vs2 : List V) (x11 x12 : Option V), σ = [some (.ref a), some (.ref b), some (.ref c), some (.ref p1), some (.ref p2), some (.ref sp), some (.int (lo' : Int)), some (.int (hi' : Int)), some (.ref fo2), some (.int (here : Int)), some (.ref sd), x11, x12, x13, none] ∧ Same H6 H' ∧ H' pl = some (.lst [.ref p1, .ref p2]) ∧ H' sd = some (.lst vs2) ∧ DpAll K H' vs2 (([l1, l2].take j).map linesD)) ?_ (fun j σ H' _ h => ?_) ?_ ?_
          · exact ⟨[], _, _, rfl, s68, upd_same, by rw [upd_ne npd.symm, upd_same], .nil⟩
          · obtain ⟨vs2, x11, x12, rfl, h1, h2, h3⟩ := h
            exact SqL.of h2
          · rintro j x σ H8o H8 hj ⟨vs2, x11, x12, rfl, sm8, hpl8, hsd8, hd8⟩ ⟨rfl, hx⟩
            have hj2 : j < 2 := hj
            have tk8 := tk.trans (TK.same sm8)
            obtain ⟨pj, fj, lj, exj, dj, lfj, elj, ejj, llj⟩ : ∃ (pj : Addr) (fj : List Hunk) (lj : List Str), x = .ref pj ∧ Dp K H8 (.ref pj) (hunksD fj) ∧ fj.length ≤ 11 ∧ lj = sideF bs fj lo' hi' ∧ [l1, l2].take (j + 1) = [l1, l2].take j ++ [lj] ∧ lj.length ≤ 230 := by
              have hjj : j = 0 ∨ j = 1 := by omega
              rcases hjj with rfl | rfl
              · exact ⟨p1, f1, l1, (Option.some.inj hx).symm, dp_keep tk8 _ _ (imm_hunks f1) d15, lf1, el1, rfl, ll1⟩
              · exact ⟨p2, f2, l2, (Option.some.inj hx).symm, dp_keep tk8 _ _ (imm_hunks f2) d25, lf2, el2, rfl, ll2⟩
            subst exj
            obtain ⟨pj', uj, epj, huj, hdj⟩ := of_tupD dj
            cases epj
            have luj : uj.length = fj.length := by rw [dpAll_len hdj, List.length_map]
            refine ⟨_, rfl, pj, rfl, ⟨_, huj⟩, fun D hD => ?_⟩
            refine lc_tup (xs := uj) (fun t H' => ∃ ys, H' D = some (.lst ys) ∧ Same H8 H' ∧ DpAll K H' ys (((withinF (fj.take t) lo' hi').map (shiftH lo')).map hunkD)) ⟨[], upd_same, same_new hD, .nil⟩ (fun t H' _ h => by obtain ⟨ys, h1, h2, h3⟩ := h; exact h2.seqT huj) ?_ ?_
            · rintro t x H9 hx ⟨ys, hys, s9, hdy⟩
              have ht : t < fj.length := by rw [← luj]; exact (List.getElem?_eq_some_iff.mp hx).1
              obtain ⟨h, eh⟩ : ∃ h, h = fj[t] := ⟨_, rfl⟩
              have hrt : fj[t]? = some h := by rw [List.getElem?_eq_getElem ht, eh]
              obtain ⟨v, hv1, hv2⟩ := dpAll_at (hunks_keep (TK.same s9) hdj) (k := t) (d := hunkD h) (by rw [List.getElem?_map, hrt]; rfl)
              obtain rfl : v = x := Option.some.inj (hv1.symm.trans hx)
              obtain ⟨z, g, m, rfl, hz, hg, hm⟩ := of_hunk hv2
              have etk : fj.take (t + 1) = fj.take t ++ [h] := by rw [List.take_succ, hrt]; rfl
              refine ⟨rfl, ?_⟩
              refine tAnd_pure (y := decide (h.start + h.gone.length ≤ hi')) (fun Q h' => ⟨_, rfl, _, rfl, z, _, _, _, rfl, rfl, hz, rfl, _, _, rfl, rfl, _, rfl, h'⟩) (fun Q h' => ⟨_, rfl, z, _, _, _, rfl, rfl, hz, rfl, _, rfl, z, _, _, _, rfl, rfl, hz, rfl, g, _, rfl, .inr hg, _, _, rfl, rfl, _, rfl, _, _, rfl, rfl, _, rfl, ?_⟩) ?_
              · rw [List.length_map]
                have e : decide ((h.start : Int) + (h.gone.length : Int) ≤ (hi' : Int)) = decide (h.start + h.gone.length ≤ hi') := by
                  by_cases q : h.start + h.gone.length ≤ hi'
                  · rw [decide_eq_true q, decide_eq_true]; omega
                  · rw [decide_eq_false q, decide_eq_false]; omega
                rw [e]; exact h'
              · have e1 : decide ((lo' : Int) ≤ (h.start : Int)) = decide (lo' ≤ h.start) := by
                  by_cases q : lo' ≤ h.start
                  · rw [decide_eq_true q, decide_eq_true]; omega
                  · rw [decide_eq_false q, decide_eq_false]; omega
                rw [e1]
                have lys : ys.length < 1000000 := by
                  have q1 := dpAll_len hdy
                  rw [List.length_map, List.length_map] at q1
                  have q2 := List.length_filter_le (fun h : Hunk => decide (lo' ≤ h.start) && decide (h.start + h.gone.length ≤ hi')) (fj.take t)
                  rw [List.length_take] at q2
                  unfold withinF at q1
                  omega
                refine ite2 (fun e => ?_) (fun e => ?_)
                · have e2 : lo' ≤ h.start := by
                    rw [Bool.and_eq_true, decide_eq_true_eq] at e
                    exact e.1
                  have esub : (h.start : Int) - (lo' : Int) = ((h.start - lo' : Nat) : Int) := by omega
                  refine ⟨_, rfl, z, _, _, _, rfl, rfl, hz, rfl, _, rfl, _, _, rfl, rfl, _, rfl, z, _, _, _, rfl, rfl, hz, rfl, _, rfl, z, _, _, _, rfl, rfl, hz, rfl, by show 3 ≤ sizeLine; decide, fun q hq => ?_⟩
                  have ys2 : upd H9 q (.tup [.int ((h.start : Int) - (lo' : Int)), .ref g, .ref m]) D = some (.lst ys) := by rw [upd_ne (ne_of_none hys hq)]; exact hys
                  refine ⟨ys, ys2, Nat.lt_of_lt_of_le lys (by decide), ys ++ [.ref q], upd_same, same_mut (s9.trans (same_new hq)) hD, ?_⟩
                  have tk2 := (TK.new (K := K) (o := .tup [.int ((h.start : Int) - (lo' : Int)), .ref g, .ref m]) hq).trans (TK.lst (o := .lst (ys ++ [.ref q])) ys2)
                  have ef : withinF (fj.take (t + 1)) lo' hi' = withinF (fj.take t) lo' hi' ++ [h] := by
                    unfold withinF
                    rw [etk, List.filter_append, List.filter_cons_of_pos (p := fun h : Hunk => decide (lo' ≤ h.start) && decide (h.start + h.gone.length ≤ hi')) e, List.filter_nil]
                  rw [ef, List.map_append, List.map_append]
                  refine dpAll_app (hunks_keep tk2 hdy) (dpAll_one (dp_hunk (h := shiftH lo' h) (b := g) (c := m) ?_ ?_ ?_))
                  · show SqT K _ q [.int ((h.start - lo' : Nat) : Int), .ref g, .ref m]
                    rw [← esub]
                    exact TK.lst ys2 _ _ (.inl (.inl upd_same))
                  · exact tk2 _ _ hg
                  · exact tk2 _ _ hm
                · refine ⟨ys, hys, s9, ?_⟩
                  have ef : withinF (fj.take (t + 1)) lo' hi' = withinF (fj.take t) lo' hi' := by
                    unfold withinF
                    rw [etk, List.filter_append, List.filter_cons_of_neg (p := fun h : Hunk => decide (lo' ≤ h.start) && decide (h.start + h.gone.length ≤ hi')) e, List.filter_nil, List.append_nil]
                  rw [ef]; exact hdy
            · rintro H9 ⟨ys, hys, s9, hdy⟩
              rw [luj, List.take_length] at hdy
              have s69 := sm8.trans s9
              have hsd9 := s9 _ _ hsd8
              refine ⟨_, rfl, .inl ⟨rfl, _, SqL.of hsd9⟩, _, rfl, _, rfl, _, rfl, _, rfl, _, rfl, sl_lines ((sm.trans s69).seqT hA) fun H10 y s10 hy => ?_⟩
              refine ⟨_, rfl, y, D, cutL bs lo' hi', (withinF fj lo' hi').map (shiftH lo'), ys, rfl, hy, s10 _ _ hys, hunks_keep (TK.same s10) hdy, ?_, fun H11 r s11 hr => ?_⟩
              · rw [rew_shift]
                show (sideF bs fj lo' hi').length ≤ _
                rw [← elj]; omega
              · rw [rew_shift] at hr
                have hr' : SqT K H11 r (lj.map V.str) := by rw [elj]; exact hr
                have s911 := s10.trans s11
                have hsd11 := s911 _ _ hsd9
                have lv2 : vs2.length ≤ 2 := by
                  have := dpAll_len hd8
                  rw [List.length_map, List.length_take] at this
                  omega
                refine ⟨sd, vs2, _, rfl, rfl, hsd11, Nat.lt_of_le_of_lt lv2 (by decide), ?_⟩
                refine ⟨vs2 ++ [.ref r], _, _, rfl, same_mut (s69.trans s911) hsd, ?_, upd_same, ?_⟩
                · rw [upd_ne npd]; exact s911 _ _ (s9 _ _ hpl8)
                · have tk3 := (TK.same (K := K) (s9.trans s911)).trans (TK.lst (o := .lst (vs2 ++ [.ref r])) hsd11)
                  rw [ejj, List.map_append]
                  exact dpAll_app (strs_keep tk3 hd8) (dpAll_one (dp_lines (TK.lst hsd11 _ _ hr')))
          · rintro σ H8 ⟨vs2, x11, x12, rfl, sm8, hpl8, hsd8, hd8⟩
            have hd8' : DpAll K H8 vs2 [linesD l1, linesD l2] := hd8
            cases hd8' with
            | cons q1 qr =>
              cases qr with
              | cons q2 qr2 =>
                cases qr2
                obtain ⟨r1, rfl, h1⟩ := of_lines q1
                obtain ⟨r2, rfl, h2⟩ := of_lines q2
                exact hn _ _ ⟨r1, r2, _, _, rfl, sm8, hsd8, h1, h2⟩
        · rintro σ8 H8 ⟨r1, r2, x11, x12, rfl, sm8, hsd8, hr1, hr2⟩
          have s08 := sm.trans sm8
          have hv8 := sm8 _ _ hv
          refine ⟨_, rfl, _, rfl, _, rfl, _, rfl, _, rfl, sl_lines (s08.seqT hA) fun H9 y s9 hy => ⟨y, _, rfl, hy, ?_⟩⟩
          have hv9 := s9 _ _ hv8
          refine ⟨_, rfl, .inl ⟨rfl, _, SqL.of hv9⟩, _, rfl, _, rfl, _, rfl, _, rfl, _, rfl, sl_lines ((s08.trans s9).seqT hA) fun H10 u s10 hu => ⟨u, _, rfl, hu, by show 2 ≤ sizeLine; decide, fun t1 ht1 => ?_⟩⟩
          have hv10 := s10 _ _ hv9
          have n1 : fo2 ≠ t1 := ne_of_none hv10 ht1
          have h2 : upd H10 t1 (.tup [.str "same", .ref u]) fo2 = some (.lst vs) := by rw [upd_ne n1]; exact hv10
          refine ⟨fo2, vs, _, rfl, rfl, h2, Nat.lt_of_lt_of_le lvs (by decide), ?_⟩
          obtain ⟨H11, e11⟩ : ∃ H11, H11 = upd (upd H10 t1 (.tup [.str "same", .ref u])) fo2 (.lst (vs ++ [.ref t1])) := ⟨_, rfl⟩
          rw [← e11]
          have s610 := sm8.trans (s9.trans s10)
          have sv11 : Sv fo2 H10 H11 := by rw [e11]; exact (Sv.new ht1).trans Sv.at_
          have tk11 : TK K H10 H11 := by rw [e11]; exact (TK.new ht1).trans (TK.lst h2)
          have hfo11 : H11 fo2 = some (.lst (vs ++ [.ref t1])) := by rw [e11, upd_same]
          have hd11 : DpAll K H11 (vs ++ [.ref t1]) ((dn ++ [Part.same (cutL bs here lo')]).map partD) := by
            rw [List.map_append]
            refine dpAll_app (parts_keep ((TK.same s610).trans tk11) hdd) (dpAll_one (dp_same (b := u) ?_ (tk11 _ _ hu)))
            rw [e11]
            exact TK.lst h2 _ _ (.inl (.inl upd_same))
          have s011 : Same H H11 := same_sv (sm.trans s610) sv11 hfo0
          have tk511 : TK K H5 H11 := tk.trans ((TK.same s610).trans tk11)
          have hsp11 : H11 sp = some (.lst ws) := sv11 _ _ nsf (s610 _ _ hss)
          have nsd : sd ≠ fo2 := fun e => by
            rw [e, hv] at hsd
            cases hsd
          have hsd11 : H11 sd = some (.lst [.ref r1, .ref r2]) := sv11 _ _ nsd (s10 _ _ (s9 _ _ hsd8))
          have hr1' := tk11 _ _ ((s9.trans s10).seqT hr1)
          have hr2' := tk11 _ _ ((s9.trans s10).seqT hr2)
          have hy' := tk11 _ _ (s10.seqT hy)
          have ok0 : OkL (cutL bs lo' hi') := cut_ok ob lo' hi'
          have ok1 : OkL l1 := by rw [el1, ef]; exact side_ok ob oo lo' hi'
          have ok2 : OkL l2 := by rw [el2, es]; exact side_ok ob ot lo' hi'
          have lv11 : (vs ++ [V.ref t1]).length < sizeLine := by
            rw [List.length_append]
            exact Nat.lt_of_lt_of_le (show vs.length + 1 < 1002 by omega) (by decide)
          have fin : ∀ (q : Addr) (o : HO), H11 q = none → (∀ H' : Hp, H' = upd (upd H11 q o) fo2 (.lst (vs ++ [.ref t1] ++ [.ref q])) → TK K H11 H' → H' q = some o → Dp K H' (.ref q) (partD (joinP (cutL bs lo' hi') l1 l2))) → ∃ (here' : Nat) (vs' : List V) (dn : List Part) (y6 y7 y10 y11 y12 y13 : Option V), [some (V.ref a), some (.ref b), some (.ref c), some (.ref p1), some (.ref p2), some (.ref sp), some (.int (lo' : Int)), some (.int (hi' : Int)), some (.ref fo2), some (.int (hi' : Int)), some (.ref sd), x11, x12, some (.ref y), none] = [some (.ref a), some (.ref b), some (.ref c), some (.ref p1), some (.ref p2), some (.ref sp), y6, y7, some (.ref fo2), some (.int (here' : Int)), y10, y11, y12, y13, none] ∧ Same H (upd (upd H11 q o) fo2 (.lst (vs ++ [.ref t1] ++ [.ref q]))) ∧ TK K H5 (upd (upd H11 q o) fo2 (.lst (vs ++ [.ref t1] ++ [.ref q]))) ∧ (upd (upd H11 q o) fo2 (.lst (vs ++ [.ref t1] ++ [.ref q]))) sp = some (.lst ws) ∧ (upd (upd H11 q o) fo2 (.lst (vs ++ [.ref t1] ++ [.ref q]))) fo2 = some (.lst vs') ∧ DpAll K (upd (upd H11 q o) fo2 (.lst (vs ++ [.ref t1] ++ [.ref q]))) vs' (dn.map partD) ∧ dn ++ rawF bs f1 f2 here' (sps.drop (i + 1)) = rawF bs f1 f2 0 sps ∧ dn.length = 2 * (i + 1) := fun q o hq hdp => by
            have n : fo2 ≠ q := ne_of_none hfo11 hq
            have h3 : upd H11 q o fo2 = some (.lst (vs ++ [.ref t1])) := by rw [upd_ne n]; exact hfo11
            have tk2 := (TK.new (K := K) (o := o) hq).trans (TK.lst (o := .lst (vs ++ [.ref t1] ++ [.ref q])) h3)
            refine ⟨hi', vs ++ [.ref t1] ++ [.ref q], dn ++ [Part.same (cutL bs here lo')] ++ [joinP (cutL bs lo' hi') l1 l2], _, _, _, _, _, _, rfl, same_sv s011 ((Sv.new hq).trans Sv.at_) hfo0, tk511.trans tk2, ?_, upd_same, ?_, ?_, ?_⟩
            · rw [upd_ne nsf, upd_ne (ne_of_none hsp11 hq)]; exact hsp11
            · rw [List.map_append]
              refine dpAll_app (parts_keep tk2 hd11) (dpAll_one (hdp _ rfl tk2 ?_))
              rw [upd_ne n.symm, upd_same]
            · rw [List.append_assoc, List.append_assoc]; exact hraw
            · rw [List.length_append, List.length_append, hdl]; simp; omega
          dsimp only
          refine tOr_pure (x := decide (l1 = l2)) (y := decide (l2 = cutL bs lo' hi')) (fun Q h => ⟨_, rfl, sd, _, _, _, rfl, rfl, SqL.of hsd11, rfl, _, rfl, sd, _, _, _, rfl, rfl, SqL.of hsd11, rfl, eq_lines hr1' hr2' ok1 ok2 ⟨_, rfl, h⟩⟩) (fun Q h => ⟨_, rfl, sd, _, _, _, rfl, rfl, SqL.of hsd11, rfl, _, rfl, eq_lines hr2' hy' ok2 ok0 ⟨_, rfl, h⟩⟩) ?_
          refine ite2 (fun e => ?_) (fun e => ?_)
          · have e' : l1 = l2 ∨ l2 = cutL bs lo' hi' := by
              rw [Bool.or_eq_true, decide_eq_true_eq, decide_eq_true_eq] at e
              exact e
            have ej : joinP (cutL bs lo' hi') l1 l2 = .same l1 := by unfold joinP; rw [if_pos e']
            refine ⟨_, rfl, .inl ⟨rfl, _, SqL.of hfo11⟩, _, rfl, sd, _, _, _, rfl, rfl, SqL.of hsd11, rfl, by show 2 ≤ sizeLine; decide, fun q hq => ⟨fo2, _, _, rfl, rfl, by rw [upd_ne (ne_of_none hfo11 hq)]; exact hfo11, lv11, _, rfl, ?_⟩⟩
            refine fin q _ hq fun H' _ tk2 hq2 => ?_
            rw [ej]
            exact dp_same (.inl (.inl hq2)) (tk2 _ _ hr1')
          · have e' : ¬ (l1 = l2 ∨ l2 = cutL bs lo' hi') := by
              rw [Bool.or_eq_true, decide_eq_true_eq, decide_eq_true_eq] at e
              exact e
            refine ⟨_, rfl, sd, _, _, _, rfl, rfl, SqL.of hsd11, rfl, _, rfl, eq_lines hr1' hy' ok1 ok0 ⟨_, rfl, ?_⟩⟩
            refine ite2 (fun e2 => ?_) (fun e2 => ?_)
            · have ej : joinP (cutL bs lo' hi') l1 l2 = .same l2 := by unfold joinP; rw [if_neg e', if_pos (of_decide_eq_true e2)]
              refine ⟨_, rfl, .inl ⟨rfl, _, SqL.of hfo11⟩, _, rfl, sd, _, _, _, rfl, rfl, SqL.of hsd11, rfl, by show 2 ≤ sizeLine; decide, fun q hq => ⟨fo2, _, _, rfl, rfl, by rw [upd_ne (ne_of_none hfo11 hq)]; exact hfo11, lv11, _, rfl, ?_⟩⟩
              refine fin q _ hq fun H' _ tk2 hq2 => ?_
              rw [ej]
              exact dp_same (.inl (.inl hq2)) (tk2 _ _ hr2')
            · have ej : joinP (cutL bs lo' hi') l1 l2 = .clash (cutL bs lo' hi') l1 l2 := by unfold joinP; rw [if_neg e', if_neg fun q => e2 (decide_eq_true q)]
              refine ⟨_, rfl, .inl ⟨rfl, _, SqL.of hfo11⟩, _, rfl, _, rfl, sd, _, _, _, rfl, rfl, SqL.of hsd11, rfl, _, rfl, sd, _, _, _, rfl, rfl, SqL.of hsd11, rfl, by show 4 ≤ sizeLine; decide, fun q hq => ⟨fo2, _, _, rfl, rfl, by rw [upd_ne (ne_of_none hfo11 hq)]; exact hfo11, lv11, _, rfl, ?_⟩⟩
              refine fin q _ hq fun H' _ tk2 hq2 => ?_
              rw [ej]
              exact dp_clash (.inl (.inl hq2)) (tk2 _ _ hy') (tk2 _ _ hr1') (tk2 _ _ hr2')
      · rintro σ H6 ⟨here, vs, dn, x6, x7, x10, x11, x12, x13, rfl, sm, tk, hss, hv, hdd, hraw, hdl⟩
        rw [lw, List.drop_length, rawF] at hraw
        have ldn : dn.length ≤ 44 := by omega
        have lvd : vs.length = dn.length := by rw [dpAll_len hdd, List.length_map]
        refine ⟨_, rfl, _, rfl, _, rfl, _, rfl, ?_⟩
        dsimp only [tNoPart]
        refine sl_linesFrom (sm.seqT hA) fun H7 q s7 hq => ⟨q, _, rfl, hq, by show 2 ≤ sizeLine; decide, fun t1 ht1 => ⟨by show 1 ≤ sizeLine; decide, fun l2 hl2 => ?_⟩⟩
        obtain ⟨H8, e8⟩ : ∃ H8, H8 = upd H7 t1 (.tup [.str "same", .ref q]) := ⟨_, rfl⟩
        rw [← e8] at hl2 ⊢
        have s78 : Same H7 H8 := by rw [e8]; exact same_new ht1
        have ht8 : H8 t1 = some (.tup [.str "same", .ref q]) := by rw [e8, upd_same]
        obtain ⟨H9, e9⟩ : ∃ H9, H9 = upd H8 l2 (.lst [.ref t1]) := ⟨_, rfl⟩
        rw [← e9]
        have s89 : Same H8 H9 := by rw [e9]; exact same_new hl2
        have s69 := s7.trans (s78.trans s89)
        refine ⟨fo2, l2, vs, [.ref t1], rfl, rfl, s69 _ _ hv, by rw [e9, upd_same], Nat.le_trans (show vs.length + 1 ≤ 6000 by omega) (by decide), fun L hL => ?_⟩
        have sL := s69.trans (same_new (o := .lst (vs ++ [.ref t1])) hL)
        refine ⟨L, vs ++ [.ref t1], dn ++ [Part.same (bs.drop here)], rfl, upd_same, ?_, ?_, fun p hp => ?_, fun H' v s' hv' => ?_⟩
        · rw [List.map_append]
          refine dpAll_app (parts_keep (TK.same sL) hdd) (dpAll_one (dp_same (b := q) ?_ ?_))
          · exact (s89.trans (same_new hL)).seqT (.inl (.inl ht8))
          · exact (s78.trans (s89.trans (same_new hL))).seqT hq
        · rw [List.length_append]; simp; omega
        · have := rp sps 0 p (by rw [← hraw]; exact hp)
          omega
        · refine k H' v ((sm.trans sL).trans s') ?_
          have e : partsF bs f1 f2 = tidyF (dn ++ [Part.same (bs.drop here)]) := by
            unfold partsF
            rw [← esp, ← hraw]
          rw [← ef, ← es, e]
          exact hv'
end
end VK
end

section
set_option Elab.async false
set_option linter.all false
set_option pp.maxSteps 1500
set_option maxRecDepth 100000
set_option maxHeartbeats 4000000
namespace VK
open PySem L2
open PySem.Spec (ltCps)
open PyProof.Rows (sortedS risingS)
/-! ### texts in order -/
def leS (x y : Str) : Prop := ltCps y.cps.toList x.cps.toList = false
theorem lt_irr : ∀ a : List Nat, ltCps a a = false
  | [] => rfl
  | x :: r => by simp [ltCps, lt_irr r]
theorem lt_anti : ∀ a b : List Nat, ltCps a b = false → ltCps b a = false → a = b
  | [], [], _, _ => rfl
  | [], _ :: _, h, _ => by simp [ltCps] at h
  | _ :: _, [], _, h => by simp [ltCps] at h
  | x :: r, y :: t, h1, h2 => by
    simp [ltCps] at h1 h2
    have e : x = y := by omega
    subst e
    rw [lt_anti r t (h1.2 rfl) (h2.2 rfl)]
theorem lt_asym : ∀ a b : List Nat, ltCps a b = true → ltCps b a = false
  | [], [], h => by simp [ltCps] at h
  | [], _ :: _, _ => by simp [ltCps]
  | _ :: _, [], h => by simp [ltCps] at h
  | x :: r, y :: t, h => by
    simp [ltCps] at h ⊢
    rcases h with h | ⟨rfl, h⟩
    · exact ⟨by omega, fun e => by omega⟩
    · exact ⟨Nat.le_refl _, fun _ => lt_asym r t h⟩
theorem lt_trans3 : ∀ a b c : List Nat, ltCps b a = false → ltCps c b = false → ltCps c a = false
  | [], [], [], _, _ => rfl
  | [], [], _ :: _, _, _ => rfl
  | [], _ :: _, [], _, h => by simp [ltCps] at h
  | [], _ :: _, _ :: _, _, _ => rfl
  | _ :: _, [], _, h, _ => by simp [ltCps] at h
  | _ :: _, _ :: _, [], _, h => by simp [ltCps] at h
  | x :: r, y :: t, z :: u, h1, h2 => by
    simp [ltCps] at h1 h2 ⊢
    refine ⟨by omega, fun e => ?_⟩
    have e1 : y = x := by omega
    have e2 : z = y := by omega
    exact lt_trans3 r t u (h1.2 e1) (h2.2 e2)
theorem leS_anti {x y : Str} (h1 : leS x y) (h2 : leS y x) : x = y := _root_.TL.ext_tl (lt_anti _ _ h2 h1)
theorem leS_trans {x y z : Str} (h1 : leS x y) (h2 : leS y z) : leS x z := lt_trans3 _ _ _ h1 h2
theorem leS_total (x y : Str) : leS x y ∨ leS y x := by
  unfold leS
  cases h : ltCps y.cps.toList x.cps.toList with
  | false => exact .inl rfl
  | true => exact .inr (lt_asym _ _ h)
theorem rising_pw : ∀ (l : List Str) (p : Str), risingS p l = true → (∀ x ∈ l, leS p x) ∧ l.Pairwise leS
  | [], p, _ => ⟨(fun _ h => nomatch h), .nil⟩
  | x :: r, p, h => by
    simp only [risingS, Bool.and_eq_true, Bool.not_eq_true'] at h
    obtain ⟨h1, h2⟩ := rising_pw r x h.2
    refine ⟨fun y hy => ?_, List.pairwise_cons.mpr ⟨h1, h2⟩⟩
    rcases List.mem_cons.mp hy with rfl | hy
    · exact h.1
    · exact leS_trans h.1 (h1 y hy)
theorem sorted_pw {l : List Str} (h : sortedS l = true) : l.Pairwise leS := by
  cases l with
  | nil => exact .nil
  | cons x r =>
    obtain ⟨h1, h2⟩ := rising_pw r x h
    exact List.pairwise_cons.mpr ⟨h1, h2⟩
theorem pw_uniq : ∀ {a b : List Str}, a.Perm b → a.Pairwise leS → b.Pairwise leS → a = b
  | [], b, p, _, _ => (List.nil_perm.mp p).symm ▸ rfl
  | x :: r, [], p, _, _ => absurd p.length_eq (by simp)
  | x :: r, y :: t, p, h1, h2 => by
    obtain ⟨a1, a2⟩ := List.pairwise_cons.mp h1
    obtain ⟨b1, b2⟩ := List.pairwise_cons.mp h2
    have rf : ∀ z : Str, leS z z := fun z => lt_irr _
    have hx : leS y x := by
      rcases List.mem_cons.mp (p.mem_iff.mp (List.mem_cons_self (a := x) (l := r))) with e | e
      · rw [e]; exact rf _
      · exact b1 x e
    have hy : leS x y := by
      rcases List.mem_cons.mp (p.mem_iff.mpr (List.mem_cons_self (a := y) (l := t))) with e | e
      · rw [e]; exact rf _
      · exact a1 y e
    have e : x = y := leS_anti hy hx
    subst e
    rw [pw_uniq p.cons_inv a2 b2]
theorem sorted_uniqS {a b : List Str} (p : a.Perm b) (h1 : sortedS a = true) (h2 : sortedS b = true) : a = b := pw_uniq p (sorted_pw h1) (sorted_pw h2)
/-- two texts in order -/
def sort2 (x y : Str) : List Str := if sortedS [x, y] = true then [x, y] else [y, x]
theorem sort2_sorted (x y : Str) : sortedS (sort2 x y) = true := by
  unfold sort2
  split
  · next h => exact h
  · next h =>
    rcases leS_total x y with q | q
    · exact absurd (by show (!ltCps y.cps.toList x.cps.toList && true) = true; rw [show ltCps y.cps.toList x.cps.toList = false from q]; rfl) h
    · show (!ltCps x.cps.toList y.cps.toList && true) = true
      rw [show ltCps x.cps.toList y.cps.toList = false from q]; rfl
theorem sort2_perm (x y : Str) : (sort2 x y).Perm [x, y] := by
  unfold sort2
  split
  · exact .refl _
  · exact .swap x y []
theorem sort2_of {x y : Str} {l : List Str} (p : l.Perm [x, y]) (h : sortedS l = true) : l = sort2 x y := sorted_uniqS (p.trans (sort2_perm x y).symm) h (sort2_sorted x y)
theorem sort2_comm (x y : Str) : sort2 x y = sort2 y x := sort2_of ((sort2_perm x y).trans (.swap y x [])) (sort2_sorted x y)
/-! ### names -/
def sumN : Nat → List Nat → Nat
  | f, [] => f
  | f, c :: r => sumN ((f * 1000003 + c + 1) % 2305843009213693951) r
theorem sumN_lt : ∀ (l : List Nat) (f : Nat), f < 2305843009213693951 → sumN f l < 2305843009213693951
  | [], f, h => h
  | c :: r, f, _ => sumN_lt r _ (Nat.mod_lt _ (by decide))
theorem sumN_snoc : ∀ (l : List Nat) (f c : Nat), sumN f (l ++ [c]) = (sumN f l * 1000003 + c + 1) % 2305843009213693951
  | [], f, c => rfl
  | d :: r, f, c => sumN_snoc r _ c
def sgnC : List Nat := [48, 49, 50, 51, 52, 53, 54, 55, 56, 57, 97, 98, 99, 100, 101, 102]
theorem sgnC_eq : ("0123456789abcdef" : Str).cps.toList = sgnC := by decide +kernel
/-- the k last figures of n, to the base 16, ahead of acc -/
def hexN : Nat → Nat → List Nat → List Nat
  | 0, _, acc => acc
  | k + 1, n, acc => hexN k (n / 16) (sgnC.getD (n % 16) 0 :: acc)
/-- what is left of n behind k figures -/
def hexR : Nat → Nat → Nat
  | 0, n => n
  | k + 1, n => hexR k (n / 16)
theorem hexR_succ : ∀ (k n : Nat), hexR (k + 1) n = hexR k n / 16
  | 0, n => rfl
  | k + 1, n => by rw [hexR, hexR_succ k (n / 16)]; rfl
theorem hexN_succ : ∀ (k n : Nat) (acc : List Nat), hexN (k + 1) n acc = sgnC.getD (hexR k n % 16) 0 :: hexN k n acc
  | 0, n, acc => rfl
  | k + 1, n, acc => by
    rw [hexN, hexN_succ k (n / 16), ← hexN]
    rfl
theorem hexN_len : ∀ (k n : Nat) (acc : List Nat), (hexN k n acc).length = k + acc.length
  | 0, n, acc => by rw [hexN, Nat.zero_add]
  | k + 1, n, acc => by rw [hexN, hexN_len k, List.length_cons]; omega
theorem getD_sgn (n : Nat) : sgnC.getD (n % 16) 0 ∈ sgnC := by
  have h : n % 16 < sgnC.length := Nat.mod_lt _ (by decide)
  rw [List.getD_eq_getElem?_getD, List.getElem?_eq_getElem h]
  exact List.getElem_mem h
theorem hexN_mem : ∀ (k n : Nat) (acc : List Nat), (∀ c ∈ acc, c ∈ sgnC) → ∀ c ∈ hexN k n acc, c ∈ sgnC
  | 0, n, acc, h => h
  | k + 1, n, acc, h => hexN_mem k (n / 16) _ fun c hc => by
    rcases List.mem_cons.mp hc with rfl | hc
    · exact getD_sgn n
    · exact h c hc
def signsS (n : Nat) : Str := mkS (hexN 16 n [])
def nameS (z : Str) : Str := signsS (sumN 7 z.cps.toList)
def strN (n : Nat) : Str := (toString ((n : Nat) : Int) : String)
theorem name_len (z : Str) : (nameS z).length = 16 := by
  show (hexN 16 _ []).toArray.size = 16
  rw [List.size_toArray, hexN_len]; rfl
theorem name_mem (z : Str) : ∀ c ∈ (nameS z).cps.toList, c ∈ sgnC := by
  have e : (nameS z).cps.toList = hexN 16 (sumN 7 z.cps.toList) [] := rfl
  rw [e]
  exact hexN_mem 16 _ [] fun _ h => nomatch h
/-- a row of the text of a key -/
def rowT (r : Str) : Str := strN r.length ++ ("\n" : Str) ++ r
def keyT (b : Str) (ss : List Str) : Str := Txt.join "" ((b :: ss).map rowT)
def keyF (b o t : List Str) : Str := nameS (keyT (Txt.join "" b) (sort2 (Txt.join "" o) (Txt.join "" t)))
theorem key_swap (b o t : List Str) : keyF b t o = keyF b o t := by
  unfold keyF
  rw [sort2_comm]
theorem log2_small {n : Nat} (h : n ≤ 100000000) : ((n : Nat) : Int).natAbs.log2 < 1920 := by
  rw [Int.natAbs_natCast]
  by_cases e : n = 0
  · subst e; decide
  · refine (Nat.log2_lt e).mpr (Nat.lt_of_le_of_lt h (Nat.lt_of_lt_of_le (by decide : 100000000 < 2 ^ 30) (Nat.pow_le_pow_right (by decide) (by decide))))
end VK
end

section
set_option Elab.async false
set_option linter.all false
set_option pp.maxSteps 1500
set_option maxRecDepth 100000
set_option maxHeartbeats 4000000
namespace VK
open PySem L2
theorem relI {i : Int} {t : Tok} : RelV (.int i) (.int i t) := ⟨_, rfl⟩
theorem relS {z : Str} {t : Tok} : RelV (.str z) (.str z t) := ⟨_, rfl⟩
/-- the numbers and signs of names, where the program writes them -/
structure NC (mg : Str → Option Value) (t1 t2 t3 t4 t5 : Tok) : Prop where
  c_PRIME : mg "PRIME" = some (.int 2305843009213693951 t1)
  c_FACTOR : mg "FACTOR" = some (.int 1000003 t2)
  c_START : mg "START" = some (.int 7 t3)
  c_SIGNS : mg "SIGNS" = some (.str "0123456789abcdef" t4)
  c_LONG : mg "LONG" = some (.int 16 t5)
  z_ord : mg "ord" = none
  z_str : mg "str" = none
abbrev s_sum_of : Stmt := topS 28
theorem sc_sum_of : FnScope ["text", "found", "sign"] ["text"] (defScope s_sum_of) := ⟨rfl, rfl, rfl, by decide +kernel, rfl, by decide +kernel, by decide +kernel⟩
def spSum (K : PySem.W.Frag) : Sp := fun vs H Q _ => ∃ (z : Str), vs = [.str z] ∧ z.length ≤ 10000000 ∧ ∀ H' : Hp, Same H H' → Q (.int ((sumN 7 z.cps.toList : Nat) : Int)) H'
section
variable {P : Program} {w : World} {K : PySem.W.Frag} {mg : Str → Option Value} {base : Heap} {t1 t2 t3 t4 t5 : Tok}
theorem ok_sum {f : Addr} {fd : FuncData} (F : Fun K "sum_of" "sum_of" s_sum_of f fd) (T0 : Txt0 mg) (T : NC mg t1 t2 t3 t4 t5) : FnOk P w K mg base CX0 1 f fd ["text"] (spSum K) := by
  refine F.ok sc_sum_of (fun vs H Q E h => ?_) (fun cdv A outer s H vs Q E hr h => ?_)
  · obtain ⟨z, rfl, _⟩ := h
    rfl
  · obtain ⟨z, rfl, hz, k⟩ := h
    refine ⟨_, (pss_cons (ps_set (i := 1) sc_sum_of.nd rfl (Or.inl rfl) (pe_glob rfl T.c_START relI))
      (pss_cons (ps_for PassesOwn.never rfl (pi_str (pv 0)) (pg_name (i := 2) sc_sum_of.nd rfl (Or.inl rfl))
        (pss_one (ps_set (i := 1) sc_sum_of.nd rfl (Or.inl rfl) (pe_op op_modN (pe_op op_add (pe_op op_add (pe_op op_mul (pv 1) (pe_glob rfl T.c_FACTOR relI)) (pe_callB call_ord (by rfl) T.z_ord (by decide +kernel) (pa_cons (pv 2) pa_nil))) pe_int) (pe_glob rfl T.c_PRIME relI)))))
      (pss_one (ps_ret (pv 1))))), ?_⟩
    refine ⟨_, rfl, z, rfl, ?_⟩
    refine for_it walk_str (fun i σ H' => ∃ x2, σ = [some (.str z), some (.int ((sumN 7 (z.cps.toList.take i) : Nat) : Int)), x2] ∧ H' = H) ⟨_, rfl, rfl⟩ (fun _ _ _ _ _ => trivial) ?_ ?_
    · rintro i x σ H1 H2 hi ⟨x2, rfl, rfl⟩ ⟨rfl, c, hc, rfl⟩
      have hlt := sumN_lt (z.cps.toList.take i) 7 (by decide)
      have etk : z.cps.toList.take (i + 1) = z.cps.toList.take i ++ [c] := by
        rw [List.take_succ]
        have : z.cps.toList[i]? = some c := by rw [Array.getElem?_toList]; exact hc
        rw [this]; rfl
      refine ⟨_, rfl, _, _, rfl, rfl, .inl ⟨by omega, by omega⟩, _, rfl, _, rfl, rfl, _, _, rfl, rfl, _, _, rfl, rfl, _, _, rfl, rfl, by show (2305843009213693951 : Int) ≠ 0; decide, ?_⟩
      refine ⟨some (.str ⟨#[c]⟩), ?_, rfl⟩
      rw [etk, sumN_snoc]
      have e : (((sumN 7 (z.cps.toList.take i) : Nat) : Int) * 1000003 + ((c : Nat) : Int) + 1).fmod 2305843009213693951 = (((sumN 7 (z.cps.toList.take i) * 1000003 + c + 1) % 2305843009213693951 : Nat) : Int) := by
        rw [Int.fmod_eq_emod_of_nonneg _ (by decide)]
        omega
      rw [← e]
      rfl
    · rintro σ H1 ⟨x2, rfl, rfl⟩
      refine ⟨_, rfl, ?_⟩
      have e : z.cps.toList.take z.cps.size = z.cps.toList := List.take_of_length_le (by rw [Array.length_toList]; exact Nat.le_refl _)
      rw [e]
      exact k _ (Same.refl _)
end
abbrev s_signs_of : Stmt := topS 30
theorem sc_signs_of : FnScope ["number", "found", "_"] ["number"] (defScope s_signs_of) := ⟨rfl, rfl, rfl, by decide +kernel, rfl, by decide +kernel, by decide +kernel⟩
def spSigns (K : PySem.W.Frag) : Sp := fun vs H Q _ => ∃ (n : Nat), vs = [.int (n : Int)] ∧ ∀ H' : Hp, Same H H' → Q (.str (signsS n)) H'
section
variable {P : Program} {w : World} {K : PySem.W.Frag} {mg : Str → Option Value} {base : Heap} {t1 t2 t3 t4 t5 : Tok}
theorem ok_signs {f : Addr} {fd : FuncData} (F : Fun K "signs_of" "signs_of" s_signs_of f fd) (T0 : Txt0 mg) (T : NC mg t1 t2 t3 t4 t5) : FnOk P w K mg base CX0 1 f fd ["number"] (spSigns K) := by
  refine F.ok sc_signs_of (fun vs H Q E h => ?_) (fun cdv A outer s H vs Q E hr h => ?_)
  · obtain ⟨z, rfl, _⟩ := h
    rfl
  · obtain ⟨n, rfl, k⟩ := h
    refine ⟨_, (pss_cons (ps_set (i := 1) sc_signs_of.nd rfl (Or.inl rfl) pe_str)
      (pss_cons (ps_for PassesOwn.never rfl (pi_range1 (by rfl) T0.z_range (pa_cons (pe_glob rfl T.c_LONG relI) pa_nil)) (pg_name (i := 2) sc_signs_of.nd rfl (Or.inl rfl))
        (pss_cons (ps_set (i := 1) sc_signs_of.nd rfl (Or.inl rfl) (pe_op op_add_str (pe_ix ix_str (pe_glob rfl T.c_SIGNS relS) (pe_op op_modN (pv 0) pe_int) (fun _ _ => rfl)) (pv 1)))
        (pss_one (ps_aug (i := 0) sc_signs_of.nd rfl (Or.inl rfl) pe_int iop_fdiv))))
      (pss_one (ps_ret (pv 1))))), ?_⟩
    refine ⟨_, rfl, by decide, by decide, ?_⟩
    refine for_range (lo := 0) (n := 16) (fun i σ H' => ∃ x2, σ = [some (.int ((hexR i n : Nat) : Int)), some (.str (mkS (hexN i n []))), x2] ∧ H' = H) ⟨_, rfl, rfl⟩ ?_ ?_
    · rintro i σ H1 hi ⟨x2, rfl, rfl⟩
      have hq : hexR i n % 16 < sgnC.length := Nat.mod_lt _ (by decide)
      have hat : sgnC[hexR i n % 16]? = some (sgnC.getD (hexR i n % 16) 0) := by rw [List.getD_eq_getElem?_getD, List.getElem?_eq_getElem hq]; rfl
      have e1 : (((hexR i n : Nat) : Int)).fmod 16 = ((hexR i n % 16 : Nat) : Int) := by
        rw [Int.fmod_eq_emod_of_nonneg _ (by decide)]
        omega
      refine ⟨_, rfl, _, _, rfl, rfl, by show (16 : Int) ≠ 0; decide, ?_⟩
      refine ⟨_, _, sgnC.getD (hexR i n % 16) 0, rfl, rfl, by decide +kernel, by show atI ("0123456789abcdef" : Str).cps.toList ((((hexR i n : Nat) : Int)).fmod 16) = _; rw [e1, sgnC_eq]; exact atI_nat hat, _, rfl, _, _, rfl, rfl, ?_, ?_⟩
      · show 1 + (hexN i n []).toArray.size ≤ sizeLine
        rw [List.size_toArray, hexN_len]
        exact Nat.le_trans (show 1 + (i + 0) ≤ 100 by omega) (by decide)
      refine ⟨_, rfl, _, _, rfl, rfl, ⟨by decide, by decide⟩, ?_⟩
      refine ⟨some (.int (0 + (i : Int))), ?_, rfl⟩
      have e2 : ((hexR i n : Nat) : Int) / 16 = ((hexR (i + 1) n : Nat) : Int) := by
        rw [hexR_succ]
        omega
      have e3 : (⟨#[sgnC.getD (hexR i n % 16) 0]⟩ : Str) ++ mkS (hexN i n []) = mkS (hexN (i + 1) n []) := by
        rw [hexN_succ]
        refine _root_.TL.ext_tl ?_
        show (#[sgnC.getD (hexR i n % 16) 0] ++ (hexN i n []).toArray).toList = _
        simp [_root_.TL.tl, mkS]
      rw [← e3, ← e2]
      rfl
    · rintro σ H1 ⟨x2, rfl, rfl⟩
      refine ⟨_, rfl, ?_⟩
      exact k _ (Same.refl _)
end
end VK
end

section
set_option Elab.async false
set_option linter.all false
set_option pp.maxSteps 1500
set_option maxRecDepth 100000
set_option maxHeartbeats 4000000
namespace VK
open PySem L2
abbrev s_name_of : Stmt := topS 29
theorem sc_name_of : FnScope ["text"] ["text"] (defScope s_name_of) := ⟨rfl, rfl, rfl, by decide +kernel, rfl, by decide +kernel, by decide +kernel⟩
def spName (K : PySem.W.Frag) : Sp := fun vs H Q _ => ∃ (z : Str), vs = [.str z] ∧ z.length ≤ 10000000 ∧ ∀ H' : Hp, Same H H' → Q (.str (nameS z)) H'
section
variable {P : Program} {w : World} {K : PySem.W.Frag} {mg : Str → Option Value} {base : Heap} {t1 t2 t3 t4 t5 : Tok}
theorem ok_name {f fS fG : Addr} {fd fdS fdG : FuncData} (F : Fun K "name_of" "name_of" s_name_of f fd) (T0 : Txt0 mg) (T : NC mg t1 t2 t3 t4 t5)
    (D_sum_of : Df K mg "sum_of" s_sum_of ["text"] fS fdS) (D_signs_of : Df K mg "signs_of" s_signs_of ["number"] fG fdG) : FnOk P w K mg base CX0 2 f fd ["text"] (spName K) := by
  have G_sum_of : FnOk P w K mg base CX0 1 fS fdS ["text"] (spSum K) := ok_sum D_sum_of.F T0 T
  have G_signs_of : FnOk P w K mg base CX0 1 fG fdG ["number"] (spSigns K) := ok_signs D_signs_of.F T0 T
  refine F.ok sc_name_of (fun vs H Q E h => ?_) (fun cdv A outer s H vs Q E hr h => ?_)
  · obtain ⟨z, rfl, _⟩ := h
    rfl
  · obtain ⟨z, rfl, hz, k⟩ := h
    refine ⟨_, (pss_one (ps_ret (pe_call G_signs_of (hr.mono (by decide)) rfl D_signs_of.m D_signs_of.F.kp D_signs_of.b .nil pass0 (pa_cons (pe_call G_sum_of (hr.mono (by decide)) rfl D_sum_of.m D_sum_of.F.kp D_sum_of.b .nil pass0 (pa_cons (pv 0) pa_nil)) pa_nil)))), ?_⟩
    refine ⟨_, rfl, z, rfl, hz, fun H1 s1 => ?_⟩
    exact ⟨_, rfl, fun H2 s2 => k H2 (s1.trans s2)⟩
end
abbrev s__law_name : Stmt := topS 38
theorem sc__law_name : FnScope ["text", "found", "sign", "name", "k"] ["text"] (defScope s__law_name) := ⟨rfl, rfl, rfl, by decide +kernel, rfl, by decide +kernel, by decide +kernel⟩
section
variable {P : Program} {w : World} {K : PySem.W.Frag} {mg : Str → Option Value} {base : Heap} {t1 t2 t3 t4 t5 : Tok}
theorem ok_lname {f : Addr} {fd : FuncData} (F : Fun K "_law_name" "_law_name" s__law_name f fd) (T0 : Txt0 mg) (T : NC mg t1 t2 t3 t4 t5) : FnOk P w K mg base CX0 1 f fd ["text"] (spName K) := by
  refine F.ok sc__law_name (fun vs H Q E h => ?_) (fun cdv A outer s H vs Q E hr h => ?_)
  · obtain ⟨z, rfl, _⟩ := h
    rfl
  · obtain ⟨z, rfl, hz, k⟩ := h
    refine ⟨_, (pss_cons (ps_set (i := 1) sc__law_name.nd rfl (Or.inl rfl) pe_int)
      (pss_cons (ps_for PassesOwn.never rfl (pi_str (pv 0)) (pg_name (i := 2) sc__law_name.nd rfl (Or.inl rfl))
        (pss_one (ps_set (i := 1) sc__law_name.nd rfl (Or.inl rfl) (pe_op op_modN (pe_callTy call_int1 (by rfl) T0.z_int (by decide +kernel) (pa_cons (pe_op op_add (pe_op op_add (pe_op op_mul (pv 1) pe_int) (pe_callB call_ord (by rfl) T.z_ord (by decide +kernel) (pa_cons (pv 2) pa_nil))) pe_int) pa_nil)) pe_int))))
      (pss_cons (ps_set (i := 3) sc__law_name.nd rfl (Or.inl rfl) pe_str)
      (pss_cons (ps_for PassesOwn.never rfl (pi_range1 (by rfl) T0.z_range (pa_cons pe_int pa_nil)) (pg_name (i := 4) sc__law_name.nd rfl (Or.inl rfl))
        (pss_cons (ps_set (i := 3) sc__law_name.nd rfl (Or.inl rfl) (pe_op op_add_str (pe_ix ix_str pe_str (pe_op op_modN (pe_callTy call_int1 (by rfl) T0.z_int (by decide +kernel) (pa_cons (pv 1) pa_nil)) pe_int) (fun _ _ => rfl)) (pv 3)))
        (pss_one (ps_set (i := 1) sc__law_name.nd rfl (Or.inl rfl) (pe_op op_fdivN (pv 1) pe_int)))))
      (pss_one (ps_ret (pv 3))))))), ?_⟩
    refine ⟨_, rfl, z, rfl, ?_⟩
    refine for_it walk_str (fun i σ H' => ∃ x2, σ = [some (.str z), some (.int ((sumN 7 (z.cps.toList.take i) : Nat) : Int)), x2, none, none] ∧ H' = H) ⟨_, rfl, rfl⟩ (fun _ _ _ _ _ => trivial) ?_ ?_
    · rintro i x σ H1 H2 hi ⟨x2, rfl, rfl⟩ ⟨rfl, c, hc, rfl⟩
      have hlt := sumN_lt (z.cps.toList.take i) 7 (by decide)
      have etk : z.cps.toList.take (i + 1) = z.cps.toList.take i ++ [c] := by
        rw [List.take_succ]
        have : z.cps.toList[i]? = some c := by rw [Array.getElem?_toList]; exact hc
        rw [this]; rfl
      refine ⟨_, rfl, _, _, rfl, rfl, .inl ⟨by omega, by omega⟩, _, rfl, _, rfl, rfl, _, _, rfl, rfl, _, _, rfl, rfl, .inl ⟨_, rfl, ?_⟩⟩
      refine ⟨_, _, rfl, rfl, by show (2305843009213693951 : Int) ≠ 0; decide, ?_⟩
      refine ⟨some (.str ⟨#[c]⟩), ?_, rfl⟩
      rw [etk, sumN_snoc]
      have e : (((sumN 7 (z.cps.toList.take i) : Nat) : Int) * 1000003 + ((c : Nat) : Int) + 1).fmod 2305843009213693951 = (((sumN 7 (z.cps.toList.take i) * 1000003 + c + 1) % 2305843009213693951 : Nat) : Int) := by
        rw [Int.fmod_eq_emod_of_nonneg _ (by decide)]
        omega
      rw [← e]
      rfl
    · rintro σ H1 ⟨x2, rfl, rfl⟩
      have e : z.cps.toList.take z.cps.size = z.cps.toList := List.take_of_length_le (by rw [Array.length_toList]; exact Nat.le_refl _)
      rw [e]
      obtain ⟨n, en⟩ : ∃ n, n = sumN 7 z.cps.toList := ⟨_, rfl⟩
      rw [← en]
      have hk : Q (.str (signsS n)) H1 := by rw [en]; exact k _ (Same.refl _)
      refine ⟨_, rfl, by decide, by decide, ?_⟩
      refine for_range (lo := 0) (n := 16) (fun i σ H' => ∃ x4, σ = [some (.str z), some (.int ((hexR i n : Nat) : Int)), x2, some (.str (mkS (hexN i n []))), x4] ∧ H' = H1) ⟨_, rfl, rfl⟩ ?_ ?_
      · rintro i σ H2 hi ⟨x4, rfl, rfl⟩
        have hq : hexR i n % 16 < sgnC.length := Nat.mod_lt _ (by decide)
        have hat : sgnC[hexR i n % 16]? = some (sgnC.getD (hexR i n % 16) 0) := by rw [List.getD_eq_getElem?_getD, List.getElem?_eq_getElem hq]; rfl
        have e1 : (((hexR i n : Nat) : Int)).fmod 16 = ((hexR i n % 16 : Nat) : Int) := by
          rw [Int.fmod_eq_emod_of_nonneg _ (by decide)]
          omega
        refine ⟨_, rfl, .inl ⟨_, rfl, ?_⟩⟩
        refine ⟨_, _, rfl, rfl, by show (16 : Int) ≠ 0; decide, ?_⟩
        refine ⟨_, _, sgnC.getD (hexR i n % 16) 0, rfl, rfl, by decide +kernel, by show atI ("0123456789abcdef" : Str).cps.toList ((((hexR i n : Nat) : Int)).fmod 16) = _; rw [e1, sgnC_eq]; exact atI_nat hat, _, rfl, _, _, rfl, rfl, ?_, ?_⟩
        · show 1 + (hexN i n []).toArray.size ≤ sizeLine
          rw [List.size_toArray, hexN_len]
          exact Nat.le_trans (show 1 + (i + 0) ≤ 100 by omega) (by decide)
        refine ⟨_, rfl, _, _, rfl, rfl, ⟨by decide, by decide⟩, ?_⟩
        refine ⟨some (.int (0 + (i : Int))), ?_, rfl⟩
        have e2 : (((hexR i n : Nat) : Int)).fdiv 16 = ((hexR (i + 1) n : Nat) : Int) := by
          rw [hexR_succ, Int.fdiv_eq_ediv_of_nonneg _ (by decide)]
          omega
        have e3 : (⟨#[sgnC.getD (hexR i n % 16) 0]⟩ : Str) ++ mkS (hexN i n []) = mkS (hexN (i + 1) n []) := by
          rw [hexN_succ]
          refine _root_.TL.ext_tl ?_
          show (#[sgnC.getD (hexR i n % 16) 0] ++ (hexN i n []).toArray).toList = _
          simp [_root_.TL.tl, mkS]
        rw [← e3, ← e2]
        rfl
      · rintro σ H2 ⟨x4, rfl, rfl⟩
        exact ⟨_, rfl, hk⟩
end
theorem strN_len {n : Nat} (h : n ≤ 1000000) : (strN n).length ≤ 10 := PyProof.Rows.toString_length_le (v := ((n : Nat) : Int)) (k := 10) (by omega) (by decide) (by omega)
theorem app_len2 (a b : Str) : (a ++ b).length = a.length + b.length := by
  show (a.cps ++ b.cps).size = _
  rw [Array.size_append]; rfl
theorem rowT_len {r : Str} (h : r.length ≤ 200000) : (rowT r).length ≤ r.length + 11 := by
  have q := strN_len (n := r.length) (by omega)
  unfold rowT
  rw [app_len2, app_len2]
  have e : ("\n" : Str).length = 1 := by decide +kernel
  omega
section
open _root_.TL
theorem joinE_tl : ∀ ls : List Str, tl (Txt.join "" ls) = (ls.map tl).flatten
  | [] => rfl
  | [x] => by rw [join_eq, tl_join]; show tl x = _; simp
  | x :: z :: r => by
    have ih := joinE_tl (z :: r)
    rw [join_eq, tl_join] at ih ⊢
    show tl x ++ (tl "" ++ joinL (tl "") ((z :: r).map tl)) = _
    rw [ih]; rfl
theorem flat_len : ∀ ls : List Str, (ls.map tl).flatten.length = (ls.map (·.length)).sum
  | [] => rfl
  | x :: r => by
    rw [List.map_cons, List.flatten_cons, List.length_append, flat_len r, List.map_cons, List.sum_cons]
    rfl
theorem joinE_len (ls : List Str) : (Txt.join "" ls).length = (ls.map (·.length)).sum := by
  rw [← flat_len, ← joinE_tl]
  rfl
end
abbrev s_clash_key : Stmt := topS 32
theorem sc_clash_key : FnScope ["clash", "_", "base", "one", "two", "sides", "rows", "row"] ["clash"] (defScope s_clash_key) := ⟨rfl, rfl, rfl, by decide +kernel, rfl, by decide +kernel, by decide +kernel⟩
def spKey (K : PySem.W.Frag) : Sp := fun vs H Q _ => ∃ (a : Addr) (b o t : List Str), vs = [.ref a] ∧ Dp K H (.ref a) (partD (.clash b o t)) ∧ (b.map (·.length)).sum ≤ 100000 ∧ (o.map (·.length)).sum ≤ 100000 ∧ (t.map (·.length)).sum ≤ 100000 ∧
  ∀ H' : Hp, Same H H' → Q (.str (keyF b o t)) H'
section
variable {P : Program} {w : World} {K : PySem.W.Frag} {mg : Str → Option Value} {base : Heap} {t1 t2 t3 t4 t5 : Tok}
theorem ok_key {f fX fN fS fG : Addr} {fd fdX fdN fdS fdG : FuncData} (F : Fun K "clash_key" "clash_key" s_clash_key f fd) (T0 : Txt0 mg) (T : NC mg t1 t2 t3 t4 t5) (z_sorted : mg "sorted" = none)
    (D_text_from : Df K mg "text_from" s_text_from ["lines"] fX fdX) (D_name_of : Df K mg "name_of" s_name_of ["text"] fN fdN) (D_sum_of : Df K mg "sum_of" s_sum_of ["text"] fS fdS) (D_signs_of : Df K mg "signs_of" s_signs_of ["number"] fG fdG) : FnOk P w K mg base CX0 3 f fd ["clash"] (spKey K) := by
  have G_text_from : FnOk P w K mg base CX0 1 fX fdX ["lines"] (spText K) := ok_text D_text_from.F
  have G_name_of : FnOk P w K mg base CX0 2 fN fdN ["text"] (spName K) := ok_name D_name_of.F T0 T D_sum_of D_signs_of
  refine F.ok sc_clash_key (fun vs H Q E h => ?_) (fun cdv A outer s H vs Q E hr h => ?_)
  · obtain ⟨a, b, o, t, rfl, _⟩ := h
    rfl
  · obtain ⟨a, b, o, t, rfl, hA, lb, lo, lt, k⟩ := h
    refine ⟨_, (pss_cons (ps_asg (pv 0) (pg_tup rfl (pgs_cons (pg_name (i := 1) sc_clash_key.nd rfl (Or.inl rfl)) (pgs_cons (pg_name (i := 2) sc_clash_key.nd rfl (Or.inl rfl)) (pgs_cons (pg_name (i := 3) sc_clash_key.nd rfl (Or.inl rfl)) (pgs_cons (pg_name (i := 4) sc_clash_key.nd rfl (Or.inl rfl)) pgs_nil))))))
      (pss_cons (ps_set (i := 5) sc_clash_key.nd rfl (Or.inl rfl) (pe_callB cr_sortedS (by rfl) z_sorted (by decide +kernel) (pa_cons (pe_lst (pa_cons (pe_call G_text_from (hr.mono (by decide)) rfl D_text_from.m D_text_from.F.kp D_text_from.b .nil pass0 (pa_cons (pv 3) pa_nil)) (pa_cons (pe_call G_text_from (hr.mono (by decide)) rfl D_text_from.m D_text_from.F.kp D_text_from.b .nil pass0 (pa_cons (pv 4) pa_nil)) pa_nil))) pa_nil)))
      (pss_cons (ps_set (i := 6) sc_clash_key.nd rfl (Or.inl rfl) (pe_op op_cat (pe_lst (pa_cons (pe_call G_text_from (hr.mono (by decide)) rfl D_text_from.m D_text_from.F.kp D_text_from.b .nil pass0 (pa_cons (pv 2) pa_nil)) pa_nil)) (pv 5)))
      (pss_one (ps_ret (pe_call G_name_of (hr.mono (by decide)) rfl D_name_of.m D_name_of.F.kp D_name_of.b .nil pass0 (pa_cons (pe_join pe_str (pe_lc (own := [("row", 7)]) (g := gName 7) (tt := tYes) rfl sc_clash_key.nd (pi_list (pv 6)) (blkOk_by (own := [("row", 7)]) (N := ["clash", "_", "base", "one", "two", "sides", "rows", "row"]) (sc := defScope s_clash_key) (by decide +kernel)) (fun _ _ _ _ _ => (pg_name (i := 7) sc_clash_key.nd rfl (Or.inl rfl))) (fun _ _ _ _ _ => pts_nil) (fun _ _ _ _ _ => (pe_op op_add_str (pe_op op_add_str (pe_callTy call_str_int (by rfl) T.z_str (by decide +kernel) (pa_cons (pe_callB call_len_str (by rfl) T0.z_len PySem.boot_len (pa_cons (pv 7) pa_nil)) pa_nil)) pe_str) (pv 7))))) pa_nil))))))), ?_⟩
    obtain ⟨a', x, y, z, ea, ha, hb, ho, ht⟩ := of_clash hA
    cases ea
    have sumE : ∀ {ls : List Str} {n : Nat}, (ls.map (·.length)).sum ≤ n → (Txt.join ("" : Str) ls).length ≤ n := fun {ls n} h => by rw [joinE_len]; exact h
    refine ⟨_, rfl, a, _, rfl, ha, rfl, _, _, rfl, _, _, rfl, _, _, rfl, _, _, rfl, rfl, ?_⟩
    refine ⟨_, rfl, y, o, rfl, ho, by omega, ?_⟩
    refine ⟨_, rfl, z, t, rfl, ht, by omega, ?_⟩
    refine ⟨by show 2 ≤ sizeLine; decide, fun l1 hl1 => ?_⟩
    have s1 := same_new (o := .lst [.str (Txt.join "" o), .str (Txt.join "" t)]) hl1
    refine ⟨l1, [Txt.join "" o, Txt.join "" t], rfl, SqL.of upd_same, (by show 2 < 64; decide), fun ys p hperm hsort hp => ?_⟩
    have eys := sort2_of hperm hsort
    subst eys
    obtain ⟨ss, ess⟩ : ∃ ss, ss = sort2 (Txt.join "" o) (Txt.join "" t) := ⟨_, rfl⟩
    have pss : ss.Perm [Txt.join "" o, Txt.join "" t] := by rw [ess]; exact sort2_perm _ _
    have lss : ss.length = 2 := pss.length_eq
    have bss : ∀ x ∈ ss, x.length ≤ 100000 := fun x hx => by
      have q := pss.mem_iff.mp hx
      rcases List.mem_cons.mp q with rfl | q
      · exact sumE lo
      · rcases List.mem_cons.mp q with rfl | q
        · exact sumE lt
        · cases q
    rw [← ess]
    obtain ⟨H2, e2⟩ : ∃ H2, H2 = upd (upd H l1 (.lst [.str (Txt.join "" o), .str (Txt.join "" t)])) p (.lst (ss.map V.str)) := ⟨_, rfl⟩
    have hp2 : H2 p = some (.lst (ss.map V.str)) := by rw [e2, upd_same]
    have s2 : Same H H2 := by rw [e2]; exact s1.trans (same_new hp)
    rw [← e2]
    refine ⟨_, rfl, x, b, rfl, s2.seqT hb, by omega, ?_⟩
    refine ⟨by show 1 ≤ sizeLine; decide, fun l2 hl2 => ?_⟩
    have s3 := same_new (o := .lst [.str (Txt.join "" b)]) hl2
    refine ⟨_, rfl, l2, p, _, _, rfl, rfl, upd_same, s3 _ _ hp2, (by rw [List.length_map, lss]; exact (by decide : 1 + 2 ≤ sizeLine)), fun l3 hl3 => ?_⟩
    obtain ⟨rs, ers⟩ : ∃ rs, rs = Txt.join "" b :: ss := ⟨_, rfl⟩
    have eap : ([.str (Txt.join "" b)] : List V) ++ ss.map V.str = rs.map V.str := by rw [ers]; rfl
    rw [eap]
    obtain ⟨H3, e3⟩ : ∃ H3, H3 = upd (upd H2 l2 (.lst [.str (Txt.join "" b)])) l3 (.lst (rs.map V.str)) := ⟨_, rfl⟩
    have hr3 : H3 l3 = some (.lst (rs.map V.str)) := by rw [e3, upd_same]
    have s4 : Same H H3 := by rw [e3]; exact s2.trans (s3.trans (same_new hl3))
    rw [← e3]
    have brs : ∀ x ∈ rs, x.length ≤ 100000 := fun x hx => by
      rw [ers] at hx
      rcases List.mem_cons.mp hx with rfl | hx
      · exact sumE lb
      · exact bss x hx
    have lrs : rs.length = 3 := by rw [ers, List.length_cons, lss]
    refine ⟨⟨_, rfl⟩, _, rfl, l3, rfl, ⟨_, SqL.of hr3⟩, fun D hD => ?_⟩
    refine lc_list (xs := rs.map V.str) (fun i H' => Same H3 H' ∧ H' D = some (.lst (((rs.take i).map rowT).map V.str))) ⟨same_new hD, upd_same⟩ (fun i H' _ h => SqL.of (h.1 _ _ hr3)) ?_ ?_
    · rintro i v H4 hv ⟨s5, hl⟩
      rw [List.getElem?_map] at hv
      obtain ⟨r, hr', rfl⟩ := Option.map_eq_some_iff.mp hv
      have hi : i < rs.length := (List.getElem?_eq_some_iff.mp hr').1
      have br := brs r (List.mem_of_getElem? hr')
      have sl16 : (100000 : Nat) + 100 ≤ sizeLine := by decide
      have q11 := strN_len (n := r.length) (by omega)
      have e1 : ("\n" : Str).length = 1 := by decide +kernel
      refine ⟨rfl, _, rfl, _, rfl, by omega, _, rfl, log2_small (by omega), _, _, rfl, rfl, ?_, _, rfl, _, _, rfl, rfl, ?_, _, hl, ?_, same_mut s5 hD, ?_⟩
      · show (strN r.length).length + ("\n" : Str).length ≤ sizeLine
        omega
      · show (strN r.length ++ ("\n" : Str)).length + r.length ≤ sizeLine
        rw [app_len2]
        omega
      · rw [List.length_map, List.length_map, List.length_take]
        exact Nat.lt_of_le_of_lt (show _ ≤ 100 by omega) (by decide)
      · rw [upd_same, List.take_succ, hr', Option.toList_some, List.map_append, List.map_append]
        rfl
    · rintro H4 ⟨s5, hl⟩
      rw [List.length_map, List.take_length] at hl
      have ebd : ((rs.map rowT).map (·.length)).sum ≤ 400000 := by
        rw [ers]
        obtain ⟨u, v, euv⟩ : ∃ u v, ss = [u, v] := by
          match ss, lss with
          | [u, v], _ => exact ⟨u, v, rfl⟩
        subst euv
        have b1 := rowT_len (r := Txt.join "" b) (by have := sumE lb; omega)
        have b2 := rowT_len (r := u) (by have := bss u (List.mem_cons_self ..); omega)
        have b3 := rowT_len (r := v) (by have := bss v (List.mem_cons_of_mem _ (List.mem_cons_self ..)); omega)
        have c1 := sumE lb
        have c2 := bss u (List.mem_cons_self ..)
        have c3 := bss v (List.mem_cons_of_mem _ (List.mem_cons_self ..))
        simp only [List.map_cons, List.map_nil, List.sum_cons, List.sum_nil]
        omega
      refine ⟨"", D, rs.map rowT, rfl, rfl, .inl (SqL.of hl), by show ((rs.map rowT).map (·.length)).sum + (rs.map rowT).length * 0 ≤ _; omega, ?_⟩
      have ekey : Txt.join "" (rs.map rowT) = keyT (Txt.join "" b) ss := by rw [ers]; rfl
      rw [ekey]
      refine ⟨_, rfl, ?_, fun H5 s6 => ?_⟩
      · rw [← ekey, joinE_len]
        omega
      · have q := k H5 (s4.trans (s5.trans s6))
        unfold keyF at q
        rw [← ess] at q
        exact q
end
end VK
end

section
set_option Elab.async false
set_option linter.all false
set_option pp.maxSteps 1500
set_option maxRecDepth 100000
set_option maxHeartbeats 4000000
namespace VK
open PySem L2
abbrev s__law_key : Stmt := topS 49
theorem sc__law_key : FnScope ["clash", "sides", "row"] ["clash"] (defScope s__law_key) := ⟨rfl, rfl, rfl, by decide +kernel, rfl, by decide +kernel, by decide +kernel⟩
section
variable {P : Program} {w : World} {K : PySem.W.Frag} {mg : Str → Option Value} {base : Heap} {t1 t2 t3 t4 t5 : Tok}
theorem ok_lkey {f fN : Addr} {fd fdN : FuncData} (F : Fun K "_law_key" "_law_key" s__law_key f fd) (T0 : Txt0 mg) (T : NC mg t1 t2 t3 t4 t5) (z_sorted : mg "sorted" = none)
    (D__law_name : Df K mg "_law_name" s__law_name ["text"] fN fdN) : FnOk P w K mg base CX0 2 f fd ["clash"] (spKey K) := by
  have G__law_name : FnOk P w K mg base CX0 1 fN fdN ["text"] (spName K) := ok_lname D__law_name.F T0 T
  refine F.ok sc__law_key (fun vs H Q E h => ?_) (fun cdv A outer s H vs Q E hr h => ?_)
  · obtain ⟨a, b, o, t, rfl, _⟩ := h
    rfl
  · obtain ⟨a, b, o, t, rfl, hA, lb, lo, lt, k⟩ := h
    refine ⟨_, (pss_cons (ps_set (i := 1) sc__law_key.nd rfl (Or.inl rfl) (pe_callB cr_sortedS (by rfl) z_sorted (by decide +kernel) (pa_cons (pe_lst (pa_cons (pe_join pe_str (pe_ix ix_tup (pv 0) pe_int (fun _ _ => rfl))) (pa_cons (pe_join pe_str (pe_ix ix_tup (pv 0) pe_int (fun _ _ => rfl))) pa_nil))) pa_nil)))
      (pss_one (ps_ret (pe_call G__law_name (hr.mono (by decide)) rfl D__law_name.m D__law_name.F.kp D__law_name.b .nil pass0 (pa_cons (pe_join pe_str (pe_lc (own := [("row", 2)]) (g := gName 2) (tt := tYes) rfl sc__law_key.nd (pi_list (pe_op op_cat (pe_lst (pa_cons (pe_join pe_str (pe_ix ix_tup (pv 0) pe_int (fun _ _ => rfl))) pa_nil)) (pv 1))) (blkOk_by (own := [("row", 2)]) (N := ["clash", "sides", "row"]) (sc := defScope s__law_key) (by decide +kernel)) (fun _ _ _ _ _ => (pg_name (i := 2) sc__law_key.nd rfl (Or.inl rfl))) (fun _ _ _ _ _ => pts_nil) (fun _ _ _ _ _ => (pe_op op_add_str (pe_op op_add_str (pe_callTy call_str_int (by rfl) T.z_str (by decide +kernel) (pa_cons (pe_callB call_len_str (by rfl) T0.z_len PySem.boot_len (pa_cons (pv 2) pa_nil)) pa_nil)) pe_str) (pv 2))))) pa_nil))))), ?_⟩
    obtain ⟨a', x, y, z, ea, ha, hb, ho, ht⟩ := of_clash hA
    cases ea
    have sumE : ∀ {ls : List Str} {n : Nat}, (ls.map (·.length)).sum ≤ n → (Txt.join ("" : Str) ls).length ≤ n := fun {ls n} h => by rw [joinE_len]; exact h
    refine ⟨⟨_, rfl⟩, _, rfl, a, _, _, _, rfl, rfl, ha, rfl, "", y, o, rfl, rfl, .inr ho, by show (o.map (·.length)).sum + o.length * 0 ≤ _; omega, ?_⟩
    refine ⟨⟨_, rfl⟩, _, rfl, a, _, _, _, rfl, rfl, ha, rfl, "", z, t, rfl, rfl, .inr ht, by show (t.map (·.length)).sum + t.length * 0 ≤ _; omega, ?_⟩
    refine ⟨by show 2 ≤ sizeLine; decide, fun l1 hl1 => ?_⟩
    have s1 := same_new (o := .lst [.str (Txt.join "" o), .str (Txt.join "" t)]) hl1
    refine ⟨l1, [Txt.join "" o, Txt.join "" t], rfl, SqL.of upd_same, (by show 2 < 64; decide), fun ys p hperm hsort hp => ?_⟩
    have eys := sort2_of hperm hsort
    subst eys
    obtain ⟨ss, ess⟩ : ∃ ss, ss = sort2 (Txt.join "" o) (Txt.join "" t) := ⟨_, rfl⟩
    have pss : ss.Perm [Txt.join "" o, Txt.join "" t] := by rw [ess]; exact sort2_perm _ _
    have lss : ss.length = 2 := pss.length_eq
    have bss : ∀ x ∈ ss, x.length ≤ 100000 := fun x hx => by
      have q := pss.mem_iff.mp hx
      rcases List.mem_cons.mp q with rfl | q
      · exact sumE lo
      · rcases List.mem_cons.mp q with rfl | q
        · exact sumE lt
        · cases q
    rw [← ess]
    obtain ⟨H2, e2⟩ : ∃ H2, H2 = upd (upd H l1 (.lst [.str (Txt.join "" o), .str (Txt.join "" t)])) p (.lst (ss.map V.str)) := ⟨_, rfl⟩
    have hp2 : H2 p = some (.lst (ss.map V.str)) := by rw [e2, upd_same]
    have s2 : Same H H2 := by rw [e2]; exact s1.trans (same_new hp)
    rw [← e2]
    refine ⟨⟨_, rfl⟩, ⟨_, rfl⟩, _, rfl, a, _, _, _, rfl, rfl, s2.seqT ha, rfl, "", x, b, rfl, rfl, .inr (s2.seqT hb), by show (b.map (·.length)).sum + b.length * 0 ≤ _; omega, ?_⟩
    refine ⟨by show 1 ≤ sizeLine; decide, fun l2 hl2 => ?_⟩
    have s3 := same_new (o := .lst [.str (Txt.join "" b)]) hl2
    refine ⟨_, rfl, l2, p, _, _, rfl, rfl, upd_same, s3 _ _ hp2, (by rw [List.length_map, lss]; exact (by decide : 1 + 2 ≤ sizeLine)), fun l3 hl3 => ?_⟩
    obtain ⟨rs, ers⟩ : ∃ rs, rs = Txt.join "" b :: ss := ⟨_, rfl⟩
    have eap : ([.str (Txt.join "" b)] : List V) ++ ss.map V.str = rs.map V.str := by rw [ers]; rfl
    rw [eap]
    obtain ⟨H3, e3⟩ : ∃ H3, H3 = upd (upd H2 l2 (.lst [.str (Txt.join "" b)])) l3 (.lst (rs.map V.str)) := ⟨_, rfl⟩
    have hr3 : H3 l3 = some (.lst (rs.map V.str)) := by rw [e3, upd_same]
    have s4 : Same H H3 := by rw [e3]; exact s2.trans (s3.trans (same_new hl3))
    rw [← e3]
    have brs : ∀ x ∈ rs, x.length ≤ 100000 := fun x hx => by
      rw [ers] at hx
      rcases List.mem_cons.mp hx with rfl | hx
      · exact sumE lb
      · exact bss x hx
    have lrs : rs.length = 3 := by rw [ers, List.length_cons, lss]
    refine ⟨l3, rfl, ⟨_, SqL.of hr3⟩, fun D hD => ?_⟩
    refine lc_list (xs := rs.map V.str) (fun i H' => Same H3 H' ∧ H' D = some (.lst (((rs.take i).map rowT).map V.str))) ⟨same_new hD, upd_same⟩ (fun i H' _ h => SqL.of (h.1 _ _ hr3)) ?_ ?_
    · rintro i v H4 hv ⟨s5, hl⟩
      rw [List.getElem?_map] at hv
      obtain ⟨r, hr', rfl⟩ := Option.map_eq_some_iff.mp hv
      have hi : i < rs.length := (List.getElem?_eq_some_iff.mp hr').1
      have br := brs r (List.mem_of_getElem? hr')
      have sl16 : (100000 : Nat) + 100 ≤ sizeLine := by decide
      have q11 := strN_len (n := r.length) (by omega)
      have e1 : ("\n" : Str).length = 1 := by decide +kernel
      refine ⟨rfl, _, rfl, _, rfl, by omega, _, rfl, log2_small (by omega), _, _, rfl, rfl, ?_, _, rfl, _, _, rfl, rfl, ?_, _, hl, ?_, same_mut s5 hD, ?_⟩
      · show (strN r.length).length + ("\n" : Str).length ≤ sizeLine
        omega
      · show (strN r.length ++ ("\n" : Str)).length + r.length ≤ sizeLine
        rw [app_len2]
        omega
      · rw [List.length_map, List.length_map, List.length_take]
        exact Nat.lt_of_le_of_lt (show _ ≤ 100 by omega) (by decide)
      · rw [upd_same, List.take_succ, hr', Option.toList_some, List.map_append, List.map_append]
        rfl
    · rintro H4 ⟨s5, hl⟩
      rw [List.length_map, List.take_length] at hl
      have ebd : ((rs.map rowT).map (·.length)).sum ≤ 400000 := by
        rw [ers]
        obtain ⟨u, v, euv⟩ : ∃ u v, ss = [u, v] := by
          match ss, lss with
          | [u, v], _ => exact ⟨u, v, rfl⟩
        subst euv
        have b1 := rowT_len (r := Txt.join "" b) (by have := sumE lb; omega)
        have b2 := rowT_len (r := u) (by have := bss u (List.mem_cons_self ..); omega)
        have b3 := rowT_len (r := v) (by have := bss v (List.mem_cons_of_mem _ (List.mem_cons_self ..)); omega)
        have c1 := sumE lb
        have c2 := bss u (List.mem_cons_self ..)
        have c3 := bss v (List.mem_cons_of_mem _ (List.mem_cons_self ..))
        simp only [List.map_cons, List.map_nil, List.sum_cons, List.sum_nil]
        omega
      refine ⟨"", D, rs.map rowT, rfl, rfl, .inl (SqL.of hl), by show ((rs.map rowT).map (·.length)).sum + (rs.map rowT).length * 0 ≤ _; omega, ?_⟩
      have ekey : Txt.join "" (rs.map rowT) = keyT (Txt.join "" b) ss := by rw [ers]; rfl
      rw [ekey]
      refine ⟨_, rfl, ?_, fun H5 s6 => ?_⟩
      · rw [← ekey, joinE_len]
        omega
      · have q := k H5 (s4.trans (s5.trans s6))
        unfold keyF at q
        rw [← ess] at q
        exact q
end
end VK
end

section
set_option Elab.async false
set_option linter.all false
set_option pp.maxSteps 1500
set_option maxRecDepth 100000
set_option maxHeartbeats 4000000
/-! as KGenT, over a text's signs, where the element reads a name of the module (after the library's AnyAll) -/
namespace VK
open PySem PySem.Spec PyProof.Rows L2
/-- the element: a test of the sign c; the module's names stand -/
def EltPG (prog : Program) (w : World) (mg : Str → Option Value) (scope : Scope) (x : Str) (elt : Expr) (pb : Nat → Bool) : Prop :=
  ∀ (cenv : Env) (A' : Around) (E' : Value → Shared → Prop) (c : Nat) (t : Tok) (s₂ : Shared) (m₂ : Str → Option Value), cenv.scope = scope → GEnv mg cenv s₂ → s₂.heap.Ns cenv.locals m₂ → m₂ x = some (.str ⟨#[c]⟩ t) →
    wpAny (model prog w) A' (eval elt cenv) (fun y s₃ => y = .bool (pb c) ∧ Keeps s₂ s₃) E' s₂
section
variable {X : Cx} {pins : List (Addr × Obj)} {σ : L2.St} {H : Hp} {s : Shared}
theorem gen_strG {c P : Addr} {elt iter : Expr} {x : Str} {px gpos : Pos} {scope : Scope} {pb : Nat → Bool} {te : TE} {k : Nat} {Q' : Value → Shared → Prop} {R : Str → Hp → Prop}
    (hr : Room k X.A) (TB : GxR.TabB X.base X.mg c P) (hcode : X.env.code = .ref c) (S : GxR.GenS X.env scope x) (hi : PE X iter te) (hel : EltPG X.prog X.w X.mg scope x elt pb)
    (hs : ∀ v, genFold iter X.env v = pure v) (I : Inv X pins σ H s) (h : te σ H fun v H1 => ∃ a : Str, v = .str a ∧ GxR.TabG H1 P ∧ R a H1)
    (hQ : ∀ a H1 g s5, R a H1 → GxR.Ready X pins σ H1 P a pb g s5 → Q' (.ref g) s5) :
    wpAny (model X.prog X.w) X.A (eval (.GeneratorExp elt [⟨.Name x px, iter, [], 0⟩] scope gpos) X.env) Q' X.xe s := by
  refine wpAny_GeneratorExp_walksQ hr.hd S.co (closure_ok S.free) S.cell S.dot S.loc S.kind (by have := hr.dp; omega) ?_ hs
  refine thn (hi.run pins s σ H _ I h) fun xv s1 ⟨v, H1, I1, r1, q1⟩ => ?_
  obtain ⟨a, rfl, ⟨ps, hP, ht⟩, q1⟩ := q1
  obtain ⟨t, rfl⟩ := _root_.id r1
  refine wpAny_pyIter_str fun o St W hst => ?_
  have hPs : s1.heap.get? P = some { cls := .none, data := .fields ps } := I1.hok P _ hP
  have hPlt : P < s1.heap.objs.size := Heap.lt_size hPs
  have hP2 : (s1.heap.push o).get? P = some { cls := .none, data := .fields ps } := Heap.get?_push_of_some _ hPs
  have cd : PySem.W.CodeHd (s1.heap.push o) c P := TB.code.keeps fun b u e => Heap.get?_push_of_some _ (I1.bk b u e)
  have lim2 : (s1.heap.push o).NoLimit := I1.nolimit.push o
  obtain ⟨mb, hb1, hb2⟩ := I1.mod.blt
  have nsP : ∀ {a : Addr} {m : Str → Option Value}, X.base.Ns a m → a ≠ P := fun {a m} hn e => by
    obtain ⟨o', es, ep, ho', hd, _⟩ := hn
    have := I1.bk _ _ ho'
    rw [e, hPs] at this
    cases this
    cases hd
  have cont : ∀ (code : Value) (h3 : Heap) (tk : Nat) (ps' : Array Value), Heap.ExtBut P (s1.heap.push o) h3 → (s1.heap.push o).objs.size ≤ h3.objs.size → h3.get? P = some { cls := .none, data := .fields ps' } → (∃ more, ps' = ps ++ more) → TriplesOk ps'.toList →
      wpAny (model X.prog X.w) X.A (builtinsFor X.env.globals X.env.builtins) (fun bi s₄ =>
        ∃ Ia fp wr n₀ Pf St₀ pz F, Value.ref s1.heap.objs.size = .ref Ia ∧ (∀ A' : Around, A'.handled = none → Walks X.prog X.w A' Ia fp wr n₀ Pf St₀) ∧ St₀ 0 s₄.heap ∧ (∀ b ∈ fp, b < s₄.heap.objs.size) ∧ s₄.heap.NoLimit ∧ cStatics ∉ wr ∧
          (∀ href : Heap, (∀ b o, s₄.heap.get? b = some o → href.get? b = some o) →
            QuietGen X.prog X.w (genEnv scope (cloFrom X.env.cells scope.names []) s₄.heap.objs.size code bi X.env) x [] elt (List.range s₄.heap.objs.size) wr Pf pz F href) ∧
          (∀ a h₅ tk gs, gs.bare = true → s₄.heap.objs.size < a → h₅.objs.size = a + 1 → (∀ b o, s₄.heap.get? b = some o → h₅.get? b = some o) →
            WalksS X.prog X.w X.A.in4 a (a :: s₄.heap.objs.size :: List.range s₄.heap.objs.size) (s₄.heap.objs.size :: wr) (GenOnlyQ s₄.gens.size) (passing pz n₀ 0).length
              (fun j y => ∃ i, (passing pz n₀ 0)[j]? = some i ∧ F i y) (GenAt X.prog X.w X.A.in4 a s₄.gens.size s₄.heap.objs.size (List.range s₄.heap.objs.size) wr pz n₀ F) →
            GenAt X.prog X.w X.A.in4 a s₄.gens.size s₄.heap.objs.size (List.range s₄.heap.objs.size) wr pz n₀ F 0 { s₄ with gens := s₄.gens.push gs, toks := tk, heap := h₅ } →
            Q' (.ref a) { s₄ with gens := s₄.gens.push gs, toks := tk, heap := h₅ })) X.xe { s1 with heap := h3, toks := tk } := by
    intro code h3 tk ps' hx hsz hP3 hmore ht3
    obtain ⟨bm, ob, e1, e2, e3, e4, e5, e6, e7, e8⟩ := TB.bm
    have hcP : cStatics ≠ P := fun e => by
      obtain ⟨_, hns, _⟩ := I1.nolimit
      obtain ⟨o', es, ep, ho, hd, _⟩ := hns
      rw [e, hPs] at ho
      cases ho
      cases hd
    have hcl : cStatics < s1.heap.objs.size := let ⟨_, hns, _⟩ := I1.nolimit; hns.lt
    have sz2 : (s1.heap.push o).objs.size = s1.heap.objs.size + 1 := Heap.size_push ..
    have keep3 : ∀ b u, b ≠ P → s1.heap.get? b = some u → h3.get? b = some u := fun b u hb e => hx b u hb (Heap.get?_push_of_some _ e)
    refine wpAny_builtinsFor (m := X.mg) (by rw [I1.ok.glob]; exact ((I1.mod.glob.keeps I1.bk).push o).extBut hx TB.gP) e1 e2 (keep3 _ _ e4 (I1.bk _ _ e5)) e6 e7 e8 ?_
    refine ⟨s1.heap.objs.size, [s1.heap.objs.size], [s1.heap.objs.size], a.cps.size, SignAt a, St, (fun _ => true), (fun i y => ∃ cc, a.cps[i]? = some cc ∧ y = .bool (pb cc)), rfl, W, ?_, ?_, lim2.extBut hx hcP, ?_, ?_, ?_⟩
    · refine (W X.A hr.hd).frame _ _ _ hst fun b hb u e => hx b u (fun z => ?_) e
      rcases List.mem_cons.mp hb with z2 | z2
      · exact Nat.ne_of_lt hPlt (z.symm.trans z2)
      · cases z2
    · intro b hb
      rcases List.mem_cons.mp hb with z | z
      · rw [z]
        show s1.heap.objs.size < h3.objs.size
        omega
      · cases z
    · intro z
      rcases List.mem_cons.mp z with z | z
      · exact Nat.ne_of_lt hcl z
      · cases z
    · intro href hhref
      refine ⟨fun A' E' i v s₂ m₂ hA hPv hn hm hk => ?_, fun A' E' i v s₂ m₂ hA hPv hp hn hm hk => ?_⟩
      · simp only [List.forIn_nil]
        exact wpAny_pure ⟨rfl, GxR.keeps_refl _⟩
      · obtain ⟨cc, u, hcc, rfl⟩ := hPv
        have nsK : ∀ {a : Addr} {m : Str → Option Value}, X.base.Ns a m → s₂.heap.Ns a m := fun {a m} hn0 => by
          have nP := nsP hn0
          obtain ⟨o', es, ep, ho', r⟩ := hn0
          have e1 := I1.bk _ _ ho'
          have hl := Heap.lt_size e1
          have e2 := hhref _ _ (keep3 _ _ nP e1)
          refine ⟨o', es, ep, hk a (List.mem_range.mpr ?_) ?_ _ e2, r⟩
          · have e9 : s1.heap.objs.size ≤ h3.objs.size := by omega
            exact Nat.lt_of_lt_of_le hl e9
          · intro z
            rcases List.mem_cons.mp z with z | z
            · rw [z] at hl; exact Nat.lt_irrefl _ hl
            · cases z
        have ge : GEnv X.mg (genEnv scope (cloFrom X.env.cells scope.names []) h3.objs.size code builtinsNs X.env) s₂ :=
          ⟨S.kind, by show s₂.heap.Ns X.env.globals X.mg; rw [I1.ok.glob]; exact nsK I1.mod.glob, mb, nsK hb1, hb2⟩
        exact wpAny_mono (hel _ A' E' cc u s₂ m₂ rfl ge hn hm) (fun y s3 r => ⟨⟨cc, hcc, r.1⟩, r.2⟩) fun _ _ e => e
    · intro g h5 tk5 gs hgb hag hsz5 hk5 W5 hat
      simp only [GxR.passing_true, List.length_range] at W5
      refine hQ a H1 g _ q1 ⟨_, _, _, _, _, W5.in4_1, hat, ?_, fun s' hm => ?_⟩
      · intro j y sj Qj Ej hy hQj
        obtain ⟨i, hij, cc, hcc, rfl⟩ := hy
        obtain ⟨hj, ej⟩ := List.getElem?_eq_some_iff.mp hij
        rw [List.getElem_range] at ej
        subst ej
        have e9 : a.cps.toList[j]? = some cc := by rw [Array.getElem?_toList]; exact hcc
        have hQ2 : Qj (GxR.trF pb a.cps.toList j) sj := hQj
        rw [GxR.trF_some e9] at hQ2
        exact wpAny_truthy_bool hQ2
      · obtain ⟨more, em⟩ := hmore
        have nwr : ∀ b u, s1.heap.get? b = some u → b ∉ h3.objs.size :: [s1.heap.objs.size] := fun b u e hb => by
          have hl := Heap.lt_size e
          rcases List.mem_cons.mp hb with z | z
          · rw [z] at hl
            have h9 : (h3.objs.size : Nat) < s1.heap.objs.size := hl
            omega
          · rcases List.mem_cons.mp z with z | z
            · rw [z] at hl
              exact Nat.lt_irrefl _ hl
            · cases z
        have J := GxR.inv_tab (more := more) (h' := s'.heap) (g' := s'.gens) (d' := s'.drawn) (t' := s'.toks) I1 hP (fun b u hb e => hm.heap b u (nwr b u e) (hk5 b u (keep3 b u hb e)))
          (by rw [← em]; exact hm.heap P _ (nwr P _ hPs) (hk5 P _ hP3)) (AllBare.movedS (I1.bare.push hgb) hm)
        rw [GxR.sh_eta s1 s' hm.os] at J
        refine ⟨upd H1 P (.tbl (ps ++ more)), ⟨⟨ps ++ more, upd_same, by rw [← em]; exact ht3⟩, fun b hb => upd_ne hb⟩, J⟩
  refine ⟨lim2, ?_⟩
  cases hf : codeAmong gpos ps.toList with
  | none =>
    refine wpAny_genexprCodeX hcode (cd.code hP2 ht) (cd.tab hP2) hf fun c' h' tk hx hge hlt hco' _ htab' _ => ?_
    obtain ⟨o1, vs, f1, tf, fl, tg, inF, tx, tt, op, _, _, _, _, _, _, _, _, _, htr, _⟩ := hco'
    exact cont _ h' tk _ hx (Nat.le_trans hge (Nat.le_of_lt hlt)) htab'.2 ⟨_, rfl⟩ htr
  | some cv =>
    refine wpAny_genexprCode_hit hcode (cd.code hP2 ht) hf ?_
    exact cont cv (s1.heap.push o) s1.toks ps (Heap.ExtBut.refl _ _) (Nat.le_refl _) hP2 ⟨#[], by simp⟩ ht

theorem pe_allSG {c P : Addr} {elt iter : Expr} {x : Str} {px p pos gpos : Pos} {scope : Scope} {pb : Nat → Bool} {te : TE} {k : Nat}
    (hr : Room k X.A) (hg : Gl X "all") (hm : X.mg "all" = none) (hb : bootBuiltins "all" = some (.builtin "all")) (TB : GxR.TabB X.base X.mg c P) (hcode : X.env.code = .ref c) (S : GxR.GenS X.env scope x) (hi : PE X iter te) (hel : EltPG X.prog X.w X.mg scope x elt pb)
    (hs : ∀ v, genFold iter X.env v = pure v)
    (he : starEach [.GeneratorExp elt [⟨.Name x px, iter, [], 0⟩] scope gpos] X.env = (false, eval (.GeneratorExp elt [⟨.Name x px, iter, [], 0⟩] scope gpos) X.env) :: starEach [] X.env := by rfl) :
    PE X (.Call (.Name "all" p) [.GeneratorExp elt [⟨.Name x px, iter, [], 0⟩] scope gpos] [] pos) (GxR.tAllS P pb te) := by
  refine ⟨fun pins s σ H Q I h => ?_⟩
  refine wpAny_Call_Name_kw (ld_blt I hg hm hb ?_)
  refine PyProof.Rows.callWith_builtin1 ?_ he (by rfl)
  rw [he]
  show wpAny _ _ (spliced ((false, eval (.GeneratorExp elt [⟨.Name x px, iter, [], 0⟩] scope gpos) X.env) :: backTo pos (starEach [] X.env))) _ _ s
  refine Calls.spliced_cons (gen_strG (R := fun a H1 => ∀ H2, GxR.Tabbed P H1 H2 → Q (.bl (a.cps.toList.all pb)) H2) hr TB hcode S hi hel hs I h fun a H1 g s5 hR hG => ?_)
  obtain ⟨fp, wr, G, F, St, W, hst, htr, hI⟩ := hG
  refine Calls.spliced_nil ?_
  refine call_all_walkS (W.self 0 _ _ _ hst ⟨g, fp, wr, G, _, F, St, _, rfl, W, hst, htr, fun s' hmv => ?_⟩)
  obtain ⟨H2, hT, J⟩ := hI s' hmv
  refine ⟨.bl _, H2, J, rfl, ?_⟩
  rw [GxR.all_signs a pb]
  exact hR H2 hT
end
end VK
end

section
set_option Elab.async false
set_option linter.all false
set_option pp.maxSteps 1500
set_option maxRecDepth 100000
set_option maxHeartbeats 4000000
namespace VK
open PySem L2
open PyProof.Rows (boot_isinstance boot_str)
open PySem.Spec PyProof.Rows in
/-- x in NAME, x a sign, NAME a text of the module -/
theorem elt_in_glob {prog : Program} {w : World} {mg : Str → Option Value} {scope : Scope} {x g : Str} {z : Str} {tz : Tok} {p1 p2 p3 : Pos} (hm : mg g = some (.str z tz)) (hk : scope.kind = .function) (hl : scope.names.lookup x = some .local) (hg : scope.names.lookup g = some .globalImplicit) (hd : (x == ("__debug__" : Str)) = false := by decide) (hd2 : (g == ("__debug__" : Str)) = false := by decide) :
    EltPG prog w mg scope x (.Compare (.Name x p1) [.In] [.Name g p2] p3) (fun c => decide (c ∈ z.cps.toList)) := by
  intro cenv A' E' c t s₂ m₂ hs ge hn hx
  refine wpAny_Compare1 ?_
  refine wpAny_Name (wpAny_loadName_local (by rw [hs]; exact hk) (show cenv.scope.names.lookup x = some .local by rw [hs]; exact hl) hn hx ?_) hd
  refine Calls.Name_function_global ge.kind (by show cenv.scope.names.lookup _ = _; rw [hs]; exact hg) (Calls.loadGlobal_global ge.g hm ?_) hd2
  refine PyProof.Rows.in_str ⟨?_, GxR.keeps_tok _ _⟩
  exact congrArg Value.bool (PySem.StrLaws.found_one z c)
/-- a name of an object -/
def nameB (z : Str) : Bool := decide (z.length = 16) && z.cps.toList.all fun c => decide (c ∈ ("0123456789abcdef" : Str).cps.toList)
abbrev s_is_name : Stmt := topS 27
theorem sc_is_name : FnScope ["value"] ["value"] (defScope s_is_name) := ⟨rfl, rfl, rfl, by decide +kernel, rfl, by decide +kernel, by decide +kernel⟩
def spIsName (K : PySem.W.Frag) (Pt : Addr) : Sp := fun vs H Q _ => ∃ (z : Str), vs = [.str z] ∧ z.length ≤ 10000000 ∧ GxR.TabG H Pt ∧ ∀ H' : Hp, Sv Pt H H' → GxR.TabG H' Pt → Q (.bl (nameB z)) H'
section
variable {P : Program} {w : World} {K : PySem.W.Frag} {mg : Str → Option Value} {base : Heap} {t1 t2 t3 t4 t5 : Tok}
theorem ok_isname {f c Pt : Addr} {fd : FuncData} (F : FunC K "is_name" "is_name" s_is_name f c fd) (TB : GxR.TabB base mg c Pt) (T0 : Txt0 mg) (T : NC mg t1 t2 t3 t4 t5) (z_isi : mg "isinstance" = none) (z_all : mg "all" = none) : FnOk P w K mg base CX0 3 f fd ["value"] (spIsName K Pt) := by
  refine F.ok sc_is_name (fun vs H Q E h => ?_) (fun A outer s H vs Q E hr h => ?_)
  · obtain ⟨z, rfl, _⟩ := h
    rfl
  · obtain ⟨z, rfl, hz, tab, k⟩ := h
    refine ⟨_, (pss_one (ps_ret (pe_and (pe_callB call_isi (by rfl) z_isi boot_isinstance (pa_cons (pv 0) (pa_cons (pe_bltn (v := .ty "str") (by rfl) T.z_str boot_str rfl) pa_nil))) (pe_and (pe_cmpR op_eq (pe_callB call_len_str (by rfl) T0.z_len PySem.boot_len (pa_cons (pv 0) pa_nil)) (pe_glob rfl T.c_LONG relI) (nomark _)) (pe_one (pe_allSG hr (by rfl) z_all (by decide +kernel) TB rfl (gen_s rfl rfl rfl rfl rfl) (pv 0) (elt_in_glob T.c_SIGNS rfl rfl rfl) (fun _ => rfl))))))), ?_⟩
    refine ⟨_, rfl, .str z, .ty "str", _, .type "str", true, rfl, .ty _, .base (.str _), rfl, _, rfl, ?_⟩
    rw [if_pos rfl]
    refine ⟨_, rfl, z, rfl, Nat.le_trans hz (by decide), rfl, _, rfl, ?_⟩
    by_cases h : z.length = 16
    · rw [if_pos (by rw [h]; decide)]
      refine ⟨_, rfl, z, rfl, tab, fun H2 t2 => ?_⟩
      have q := k H2 (sv_tab t2) t2.1
      unfold nameB at q
      rw [decide_eq_true h, Bool.true_and] at q
      exact q
    · have e : decide (V.int ((z.length : Nat) : Int) = V.int 16) = false := decide_eq_false fun q => h (by have := V.int.inj q; omega)
      rw [e]
      have q := k H (Sv.refl _ _) tab
      unfold nameB at q
      rw [decide_eq_false h, Bool.false_and] at q
      exact q
end
end VK
end

section
set_option Elab.async false
set_option linter.all false
set_option pp.maxSteps 1500
set_option maxRecDepth 100000
set_option maxHeartbeats 4000000
namespace VK
open PySem L2
/-- keys and the lines kept under them, in the order of the dict -/
abbrev Mem := List (Str × List Str)
def lookM : Mem → Str → Option (List Str)
  | [], _ => none
  | (k, ls) :: r, s => if k = s then some ls else lookM r s
def hasM (m : Mem) (s : Str) : Bool := m.any fun p => decide (p.1 = s)
def putM (m : Mem) (s : Str) (ls : List Str) : Mem := if hasM m s = true then m.map (fun p => if p.1 = s then (p.1, ls) else p) else m ++ [(s, ls)]
def dropM (m : Mem) (s : Str) : Mem := m.filter fun p => decide (p.1 ≠ s)
theorem has_look : ∀ (m : Mem) (s : Str), hasM m s = (lookM m s).isSome
  | [], _ => rfl
  | (k, ls) :: r, s => by
    have ih := has_look r s
    unfold hasM at *
    rw [List.any_cons, ih, lookM]
    by_cases e : k = s
    · rw [decide_eq_true e, if_pos e]; rfl
    · rw [decide_eq_false e, if_neg e]; rfl
theorem look_put (s : Str) (ls : List Str) (j : Str) : ∀ m : Mem, lookM (putM m s ls) j = if s = j then some ls else lookM m j := by
  intro m
  have h1 : ∀ m : Mem, hasM m s = true → lookM (m.map (fun p => if p.1 = s then (p.1, ls) else p)) j = if s = j then some ls else lookM m j := by
    intro m
    induction m with
    | nil => intro h; cases h
    | cons p r ih =>
      obtain ⟨k, l0⟩ := p
      intro h
      rw [List.map_cons]
      by_cases e : k = s
      · subst e
        rw [if_pos rfl, lookM]
        by_cases e2 : k = j
        · rw [if_pos e2, if_pos e2]
        · rw [if_neg e2, if_neg e2, lookM, if_neg e2]
          by_cases hr : hasM r k = true
          · rw [ih hr, if_neg e2]
          · have hid : r.map (fun p : Str × List Str => if p.1 = k then (p.1, ls) else p) = r := by
              conv => rhs; rw [← List.map_id r]
              refine List.map_congr_left fun p hp => ?_
              rw [if_neg]
              · rfl
              · intro e
                exact hr (List.any_eq_true.mpr ⟨p, hp, decide_eq_true e⟩)
            rw [hid]
      · have hr : hasM r s = true := by
          unfold hasM at h ⊢
          rw [List.any_cons, decide_eq_false e, Bool.false_or] at h
          exact h
        rw [if_neg e, lookM, lookM, ih hr]
        by_cases e2 : k = j
        · rw [if_pos e2, if_pos e2, if_neg (fun z => e (e2.trans z.symm))]
        · rw [if_neg e2, if_neg e2]
  have h2 : ∀ m : Mem, lookM (m ++ [(s, ls)]) j = (lookM m j).or (if s = j then some ls else none) := by
    intro m
    induction m with
    | nil => show lookM [(s, ls)] j = _; rw [lookM, lookM]; rfl
    | cons p r ih =>
      obtain ⟨k, l0⟩ := p
      rw [List.cons_append, lookM, lookM, ih]
      split <;> rfl
  unfold putM
  by_cases h : hasM m s = true
  · rw [if_pos h, h1 m h]
  · rw [if_neg h, h2]
    by_cases e : s = j
    · subst e
      rw [has_look] at h
      cases q : lookM m s with
      | none => rw [if_pos rfl]; rfl
      | some x => rw [q] at h; exact absurd rfl h
    · rw [if_neg e, if_neg e]
      cases lookM m j <;> rfl
theorem put_len (m : Mem) (s : Str) (ls : List Str) : (putM m s ls).length ≤ m.length + 1 := by
  unfold putM
  split
  · rw [List.length_map]; omega
  · rw [List.length_append]; exact Nat.le_refl _
theorem drop_len (m : Mem) (s : Str) : (dropM m s).length ≤ m.length := List.length_filter_le _ _
theorem look_drop (m : Mem) (s : Str) : lookM (dropM m s) s = none := by
  unfold dropM
  induction m with
  | nil => rfl
  | cons p r ih =>
    obtain ⟨k, ls⟩ := p
    by_cases e : k = s
    · rw [List.filter_cons_of_neg (by simp [e])]; exact ih
    · rw [List.filter_cons_of_pos (by simp [e]), lookM, if_neg e]; exact ih
theorem look_drop_ne {m : Mem} {s j : Str} (h : s ≠ j) : lookM (dropM m s) j = lookM m j := by
  unfold dropM
  induction m with
  | nil => rfl
  | cons p r ih =>
    obtain ⟨k, ls⟩ := p
    by_cases e : k = s
    · rw [List.filter_cons_of_neg (by simp [e]), lookM, if_neg (fun z => h (e.symm.trans z))]; exact ih
    · rw [List.filter_cons_of_pos (by simp [e]), lookM, lookM, ih]
/-! the dict -/
def KDl (K : PySem.W.Frag) (H : Hp) : List (Key × V) → Mem → Prop
  | [], [] => True
  | (k, v) :: r, (s, ls) :: m => k = Sum.inr s ∧ (∃ p, v = .ref p ∧ SqT K H p (ls.map V.str)) ∧ KDl K H r m
  | _, _ => False
def KD (K : PySem.W.Frag) (H : Hp) (d : Addr) (m : Mem) : Prop := ∃ kvs, H d = some (.dK kvs) ∧ KDl K H kvs m
section
variable {K : PySem.W.Frag} {H H' : Hp}
theorem KDl.tk (t : TK K H H') : ∀ {kvs : List (Key × V)} {m : Mem}, KDl K H kvs m → KDl K H' kvs m
  | [], [], _ => trivial
  | (k, v) :: r, (s, ls) :: m, ⟨h1, ⟨p, h2, h3⟩, h4⟩ => ⟨h1, ⟨p, h2, t _ _ h3⟩, KDl.tk t h4⟩
theorem KDl.len : ∀ {kvs : List (Key × V)} {m : Mem}, KDl K H kvs m → kvs.length = m.length
  | [], [], _ => rfl
  | (k, v) :: r, (s, ls) :: m, ⟨_, _, h4⟩ => congrArg (· + 1) h4.len
theorem KDl.keys : ∀ {kvs : List (Key × V)} {m : Mem}, KDl K H kvs m → kvs.map (·.1) = (m.map (·.1)).map Sum.inr
  | [], [], _ => rfl
  | (k, v) :: r, (s, ls) :: m, ⟨h1, _, h4⟩ => by
    rw [List.map_cons, List.map_cons, List.map_cons, h4.keys]
    exact congrArg (· :: _) h1
theorem KDl.val (s : Str) : ∀ {kvs : List (Key × V)} {m : Mem}, KDl K H kvs m → (valV kvs (Sum.inr s : Key) = none ∧ lookM m s = none) ∨ ∃ p ls, valV kvs (Sum.inr s : Key) = some (.ref p) ∧ lookM m s = some ls ∧ SqT K H p (ls.map V.str)
  | [], [], _ => .inl ⟨rfl, rfl⟩
  | (k, v) :: r, (s', ls) :: m, ⟨h1, ⟨p, h2, h3⟩, h4⟩ => by
    by_cases e : s' = s
    · refine .inr ⟨p, ls, ?_, ?_, h3⟩
      · rw [valV_pos (by rw [h1, e]), h2]
      · rw [lookM, if_pos e]
    · have n : ¬ k = (Sum.inr s : Key) := fun q => e (by rw [h1] at q; exact Sum.inr.inj q)
      have q1 : valV ((k, v) :: r) (Sum.inr s : Key) = valV r (Sum.inr s : Key) := valV_neg (p := (k, v)) n
      have q2 : lookM ((s', ls) :: m) s = lookM m s := by rw [lookM, if_neg e]
      rw [q1, q2]
      exact KDl.val s h4
theorem KDl.any (s : Str) : ∀ {kvs : List (Key × V)} {m : Mem}, KDl K H kvs m → (kvs.any fun kv => decide (kv.1 = (Sum.inr s : Key))) = hasM m s
  | [], [], _ => rfl
  | (k, v) :: r, (s', ls) :: m, ⟨h1, _, h4⟩ => by
    have ih := KDl.any s h4
    unfold hasM at *
    rw [List.any_cons, List.any_cons, ih]
    congr 1
    rw [h1]
    by_cases e : s' = s
    · rw [decide_eq_true e, decide_eq_true (congrArg Sum.inr e)]
    · rw [decide_eq_false e, decide_eq_false fun q => e (Sum.inr.inj q)]
theorem KDl.map {s : Str} {ls : List Str} {p : Addr} (hp : SqT K H p (ls.map V.str)) : ∀ {kvs : List (Key × V)} {m : Mem}, KDl K H kvs m → KDl K H (kvs.map fun kv => if kv.1 = (Sum.inr s : Key) then (kv.1, V.ref p) else kv) (m.map fun q => if q.1 = s then (q.1, ls) else q)
  | [], [], _ => trivial
  | (k, v) :: r, (s', l0) :: m, ⟨h1, h2, h4⟩ => by
    rw [List.map_cons, List.map_cons]
    by_cases e : s' = s
    · have e' : k = (Sum.inr s : Key) := by rw [h1, e]
      rw [if_pos e, if_pos e']
      exact ⟨h1, ⟨p, rfl, hp⟩, KDl.map hp h4⟩
    · have e' : ¬ k = (Sum.inr s : Key) := fun q => e (by rw [h1] at q; exact Sum.inr.inj q)
      rw [if_neg e, if_neg e']
      exact ⟨h1, h2, KDl.map hp h4⟩
theorem KDl.snoc {s : Str} {ls : List Str} {p : Addr} (hp : SqT K H p (ls.map V.str)) : ∀ {kvs : List (Key × V)} {m : Mem}, KDl K H kvs m → KDl K H (kvs ++ [((Sum.inr s : Key), V.ref p)]) (m ++ [(s, ls)])
  | [], [], _ => ⟨rfl, ⟨p, rfl, hp⟩, trivial⟩
  | (k, v) :: r, (s', l0) :: m, ⟨h1, h2, h4⟩ => ⟨h1, h2, KDl.snoc hp h4⟩
theorem KDl.put {s : Str} {ls : List Str} {p : Addr} (hp : SqT K H p (ls.map V.str)) {kvs : List (Key × V)} {m : Mem} (h : KDl K H kvs m) : KDl K H (putK kvs (Sum.inr s : Key) (V.ref p)) (putM m s ls) := by
  unfold putK putM
  rw [h.any s]
  by_cases e : hasM m s = true
  · rw [if_pos e, if_pos e]; exact h.map hp
  · rw [if_neg e, if_neg e]; exact h.snoc hp
theorem KDl.drop (s : Str) : ∀ {kvs : List (Key × V)} {m : Mem}, KDl K H kvs m → KDl K H (dropK kvs (Sum.inr s : Key)) (dropM m s)
  | [], [], _ => trivial
  | (k, v) :: r, (s', l0) :: m, ⟨h1, h2, h4⟩ => by
    have ih := KDl.drop s h4
    unfold dropK dropM at *
    by_cases e : s' = s
    · have e' : k = (Sum.inr s : Key) := by rw [h1, e]
      rw [List.filter_cons_of_neg (p := fun kv : Key × V => decide (kv.1 ≠ (Sum.inr s : Key))) (a := (k, v)) (show ¬ decide (k ≠ (Sum.inr s : Key)) = true from fun q => of_decide_eq_true q e'), List.filter_cons_of_neg (p := fun q : Str × List Str => decide (q.1 ≠ s)) (a := (s', l0)) (show ¬ decide (s' ≠ s) = true from fun q => of_decide_eq_true q e)]
      exact ih
    · have e' : ¬ k = (Sum.inr s : Key) := fun q => e (by rw [h1] at q; exact Sum.inr.inj q)
      rw [List.filter_cons_of_pos (p := fun kv : Key × V => decide (kv.1 ≠ (Sum.inr s : Key))) (a := (k, v)) (show decide (k ≠ (Sum.inr s : Key)) = true from decide_eq_true e'), List.filter_cons_of_pos (p := fun q : Str × List Str => decide (q.1 ≠ s)) (a := (s', l0)) (show decide (s' ≠ s) = true from decide_eq_true e)]
      exact ⟨h1, h2, ih⟩
/-- tuples are no dicts -/
theorem tk_dk {p : Addr} {o : HO} {kvs : List (Key × V)} (h : H p = some (.dK kvs)) : TK K H (upd H p o) := fun a xs q => by
  rcases q with q | q
  · have n : a ≠ p := by
      rintro rfl
      rcases q with q | ⟨o, q⟩ <;> (rw [h] at q; cases q)
    exact .inl (rd_upd q n)
  · exact .inr q
theorem tk_svd {p : Addr} {kvs : List (Key × V)} (h : H p = some (.dK kvs)) (s : Sv p H H') : TK K H H' := fun a xs q => by
  rcases q with q | q
  · have n : a ≠ p := by
      rintro rfl
      rcases q with q | ⟨o, q⟩ <;> (rw [h] at q; cases q)
    exact .inl (s.rd q n)
  · exact .inr q
theorem KD.same {d : Addr} {m : Mem} (h : KD K H d m) (s : Same H H') : KD K H' d m := by
  obtain ⟨kvs, h1, h2⟩ := h
  exact ⟨kvs, s _ _ h1, h2.tk (TK.same s)⟩
theorem KD.sv {d p : Addr} {m : Mem} (h : KD K H d m) (s : Sv p H H') (n : d ≠ p) (t : TK K H H') : KD K H' d m := by
  obtain ⟨kvs, h1, h2⟩ := h
  exact ⟨kvs, s _ _ n h1, h2.tk t⟩
end
end VK
end

section
set_option Elab.async false
set_option linter.all false
set_option pp.maxSteps 1500
set_option maxRecDepth 100000
set_option maxHeartbeats 4000000
namespace VK
open PySem L2
/-- the j-th def of the class that is written at place i -/
def mthS (i j : Nat) : Stmt := match topS i with
  | .ClassDef _ _ _ body _ _ _ _ _ _ _ => body.getD j (.Pass ⟨0, 0, 0, 0⟩)
  | _ => .Pass ⟨0, 0, 0, 0⟩
/-- a method of the class at C -/
structure MtD (K : PySem.W.Frag) (C : Addr) (m q : Str) (st : Stmt) (ps : List Str) (f : Addr) (fd : FuncData) : Prop where
  F : Fun K m q st f fd
  m : Meth K C m f
  b : Binds K fd ps []
structure MemAt (K : PySem.W.Frag) (H : Hp) (C am ad : Addr) (m : Mem) : Prop where
  ins : ∃ dx, H am = some (.ins C dx [("kept", .ref ad)])
  kd : KD K H ad m
abbrev s_Memory___init__ : Stmt := mthS 33 0
theorem sc_Memory___init__ : FnScope ["self"] ["self"] (defScope s_Memory___init__) := ⟨rfl, rfl, rfl, by decide +kernel, rfl, by decide +kernel, by decide +kernel⟩
def spMInit (C : Addr) : Sp := fun vs H Q _ => ∃ (x dx : Addr), vs = [.ref x] ∧ H x = some (.ins C dx []) ∧ ∀ d, H d = none → Q .non (upd (upd H d (.dK [])) x (.ins C dx [("kept", .ref d)]))
section
variable {P : Program} {w : World} {K : PySem.W.Frag} {mg : Str → Option Value} {base : Heap} {t1 t2 t3 t4 t5 : Tok} {C : Addr}
theorem ok_minit {f : Addr} {fd : FuncData} (F : Fun K "__init__" "Memory.__init__" s_Memory___init__ f fd) (cl : Cls K C) (nk : NoAttr K C "kept") : FnOk P w K mg base CX0 1 f fd ["self"] (spMInit C) := by
  refine F.ok sc_Memory___init__ (fun vs H Q E h => ?_) (fun cdv A outer s H vs Q E hr h => ?_)
  · obtain ⟨x, dx, rfl, _⟩ := h
    rfl
  · obtain ⟨x, dx, rfl, hx, k⟩ := h
    refine ⟨_, (pss_one (ps_fld (pv 0) pe_dnewK rfl)), ?_⟩
    intro d hd
    have hxd : upd H d (.dK []) x = some (.ins C dx []) := by rw [upd_ne (ne_of_none hx hd)]; exact hx
    exact ⟨_, rfl, x, C, dx, [], rfl, hxd, cl, nk, by decide, k d hd⟩
end
abbrev s_Memory_learn : Stmt := mthS 33 1
theorem sc_Memory_learn : FnScope ["self", "clash", "lines", "key"] ["self", "clash", "lines"] (defScope s_Memory_learn) := ⟨rfl, rfl, rfl, by decide +kernel, rfl, by decide +kernel, by decide +kernel⟩
def spLearn (K : PySem.W.Frag) (C : Addr) : Sp := fun vs H Q _ => ∃ (am ad a ll : Addr) (m : Mem) (b o t ls : List Str), vs = [.ref am, .ref a, .ref ll] ∧ MemAt K H C am ad m ∧ m.length ≤ 1000 ∧ Dp K H (.ref a) (partD (.clash b o t)) ∧ SqT K H ll (ls.map V.str) ∧
  (b.map (·.length)).sum ≤ 100000 ∧ (o.map (·.length)).sum ≤ 100000 ∧ (t.map (·.length)).sum ≤ 100000 ∧
  ∀ H' : Hp, Sv ad H H' → TK K H H' → MemAt K H' C am ad (putM m (keyF b o t) ls) → Q (.str (keyF b o t)) H'
section
variable {P : Program} {w : World} {K : PySem.W.Frag} {mg : Str → Option Value} {base : Heap} {t1 t2 t3 t4 t5 : Tok} {C : Addr}
theorem ok_learn {f fK : Addr} {fd fdK : FuncData} (F : Fun K "learn" "Memory.learn" s_Memory_learn f fd) (T0 : Txt0 mg) (cl : Cls K C) (nk : NoAttr K C "kept")
    (D_clash_key : Df K mg "clash_key" s_clash_key ["clash"] fK fdK) (G_clash_key : FnOk P w K mg base CX0 3 fK fdK ["clash"] (spKey K)) : FnOk P w K mg base CX0 4 f fd ["self", "clash", "lines"] (spLearn K C) := by
  refine F.ok sc_Memory_learn (fun vs H Q E h => ?_) (fun cdv A outer s H vs Q E hr h => ?_)
  · obtain ⟨am, ad, a, ll, m, b, o, t, ls, rfl, _⟩ := h
    rfl
  · obtain ⟨am, ad, a, ll, m, b, o, t, ls, rfl, hM, hm, hA, hL, lb, lo, lt, k⟩ := h
    have hu := hu_of hr
    refine ⟨_, (pss_cons (ps_set (i := 3) sc_Memory_learn.nd rfl (Or.inl rfl) (pe_call G_clash_key (hr.mono (by decide)) rfl D_clash_key.m D_clash_key.F.kp D_clash_key.b .nil pass0 (pa_cons (pv 1) pa_nil)))
      (pss_cons (ps_dput hu (pe_fld (pv 0) rfl) (pv 3) (pe_callTy call_tupleT (by rfl) T0.z_tuple (by decide +kernel) (pa_cons (pv 2) pa_nil)) rfl)
      (pss_one (ps_ret (pv 3))))), ?_⟩
    refine ⟨_, rfl, a, b, o, t, rfl, hA, lb, lo, lt, fun H1 s1 => ?_⟩
    obtain ⟨dx, hi⟩ := hM.ins
    obtain ⟨kvs, hk, hkl⟩ := hM.kd
    have hi1 := s1 _ _ hi
    have hk1 := s1 _ _ hk
    have hl1 := hkl.tk (TK.same s1)
    refine ⟨_, rfl, ll, _, rfl, s1.seqT hL, ?_⟩
    have tp : TK K H1 (upd H1 ad (.dK (putK kvs (Sum.inr (keyF b o t)) (.ref ll)))) := tk_dk hk1
    have nai : am ≠ ad := by
      rintro rfl
      rw [hk1] at hi1
      cases hi1
    refine ⟨_, rfl, am, C, dx, _, _, rfl, hi1, cl, nk, rfl, _, rfl, ad, _, rfl, .inl ⟨kvs, Sum.inr (keyF b o t), hk1, rfl, ?_, rfl⟩, ?_⟩
    · rw [hkl.len]
      exact Nat.lt_of_le_of_lt hm (by decide)
    refine ⟨_, rfl, k _ ((Sv.same s1).trans Sv.at_) ((TK.same s1).trans tp) ⟨⟨dx, ?_⟩, _, upd_same, ?_⟩⟩
    · rw [upd_ne nai]; exact hi1
    · exact (hl1.tk tp).put (tp _ _ (s1.seqT hL))
end
abbrev s_Memory_told : Stmt := mthS 33 2
theorem sc_Memory_told : FnScope ["self", "clash"] ["self", "clash"] (defScope s_Memory_told) := ⟨rfl, rfl, rfl, by decide +kernel, rfl, by decide +kernel, by decide +kernel⟩
def spToldM (K : PySem.W.Frag) (C : Addr) : Sp := fun vs H Q _ => ∃ (am ad a : Addr) (m : Mem) (b o t : List Str), vs = [.ref am, .ref a] ∧ MemAt K H C am ad m ∧ Dp K H (.ref a) (partD (.clash b o t)) ∧
  (b.map (·.length)).sum ≤ 100000 ∧ (o.map (·.length)).sum ≤ 100000 ∧ (t.map (·.length)).sum ≤ 100000 ∧
  ∀ (H' : Hp) (v : V), Same H H' → ((lookM m (keyF b o t) = none ∧ v = .non) ∨ ∃ p ls, lookM m (keyF b o t) = some ls ∧ v = .ref p ∧ SqT K H' p (ls.map V.str)) → Q v H'
section
variable {P : Program} {w : World} {K : PySem.W.Frag} {mg : Str → Option Value} {base : Heap} {t1 t2 t3 t4 t5 : Tok} {C : Addr}
theorem ok_toldM {f fK : Addr} {fd fdK : FuncData} (F : Fun K "told" "Memory.told" s_Memory_told f fd) (T0 : Txt0 mg) (cl : Cls K C) (nk : NoAttr K C "kept")
    (D_clash_key : Df K mg "clash_key" s_clash_key ["clash"] fK fdK) (G_clash_key : FnOk P w K mg base CX0 3 fK fdK ["clash"] (spKey K)) : FnOk P w K mg base CX0 4 f fd ["self", "clash"] (spToldM K C) := by
  refine F.ok sc_Memory_told (fun vs H Q E h => ?_) (fun cdv A outer s H vs Q E hr h => ?_)
  · obtain ⟨am, ad, a, m, b, o, t, rfl, _⟩ := h
    rfl
  · obtain ⟨am, ad, a, m, b, o, t, rfl, hM, hA, lb, lo, lt, k⟩ := h
    have hu := hu_of hr
    refine ⟨_, (pss_one (ps_ret (pe_dget1 hu (pe_fld (pv 0) rfl) (pe_call G_clash_key (hr.mono (by decide)) rfl D_clash_key.m D_clash_key.F.kp D_clash_key.b .nil pass0 (pa_cons (pv 1) pa_nil)) ⟨by rfl, by rfl, by rfl, by rfl⟩))), ?_⟩
    obtain ⟨dx, hi⟩ := hM.ins
    obtain ⟨kvs, hk, hkl⟩ := hM.kd
    refine ⟨_, rfl, am, C, dx, _, _, rfl, hi, cl, nk, rfl, ad, rfl, .inl ⟨kvs, .inl hk⟩, _, rfl, a, b, o, t, rfl, hA, lb, lo, lt, fun H1 s1 => ?_⟩
    refine ⟨_, .inl ⟨kvs, Sum.inr (keyF b o t), .inl (s1 _ _ hk), rfl, rfl⟩, ?_⟩
    rcases (hkl.tk (TK.same s1)).val (keyF b o t) with ⟨e1, e2⟩ | ⟨p, ls, e1, e2, e3⟩
    · rw [e1]
      exact k H1 _ s1 (.inl ⟨e2, rfl⟩)
    · rw [e1]
      exact k H1 _ s1 (.inr ⟨p, ls, e2, rfl, e3⟩)
end
abbrev s_Memory_keys_known : Stmt := mthS 33 4
theorem sc_Memory_keys_known : FnScope ["self"] ["self"] (defScope s_Memory_keys_known) := ⟨rfl, rfl, rfl, by decide +kernel, rfl, by decide +kernel, by decide +kernel⟩
def spKnown (K : PySem.W.Frag) (C : Addr) : Sp := fun vs H Q _ => ∃ (am ad : Addr) (m : Mem), vs = [.ref am] ∧ MemAt K H C am ad m ∧ m.length < 64 ∧
  ∀ (H' : Hp) (p : Addr) (ys : List Str), Same H H' → ys.Perm (m.map (·.1)) → PyProof.Rows.sortedS ys = true → H' p = some (.lst (ys.map V.str)) → Q (.ref p) H'
section
variable {P : Program} {w : World} {K : PySem.W.Frag} {mg : Str → Option Value} {base : Heap} {t1 t2 t3 t4 t5 : Tok} {C : Addr}
theorem ok_known {f : Addr} {fd : FuncData} (F : Fun K "keys_known" "Memory.keys_known" s_Memory_keys_known f fd) (z_sorted : mg "sorted" = none) (cl : Cls K C) (nk : NoAttr K C "kept") : FnOk P w K mg base CX0 1 f fd ["self"] (spKnown K C) := by
  refine F.ok sc_Memory_keys_known (fun vs H Q E h => ?_) (fun cdv A outer s H vs Q E hr h => ?_)
  · obtain ⟨am, ad, m, rfl, _⟩ := h
    rfl
  · obtain ⟨am, ad, m, rfl, hM, hm, k⟩ := h
    refine ⟨_, (pss_one (ps_ret (pe_callB (call_sortedD rfl) (by rfl) z_sorted (by decide +kernel) (pa_cons (pe_fld (pv 0) rfl) pa_nil)))), ?_⟩
    obtain ⟨dx, hi⟩ := hM.ins
    obtain ⟨kvs, hk, hkl⟩ := hM.kd
    refine ⟨_, rfl, am, C, dx, _, _, rfl, hi, cl, nk, rfl, ad, kvs, m.map (·.1), rfl, .inl hk, hkl.keys, by rw [List.length_map]; exact hm, fun ys p h1 h2 hp => ?_⟩
    exact k _ p ys (same_new hp) h1 h2 upd_same
end
end VK
end

section
set_option Elab.async false
set_option linter.all false
set_option pp.maxSteps 1500
set_option maxRecDepth 100000
set_option maxHeartbeats 4000000
namespace VK
open PySem L2
/-- a def with its code object -/
structure DfC (K : PySem.W.Frag) (mg : Str → Option Value) (nm : Str) (st : Stmt) (ps : List Str) (f c : Addr) (fd : FuncData) : Prop where
  F : FunC K nm nm st f c fd
  m : mg nm = some (.ref f)
  b : Binds K fd ps []
theorem drop_none {m : Mem} {s : Str} (h : hasM m s = false) : dropM m s = m := by
  unfold dropM
  refine List.filter_eq_self.mpr fun p hp => ?_
  refine decide_eq_true fun e => ?_
  have : hasM m s = true := List.any_eq_true.mpr ⟨p, hp, decide_eq_true e⟩
  rw [h] at this
  cases this
abbrev s_Memory_forget : Stmt := mthS 33 3
theorem sc_Memory_forget : FnScope ["self", "key"] ["self", "key"] (defScope s_Memory_forget) := ⟨rfl, rfl, rfl, by decide +kernel, rfl, by decide +kernel, by decide +kernel⟩
def spForget (K : PySem.W.Frag) (C CI Pn : Addr) : Sp := fun vs H Q E => ∃ (am ad : Addr) (z : Str) (m : Mem), vs = [.ref am, .str z] ∧ z.length ≤ 10000000 ∧ MemAt K H C am ad m ∧ GxR.TabG H Pn ∧
  (nameB z = false → ∀ (H' : Hp) (d : Addr), H' d = some (.xd [(("name" : Str), .str z)]) → E (.ref CI) (some d) H') ∧
  (nameB z = true → ∀ H' : Hp, (∀ a o, a ≠ Pn → a ≠ ad → H a = some o → H' a = some o) → TK K H H' → GxR.TabG H' Pn → MemAt K H' C am ad (dropM m z) → Q (.bl (hasM m z)) H')
section
variable {P : Program} {w : World} {K : PySem.W.Frag} {mg : Str → Option Value} {base : Heap} {t1 t2 t3 t4 t5 : Tok} {C CI fI c Pn : Addr}
theorem ok_forget {f fN : Addr} {fd fdN : FuncData} (F : Fun K "forget" "Memory.forget" s_Memory_forget f fd) (T : PySem.CfX.CfTxt P K mg CI fI) (cl : Cls K C) (nk : NoAttr K C "kept")
    (D_is_name : DfC K mg "is_name" s_is_name ["value"] fN c fdN) (G_is_name : FnOk P w K mg base CX0 3 fN fdN ["value"] (spIsName K Pn)) : FnOk P w K mg base (L2N.CX P w) 4 f fd ["self", "key"] (spForget K C CI Pn) := by
  refine okXN F sc_Memory_forget (fun vs H Q E h => ?_) (fun cdv A outer s H vs Q E hr h => ?_)
  · obtain ⟨am, ad, z, m, rfl, _⟩ := h
    rfl
  · obtain ⟨am, ad, z, m, rfl, hz, hM, tab, kE, k⟩ := h
    refine ⟨_, (pss_cons (ps_if (pt_not (pt_val (pe_call G_is_name (hr.mono (by decide)) rfl D_is_name.m D_is_name.F.kp D_is_name.b .nil pass0 (pa_cons (pv 1) pa_nil))))
        (pss_one (L2N.ps_raise rfl (L2N.takes_of rfl rfl rfl rfl) (pmk_cf T hr (by exact (pa_cons (pv 1) pa_nil)))))
        pss_nil)
      (pss_one (ps_ret (pe_cmpR op_notN (pe_dpop2 (pe_fld (pv 0) rfl) (pv 1) pe_non ⟨by rfl, by rfl, by rfl, by rfl⟩) pe_non (nomark _))))), ?_⟩
    obtain ⟨dx, hi⟩ := hM.ins
    obtain ⟨kvs, hk, hkl⟩ := hM.kd
    obtain ⟨tps, etp, otp⟩ := tab
    have nai : am ≠ Pn := by rintro rfl; rw [hi] at etp; cases etp
    have nad : ad ≠ Pn := by rintro rfl; rw [hk] at etp; cases etp
    have ndi : am ≠ ad := by rintro rfl; rw [hk] at hi; cases hi
    refine ⟨_, rfl, z, rfl, hz, ⟨tps, etp, otp⟩, fun H1 s1 tb1 => ?_⟩
    have t1 : TK K H H1 := fun a xs q => sv_sqt s1 ⟨tps, etp, otp⟩ q
    have hi1 := s1 _ _ nai hi
    have hk1 := s1 _ _ nad hk
    have hl1 := hkl.tk t1
    obtain ⟨ps1, et1, ot1⟩ := tb1
    refine ⟨_, rfl, ?_⟩
    cases hb : nameB z with
    | false =>
      refine ite2 (fun _ => ?_) (fun e => absurd rfl e)
      exact ⟨_, rfl, _, rfl, fun d hd => kE hb _ d upd_same⟩
    | true =>
      refine ite2 (fun e => absurd e (by decide)) (fun _ => ?_)
      have tk2 : TK K H1 (upd H1 ad (.dK (dropK kvs (Sum.inr z)))) := tk_dk hk1
      refine ⟨_, rfl, am, C, dx, _, _, rfl, hi1, cl, nk, rfl, ad, rfl, .inl ⟨kvs, .inl hk1⟩, _, rfl, kvs, Sum.inr z, hk1, rfl, fun v hv => ⟨rfl, ?_⟩, fun hv => ⟨rfl, ?_⟩⟩
      · rcases hl1.val z with ⟨e1, _⟩ | ⟨p, ls, e1, e2, _⟩
        · rw [e1] at hv; cases hv
        have ev : v = .ref p := Option.some.inj (hv.symm.trans e1)
        subst ev
        have q := k hb _ (fun a o n1 n2 e => by rw [upd_ne n2]; exact s1 _ _ n1 e) (t1.trans tk2) ⟨ps1, by rw [upd_ne (Ne.symm nad)]; exact et1, ot1⟩ ⟨⟨dx, by rw [upd_ne ndi]; exact hi1⟩, _, upd_same, (hl1.drop z).tk tk2⟩
        rw [has_look, e2] at q
        exact q
      · rcases hl1.val z with ⟨e1, e2⟩ | ⟨p, ls, e1, _⟩
        · have hn : hasM m z = false := by rw [has_look, e2]; rfl
          have q := k hb H1 (fun a o n1 _ e => s1 _ _ n1 e) t1 ⟨ps1, et1, ot1⟩ ⟨⟨dx, hi1⟩, kvs, hk1, by rw [drop_none hn]; exact hl1⟩
          rw [hn] at q
          exact q
        · rw [e1] at hv; cases hv
end
end VK
end

section
set_option Elab.async false
set_option linter.all false
set_option pp.maxSteps 1500
set_option maxRecDepth 100000
set_option maxHeartbeats 4000000
namespace VK
open PySem L2
/-- a part, settled where its clash is known -/
def setM (m : Mem) : Part → Part
  | .same ls => .same ls
  | .clash b o t => match lookM m (keyF b o t) with
    | some ls => .same ls
    | none => .clash b o t
/-- what settle does with the next part -/
def stepS (found : List Part) (p : Part) : List Part := match p with
  | .clash b o t => found ++ [.clash b o t]
  | .same ls => match found.getLast? with
    | some (.same xs) => found.dropLast ++ [.same (xs ++ ls)]
    | _ => found ++ [.same ls]
def keepP : Part → Bool
  | .same ls => !ls.isEmpty
  | .clash _ _ _ => true
/-- no two same parts side by side at the end -/
def altE (found : List Part) : Prop := ∀ init xs, found = init ++ [.same xs] → ∀ ys, init.getLast? ≠ some (.same ys)
theorem altE_clash {found : List Part} {b o t : List Str} : altE (found ++ [.clash b o t]) := fun init xs e => by
  have q := congrArg List.getLast? e
  rw [List.getLast?_append, List.getLast?_append] at q
  simp at q
theorem getLast?_snoc {α : Type} (l : List α) (x : α) : (l ++ [x]).getLast? = some x := by simp
theorem step_ok {found : List Part} (p : Part) (ha : altE found) : (stepS found p).filter keepP = addPart (found.filter keepP) p ∧ altE (stepS found p) := by
  cases p with
  | clash b o t =>
    refine ⟨?_, altE_clash⟩
    show (found ++ [Part.clash b o t]).filter keepP = _
    rw [List.filter_append]
    rfl
  | same ls =>
    have nilF : [Part.same ls].filter keepP = if ls = [] then [] else [.same ls] := by
      cases ls with
      | nil => rfl
      | cons x r => rfl
    rcases List.eq_nil_or_concat found with rfl | ⟨init, q, rfl⟩
    · refine ⟨?_, ?_⟩
      · show [Part.same ls].filter keepP = addPart [] (.same ls)
        rw [nilF]
        cases ls with
        | nil => rfl
        | cons x r => rfl
      · intro i xs e ys
        have e1 : ([] : List Part) ++ [Part.same ls] = i ++ [.same xs] := e
        obtain ⟨rfl, _⟩ := List.append_inj' e1 rfl
        simp
    · rw [List.concat_eq_append] at *
      cases q with
      | clash b o t =>
        have es : stepS (init ++ [.clash b o t]) (.same ls) = init ++ [.clash b o t] ++ [.same ls] := by
          show (match (init ++ [Part.clash b o t]).getLast? with | some (.same xs) => _ | _ => _) = _
          rw [getLast?_snoc]
        rw [es]
        refine ⟨?_, ?_⟩
        · rw [List.filter_append, nilF]
          have ef : (init ++ [Part.clash b o t]).filter keepP = init.filter keepP ++ [.clash b o t] := by rw [List.filter_append]; rfl
          rw [ef]
          cases ls with
          | nil =>
            rw [if_pos rfl, List.append_nil]
            rfl
          | cons x r =>
            rw [if_neg (by simp)]
            show _ = (match (init.filter keepP ++ [Part.clash b o t]).getLast? with | some (.same xs) => _ | _ => _)
            rw [getLast?_snoc]
        · intro i xs e ys
          obtain ⟨rfl, _⟩ := List.append_inj' e rfl
          rw [getLast?_snoc]
          simp
      | same xs =>
        have es : stepS (init ++ [.same xs]) (.same ls) = init ++ [.same (xs ++ ls)] := by
          show (match (init ++ [Part.same xs]).getLast? with | some (.same xs) => _ | _ => _) = _
          rw [getLast?_snoc]
          show (init ++ [Part.same xs]).dropLast ++ _ = _
          rw [List.dropLast_concat]
        rw [es]
        have hl := ha init xs rfl
        refine ⟨?_, ?_⟩
        · rw [List.filter_append]
          cases xs with
          | cons x r =>
            have ef : (init ++ [Part.same (x :: r)]).filter keepP = init.filter keepP ++ [.same (x :: r)] := by rw [List.filter_append]; rfl
            rw [ef]
            have e2 : [Part.same (x :: r ++ ls)].filter keepP = [.same (x :: r ++ ls)] := rfl
            rw [e2]
            cases ls with
            | nil =>
              rw [List.append_nil]
              rfl
            | cons y t =>
              show _ = (match (init.filter keepP ++ [Part.same (x :: r)]).getLast? with | some (.same xs) => _ | _ => _)
              rw [getLast?_snoc]
              show _ = (init.filter keepP ++ [Part.same (x :: r)]).dropLast ++ _
              rw [List.dropLast_concat]
          | nil =>
            have ef : (init ++ [Part.same []]).filter keepP = init.filter keepP := by rw [List.filter_append]; exact List.append_nil _
            rw [ef, List.nil_append, nilF]
            cases ls with
            | nil =>
              rw [if_pos rfl, List.append_nil]
              rfl
            | cons y t =>
              rw [if_neg (by simp)]
              show _ = (match (init.filter keepP).getLast? with | some (.same xs) => _ | _ => _)
              have hn : ∀ ys, (init.filter keepP).getLast? ≠ some (.same ys) := by
                rcases List.eq_nil_or_concat init with rfl | ⟨i2, q2, rfl⟩
                · intro ys; simp
                · rw [List.concat_eq_append] at *
                  cases q2 with
                  | same zs => exact absurd (getLast?_snoc i2 (Part.same zs)) (hl zs)
                  | clash b o t2 =>
                    have ef2 : (i2 ++ [Part.clash b o t2]).filter keepP = i2.filter keepP ++ [.clash b o t2] := by rw [List.filter_append]; rfl
                    rw [ef2]
                    intro ys
                    rw [getLast?_snoc]
                    simp
              split
              · next zs h => exact absurd h (hn zs)
              · rfl
        · intro i zs e ys
          obtain ⟨rfl, _⟩ := List.append_inj' e rfl
          exact hl ys
theorem steps_ok : ∀ (ps found : List Part), altE found → (ps.foldl stepS found).filter keepP = ps.foldl addPart (found.filter keepP)
  | [], found, _ => rfl
  | p :: r, found, h => by
    obtain ⟨h1, h2⟩ := step_ok p h
    rw [List.foldl_cons, List.foldl_cons, steps_ok r _ h2, h1]
theorem settle_eq (ps : List Part) : (ps.foldl stepS []).filter keepP = tidyF ps := steps_ok ps [] fun init xs e => by simp at e
/-! sizes -/
theorem step_len (found : List Part) (p : Part) : (stepS found p).length ≤ found.length + 1 := by
  cases p with
  | clash b o t => show (found ++ _).length ≤ _; rw [List.length_append]; exact Nat.le_refl _
  | same ls =>
    rcases List.eq_nil_or_concat found with rfl | ⟨init, q, rfl⟩
    · exact Nat.le_refl _
    · rw [List.concat_eq_append]
      unfold stepS
      rw [getLast?_snoc]
      cases q with
      | same xs => simp
      | clash b o t => simp
theorem step_plP {found : List Part} {p : Part} {m k : Nat} (h : ∀ q ∈ found, plP q ≤ m) (hp : plP p ≤ k) : ∀ q ∈ stepS found p, plP q ≤ m + k := by
  have h' : ∀ q ∈ found, plP q ≤ m + k := fun q hq => Nat.le_trans (h q hq) (Nat.le_add_right _ _)
  cases p with
  | clash b o t =>
    intro q hq
    rcases List.mem_append.mp hq with hq | hq
    · exact h' q hq
    · rw [List.mem_singleton.mp hq]; omega
  | same ls =>
    rcases List.eq_nil_or_concat found with rfl | ⟨init, x, rfl⟩
    · intro q hq
      rw [List.mem_singleton.mp (show q ∈ [Part.same ls] from hq)]; omega
    · rw [List.concat_eq_append] at *
      unfold stepS
      rw [getLast?_snoc]
      cases x with
      | same xs =>
        intro q hq
        have hq : q ∈ (init ++ [Part.same xs]).dropLast ++ [.same (xs ++ ls)] := hq
        rw [List.dropLast_concat] at hq
        rcases List.mem_append.mp hq with hq | hq
        · exact h' q (List.mem_append_left _ hq)
        · rw [List.mem_singleton.mp hq]
          have q1 : xs.length ≤ m := h (.same xs) (List.mem_append_right _ (List.mem_singleton.mpr rfl))
          have q2 : ls.length ≤ k := hp
          show (xs ++ ls).length ≤ m + k
          rw [List.length_append]
          omega
      | clash b o t =>
        intro q hq
        rcases List.mem_append.mp (show q ∈ (init ++ [Part.clash b o t]) ++ [.same ls] from hq) with hq | hq
        · exact h' q hq
        · rw [List.mem_singleton.mp hq]; omega
theorem steps_sz {k : Nat} : ∀ (ps found : List Part) (m : Nat), (∀ q ∈ found, plP q ≤ m) → (∀ q ∈ ps, plP q ≤ k) → (ps.foldl stepS found).length ≤ found.length + ps.length ∧ ∀ q ∈ ps.foldl stepS found, plP q ≤ m + ps.length * k
  | [], found, m, h, _ => ⟨Nat.le_refl _, fun q hq => Nat.le_trans (h q hq) (Nat.le_add_right _ _)⟩
  | p :: r, found, m, h, hp => by
    obtain ⟨h1, h2⟩ := steps_sz r (stepS found p) (m + k) (step_plP h (hp p (List.mem_cons_self ..))) fun q hq => hp q (List.mem_cons_of_mem _ hq)
    have q1 := step_len found p
    rw [List.foldl_cons, List.length_cons]
    refine ⟨by omega, fun q hq => Nat.le_trans (h2 q hq) ?_⟩
    rw [Nat.add_mul]
    omega
end VK
end

section
set_option Elab.async false
set_option linter.all false
set_option pp.maxSteps 1500
set_option maxRecDepth 100000
set_option maxHeartbeats 4000000
namespace VK
open PySem L2
theorem pt_truthQ {X : Cx} {K : PySem.W.Frag} (hK : X.K = K) {a : Expr} {ta : TE} (ha : PE X a ta) (he : ∀ whole, isTrue a X.env whole = (do let v ← whole; standAt a.pos; holding [v] (truthy v))) :
    PT X a (fun σ H Q => ta σ H fun x H' => ∃ k, TruV K x H' k ∧ Q k H') := by
  subst hK
  exact pt_truth ha he
theorem tag_same (p : Part) : decide (V.str (tagP p) = V.str ("same" : Str)) = isS p := by
  cases p with
  | same ls => rfl
  | clash b o t =>
    show decide (V.str ("clash" : Str) = V.str ("same" : Str)) = false
    decide +kernel
theorem tag_clash (p : Part) : decide (V.str (tagP p) = V.str ("clash" : Str)) = !isS p := by
  cases p with
  | same ls =>
    show decide (V.str ("same" : Str) = V.str ("clash" : Str)) = false
    decide +kernel
  | clash b o t => rfl
theorem setM_none {m : Mem} {b o t : List Str} (h : lookM m (keyF b o t) = none) : setM m (.clash b o t) = .clash b o t := by
  show (match lookM m (keyF b o t) with | some ls => _ | none => _) = _
  rw [h]
theorem setM_some {m : Mem} {b o t ls : List Str} (h : lookM m (keyF b o t) = some ls) : setM m (.clash b o t) = .same ls := by
  show (match lookM m (keyF b o t) with | some ls => _ | none => _) = _
  rw [h]
abbrev s_Memory_settle : Stmt := mthS 33 5
theorem sc_Memory_settle : FnScope ["self", "parts", "found", "part", "lines"] ["self", "parts"] (defScope s_Memory_settle) := ⟨rfl, rfl, rfl, by decide +kernel, rfl, by decide +kernel, by decide +kernel⟩
/-- the lines of a clash are few -/
def smP : Part → Prop
  | .same _ => True
  | .clash b o t => (b.map (·.length)).sum ≤ 100000 ∧ (o.map (·.length)).sum ≤ 100000 ∧ (t.map (·.length)).sum ≤ 100000
def spSettle (K : PySem.W.Frag) (C : Addr) : Sp := fun vs H Q _ => ∃ (am ad a : Addr) (m : Mem) (ps : List Part), vs = [.ref am, .ref a] ∧ MemAt K H C am ad m ∧ Dp K H (.ref a) (partsD ps) ∧ ps.length ≤ 100 ∧ (∀ p ∈ ps, smP p) ∧ (∀ q ∈ ps.map (setM m), plP q ≤ 40000) ∧
  ∀ (H' : Hp) (v : V), Same H H' → Dp K H' v (partsD (tidyF (ps.map (setM m)))) → Q v H'
section
variable {P : Program} {w : World} {K : PySem.W.Frag} {mg : Str → Option Value} {base : Heap} {t1 t2 t3 t4 t5 : Tok} {C : Addr}
theorem ok_settle {f fT : Addr} {fd fdT : FuncData} (F : Fun K "settle" "Memory.settle" s_Memory_settle f fd) (T0 : Txt0 mg) (cl : Cls K C)
    (M_told : MtD K C "told" "Memory.told" s_Memory_told ["self", "clash"] fT fdT) (G_told : FnOk P w K mg base CX0 4 fT fdT ["self", "clash"] (spToldM K C)) : FnOk P w K mg base CX0 5 f fd ["self", "parts"] (spSettle K C) := by
  refine F.ok sc_Memory_settle (fun vs H Q E h => ?_) (fun cdv A outer s H vs Q E hr h => ?_)
  · obtain ⟨am, ad, a, m, ps, rfl, _⟩ := h
    rfl
  · obtain ⟨am, ad, a, m, ps, rfl, hM, hA, hpl, hsm, hsz, k⟩ := h
    refine ⟨_, (pss_cons (ps_set (i := 2) sc_Memory_settle.nd rfl (Or.inl rfl) (pe_lst pa_nil))
      (pss_cons (ps_for PassesOwn.never rfl (pi_tup (pv 1)) (pg_name (i := 3) sc_Memory_settle.nd rfl (Or.inl rfl))
        (pss_cons (ps_set (i := 4) sc_Memory_settle.nd rfl (Or.inl rfl) (pe_ifExp (pt_cmpR op_eq (pe_ix ix_tup (pv 3) pe_int (fun _ _ => rfl)) pe_str (nomark _)) (pe_ix ix_tup (pv 3) pe_int (fun _ _ => rfl)) (pe_meth (pv 0) cl M_told.m G_told (hr.mono (by decide)) M_told.b .nil pass0 (pa_cons (pv 3) pa_nil))))
        (pss_one (ps_if (pt_cmpR op_isN (pv 4) pe_non (nomark _))
          (pss_one (ps_expr (pe_bm PySem.F.plainAttrs_list PySem.F.slot_list_append PySem.F.type_list_append mt_append (pv 2) (pa_cons (pv 3) pa_nil))))
          (pss_one (ps_if (PW.pt (pw_and (pt_truth (pv 2) (by intro _; rfl)) (pw_and1 (pt_cmpR op_eq (pe_ix ix_tup (pe_ix ix_list (pv 2) (pe_un un_neg pe_int) (fun _ _ => rfl)) pe_int (fun _ _ => rfl)) pe_str (nomark _)))))
            (pss_one (ps_asg (pe_tup (pa_cons pe_str (pa_cons (pe_op op_catA (pe_ix ix_tup (pe_ix ix_list (pv 2) (pe_un un_neg pe_int) (fun _ _ => rfl)) pe_int (fun _ _ => rfl)) (pv 4)) pa_nil))) (pg_sub (pv 2) (pe_un un_neg pe_int) set_list)))
            (pss_one (ps_expr (pe_bm PySem.F.plainAttrs_list PySem.F.slot_list_append PySem.F.type_list_append mt_append (pv 2) (pa_cons (pe_tup (pa_cons pe_str (pa_cons (pv 4) pa_nil))) pa_nil))))))))))
      (pss_one (ps_ret (pe_callTy call_tuple_of (by rfl) T0.z_tuple (by decide +kernel) (pa_cons (pe_lc (own := [("part", 3)]) (g := gName 3) (tt := _) rfl sc_Memory_settle.nd (pi_list (pv 2)) (blkOk_by (own := [("part", 3)]) (N := ["self", "parts", "found", "part", "lines"]) (sc := defScope s_Memory_settle) (by decide +kernel)) (fun _ _ _ _ _ => (pg_name (i := 3) sc_Memory_settle.nd rfl (Or.inl rfl))) (fun _ _ _ _ _ => by exact (pts_one (PW.pt (pw_or (pt_cmpR op_eq (pe_ix (ix_tupQ (K := K) rfl) (pv 3) pe_int (fun _ _ => rfl)) pe_str (nomark _)) (pw_or1 (pt_truthQ (K := K) rfl (pe_ix (ix_tupQ (K := K) rfl) (pv 3) pe_int (fun _ _ => rfl)) (by intro _; rfl))))))) (fun _ _ _ _ _ => (pv 3))) pa_nil)))))), ?_⟩
    obtain ⟨a', ws, ea, ha, hd⟩ := of_tupD hA
    cases ea
    have lw : ws.length = ps.length := by rw [dpAll_len hd, List.length_map]
    refine ⟨by show 0 ≤ sizeLine; decide, fun fo hfo => ?_⟩
    have s0 : Same H (upd H fo (.lst [])) := same_new hfo
    have tadd : ∀ (dn : List Part) (p : Part), (dn ++ [p]).foldl stepS [] = stepS (dn.foldl stepS []) p := fun dn p => by rw [List.foldl_append]; rfl
    refine ⟨_, rfl, a, rfl, ⟨_, s0.seqT ha⟩, ?_⟩
    refine for_it (walk_tup (xs := ws)) (fun c σ H' => ∃ (vs : List V) (x3 x4 : Option V), σ = [some (.ref am), some (.ref a), some (.ref fo), x3, x4] ∧ Same H H' ∧ H' fo = some (.lst vs) ∧ DpAll K H' vs ((((ps.take c).map (setM m)).foldl stepS []).map partD)) ?_ (fun c σ H' _ h => ?_) ?_ ?_
    · exact ⟨[], none, none, rfl, s0, upd_same, .nil⟩
    · obtain ⟨vs, x3, x4, rfl, h1, h2⟩ := h
      exact h1.seqT ha
    · rintro c x σ H5o H5 hc ⟨vs, x3, x4, rfl, sm, hv, hdd⟩ ⟨rfl, hx⟩
      have hcf : c < ps.length := by rw [← lw]; exact hc
      obtain ⟨p, hp⟩ : ∃ p, p = ps[c] := ⟨_, rfl⟩
      have hf : ps[c]? = some p := by rw [List.getElem?_eq_getElem hcf, hp]
      have hpm := List.mem_of_getElem? hf
      obtain ⟨v, hv1, hv2⟩ := dpAll_at (parts_keep (TK.same sm) hd) (k := c) (d := partD p) (by rw [List.getElem?_map, hf]; rfl)
      obtain rfl : v = x := Option.some.inj (hv1.symm.trans hx)
      have etk : (ps.take (c + 1)).map (setM m) = (ps.take c).map (setM m) ++ [setM m p] := by rw [List.take_succ, hf, Option.toList_some, List.map_append]; rfl
      obtain ⟨q1, q2⟩ := steps_sz (k := 40000) ((ps.take c).map (setM m)) [] 0 (fun _ hq => nomatch hq) fun q hq => by
        obtain ⟨r, hr, rfl⟩ := List.mem_map.mp hq
        exact hsz _ (List.mem_map_of_mem (List.mem_of_mem_take hr))
      rw [List.length_map, List.length_take] at q1 q2
      have q3 : ∀ q ∈ ((ps.take c).map (setM m)).foldl stepS [], plP q ≤ 4000000 := fun q hq => Nat.le_trans (q2 q hq) (by
        have : min c ps.length * 40000 ≤ 100 * 40000 := Nat.mul_le_mul_right _ (by omega)
        omega)
      obtain ⟨tf, etf⟩ : ∃ tf, tf = ((ps.take c).map (setM m)).foldl stepS [] := ⟨_, rfl⟩
      rw [← etf] at hdd q1 q2 q3
      have lvs : vs.length = tf.length := by rw [dpAll_len hdd, List.length_map]
      have lvz : vs.length < sizeLine := Nat.lt_of_le_of_lt (show vs.length ≤ 1000 by rw [lvs]; rw [List.length_nil] at q1; omega) (by decide)
      obtain ⟨z, r, rfl, hz⟩ := of_part hv2
      refine cut (fun σ' H' => ∃ lv : V, σ' = [some (.ref am), some (.ref a), some (.ref fo), some (.ref z), some lv] ∧ Same H H' ∧ H' fo = some (.lst vs) ∧ DpAll K H' vs (tf.map partD) ∧ Dp K H' (.ref z) (partD p) ∧ ((lv = .non ∧ setM m p = p ∧ isS p = false) ∨ ∃ y ls, lv = .ref y ∧ SqT K H' y (ls.map V.str) ∧ setM m p = .same ls)) (fun nx hn => ?_) ?_
      · refine ⟨_, rfl, z, _, _, _, rfl, rfl, hz, at_head, rfl, _, rfl, ?_⟩
        cases p with
        | same ls =>
          rw [tag_same]
          refine ite2 (fun _ => ?_) (fun e => absurd rfl e)
          obtain ⟨z', y, ez, hz2, hy⟩ := of_same hv2
          cases ez
          refine ⟨_, rfl, z, _, _, _, rfl, rfl, hz2, rfl, ?_⟩
          exact hn _ _ ⟨_, rfl, sm, hv, hdd, hv2, .inr ⟨y, ls, rfl, hy, rfl⟩⟩
        | clash b o t =>
          refine ite2 (fun e => by rw [tag_same] at e; cases e) (fun _ => ?_)
          obtain ⟨l1, l2, l3⟩ := hsm _ hpm
          obtain ⟨dx, hi⟩ := hM.ins
          refine ⟨_, rfl, am, dx, _, rfl, sm _ _ hi, rfl, _, rfl, am, ad, z, m, b, o, t, rfl, ⟨⟨dx, sm _ _ hi⟩, hM.kd.same sm⟩, hv2, l1, l2, l3, fun H6 lv s6 hlv => ?_⟩
          refine hn _ _ ⟨lv, rfl, sm.trans s6, s6 _ _ hv, parts_keep (TK.same s6) hdd, dp_keep (TK.same s6) _ _ (imm_part _) hv2, ?_⟩
          rcases hlv with ⟨e1, rfl⟩ | ⟨y, ls, e1, rfl, hy⟩
          · exact .inl ⟨rfl, setM_none e1, rfl⟩
          · exact .inr ⟨y, ls, rfl, hy, setM_some e1⟩
      rintro σ6 H6 ⟨lv, rfl, sm6, hv6, hdd6, hz6, hlv⟩
      rcases hlv with ⟨rfl, es, ep⟩ | ⟨y, ls, rfl, hy, es⟩
      · refine ⟨_, rfl, rfl, _, rfl, ?_⟩
        refine ite2 (fun _ => ?_) (fun e => absurd (decide_eq_true rfl) e)
        refine ⟨_, rfl, .inl ⟨rfl, _, SqL.of hv6⟩, _, rfl, fo, vs, _, rfl, rfl, hv6, lvz, ?_⟩
        refine ⟨vs ++ [.ref z], _, _, rfl, same_mut sm6 hfo, upd_same, ?_⟩
        rw [etk, tadd, ← etf, es]
        have e : stepS tf p = tf ++ [p] := by
          cases p with
          | same ls => cases ep
          | clash b o t => rfl
        rw [e, List.map_append]
        exact dpAll_app (parts_keep (TK.lst hv6) hdd6) (dpAll_one (dp_keep (TK.lst hv6) _ _ (imm_part p) hz6))
      · refine ⟨_, rfl, rfl, _, rfl, ?_⟩
        refine ite2 (fun e => nomatch (of_decide_eq_true e)) (fun _ => ?_)
        have lls : ls.length ≤ 40000 := by
          have q := hsz _ (List.mem_map_of_mem (f := setM m) hpm)
          rw [es] at q
          exact q
        have newOne : ∀ (H7 : Hp) (q : Addr), H6 q = none → stepS tf (.same ls) = tf ++ [.same ls] → H7 = upd H6 q (.tup [.str "same", .ref y]) → DpAll K (upd H7 fo (.lst (vs ++ [.ref q]))) (vs ++ [.ref q]) ((stepS tf (.same ls)).map partD) := fun H7 q hq e e7 => by
          subst e7
          have h3 : upd H6 q (.tup [.str "same", .ref y]) fo = some (.lst vs) := by rw [upd_ne (ne_of_none hv6 hq)]; exact hv6
          have tk := (TK.new (K := K) (o := .tup [.str "same", .ref y]) hq).trans (TK.lst (o := .lst (vs ++ [.ref q])) h3)
          rw [e, List.map_append]
          exact dpAll_app (parts_keep tk hdd6) (dpAll_one (dp_same (b := y) (TK.lst h3 _ _ (.inl (.inl upd_same))) (tk _ _ hy)))
        rcases List.eq_nil_or_concat tf with e0 | ⟨init, x, e0⟩
        · have e1 : vs = [] := List.eq_nil_of_length_eq_zero (by rw [lvs, e0]; rfl)
          subst e1
          refine ⟨_, rfl, _, .inl ⟨_, SqL.of hv6, rfl⟩, ?_⟩
          refine iteF ?_
          refine iteF ?_
          refine ⟨_, rfl, .inl ⟨rfl, _, SqL.of hv6⟩, _, rfl, by show 2 ≤ sizeLine; decide, fun q hq => ?_⟩
          refine ⟨fo, _, _, rfl, rfl, by rw [upd_ne (ne_of_none hv6 hq)]; exact hv6, lvz, ?_⟩
          refine ⟨_, _, _, rfl, same_mut (sm6.trans (same_new hq)) hfo, upd_same, ?_⟩
          rw [etk, tadd, ← etf, es]
          exact newOne _ q hq (by rw [e0]; rfl) rfl
        · rw [List.concat_eq_append] at e0
          obtain ⟨v0, vr, evs⟩ : ∃ v0 vr, vs = v0 :: vr := by
            cases vs with
            | nil => rw [e0, List.length_append] at lvs; simp at lvs
            | cons v0 vr => exact ⟨v0, vr, rfl⟩
          have enE : (!vs.isEmpty) = true := by rw [evs]; rfl
          refine ⟨_, rfl, _, .inl ⟨_, SqL.of hv6, rfl⟩, ?_⟩
          rw [enE]
          refine iteT ?_
          rw [e0, List.map_append] at hdd6
          obtain ⟨us, w', rfl, hd1, hdv⟩ := dpAll_split hdd6
          obtain ⟨zz, rr, rfl, hzz⟩ := of_part hdv
          refine ⟨_, rfl, _, rfl, fo, _, _, _, rfl, rfl, SqL.of hv6, at_last, zz, _, _, _, rfl, rfl, hzz, at_head, rfl, _, rfl, ?_⟩
          cases x with
          | clash b o t =>
            refine iteF ?_
            refine ⟨_, rfl, .inl ⟨rfl, _, SqL.of hv6⟩, _, rfl, by show 2 ≤ sizeLine; decide, fun q hq => ?_⟩
            refine ⟨fo, _, _, rfl, rfl, by rw [upd_ne (ne_of_none hv6 hq)]; exact hv6, lvz, ?_⟩
            refine ⟨_, _, _, rfl, same_mut (sm6.trans (same_new hq)) hfo, upd_same, ?_⟩
            rw [etk, tadd, ← etf, es]
            have est : stepS tf (.same ls) = tf ++ [.same ls] := by
              rw [e0]
              show (match (init ++ [Part.clash b o t]).getLast? with | some (.same xs) => _ | _ => _) = _
              rw [getLast?_snoc]
            have h3 : upd H6 q (.tup [.str "same", .ref y]) fo = some (.lst (us ++ [.ref zz])) := by rw [upd_ne (ne_of_none hv6 hq)]; exact hv6
            have tk := (TK.new (K := K) (o := .tup [.str "same", .ref y]) hq).trans (TK.lst (o := .lst (us ++ [.ref zz] ++ [.ref q])) h3)
            rw [est, e0, List.map_append, List.map_append]
            exact dpAll_app (dpAll_app (parts_keep tk hd1) (dpAll_one (dp_keep tk _ _ (imm_part _) hdv))) (dpAll_one (dp_same (b := y) (TK.lst h3 _ _ (.inl (.inl upd_same))) (tk _ _ hy)))
          | same xs =>
            refine iteT ?_
            obtain ⟨zz', yy, ezz, hzz2, hyy⟩ := of_same hdv
            cases ezz
            have q1 : xs.length ≤ 4000000 := q3 (.same xs) (by rw [e0]; exact List.mem_append_right _ (List.mem_singleton.mpr rfl))
            refine ⟨_, rfl, _, rfl, fo, _, _, _, rfl, rfl, SqL.of hv6, at_last, zz, _, _, _, rfl, rfl, hzz2, rfl, _, rfl, ?_⟩
            refine cat_linesB hyy hy (by omega) fun H2 p2 s2 hp2 => ⟨by show 2 ≤ sizeLine; decide, fun q hq => ?_⟩
            have hv2' : H2 fo = some (.lst (us ++ [.ref zz])) := s2 _ _ hv6
            have n : fo ≠ q := ne_of_none hv2' hq
            have h3 : upd H2 q (.tup [.str "same", .ref p2]) fo = some (.lst (us ++ [.ref zz])) := by rw [upd_ne n]; exact hv2'
            refine ⟨_, rfl, _, rfl, fo, _, _, _, rfl, rfl, h3, ix_last, ?_⟩
            rw [set_last]
            have tk := (TK.same s2).trans ((TK.new (K := K) (o := .tup [.str "same", .ref p2]) hq).trans (TK.lst (o := .lst (us ++ [.ref q])) h3))
            refine ⟨us ++ [.ref q], _, _, rfl, same_mut (sm6.trans (s2.trans (same_new hq))) hfo, upd_same, ?_⟩
            have e : stepS (init ++ [Part.same xs]) (.same ls) = init ++ [.same (xs ++ ls)] := by
              show (match (init ++ [Part.same xs]).getLast? with | some (.same xs) => _ | _ => _) = _
              rw [getLast?_snoc]
              show (init ++ [Part.same xs]).dropLast ++ _ = _
              rw [List.dropLast_concat]
            rw [etk, tadd, ← etf, es, e0, e, List.map_append]
            refine dpAll_app (parts_keep tk hd1) (dpAll_one (dp_same (b := p2) (TK.lst h3 _ _ (.inl (.inl upd_same))) ?_))
            exact ((TK.new hq).trans (TK.lst h3)) _ _ hp2
    · rintro σ H5 ⟨vs, x3, x4, rfl, sm, hv, hdd⟩
      rw [lw, List.take_length] at hdd
      obtain ⟨tf, etf⟩ : ∃ tf, tf = (ps.map (setM m)).foldl stepS [] := ⟨_, rfl⟩
      rw [← etf] at hdd
      have lv : vs.length = tf.length := by rw [dpAll_len hdd, List.length_map]
      refine ⟨_, rfl, fo, rfl, ⟨_, SqL.of hv⟩, fun D hD => ?_⟩
      refine lc_list (xs := vs) (fun t H' => ∃ ys, H' D = some (.lst ys) ∧ Same H5 H' ∧ DpAll K H' ys (((tf.take t).filter keepP).map partD)) ⟨[], upd_same, same_new hD, .nil⟩ (fun t H' _ h => by obtain ⟨ys, h1, h2, h3⟩ := h; exact SqL.of (h2 _ _ hv)) ?_ ?_
      · rintro t x H8 hx ⟨ys, hys, s8, hd8⟩
        have ht : t < tf.length := by rw [← lv]; exact (List.getElem?_eq_some_iff.mp hx).1
        obtain ⟨p, hp⟩ : ∃ p, p = tf[t] := ⟨_, rfl⟩
        have hrt : tf[t]? = some p := by rw [List.getElem?_eq_getElem ht, hp]
        obtain ⟨v, hv1, hv2⟩ := dpAll_at (parts_keep (TK.same s8) hdd) (k := t) (d := partD p) (by rw [List.getElem?_map, hrt]; rfl)
        obtain rfl : v = x := Option.some.inj (hv1.symm.trans hx)
        have etk : tf.take (t + 1) = tf.take t ++ [p] := by rw [List.take_succ, hrt]; rfl
        have lys : ys.length < 1000 := by
          rw [dpAll_len hd8, List.length_map]
          have q1 := List.length_filter_le keepP (tf.take t)
          obtain ⟨q2, _⟩ := steps_sz (k := 40000) (ps.map (setM m)) [] 0 (fun _ hq => nomatch hq) hsz
          rw [← etf, List.length_nil, List.length_map] at q2
          rw [List.length_take] at q1
          omega
        obtain ⟨z, r, rfl, hz⟩ := of_part hv2
        have keep : keepP p = true → ∃ ys', upd H8 D (.lst (ys ++ [.ref z])) D = some (.lst ys') ∧ Same H5 (upd H8 D (.lst (ys ++ [.ref z]))) ∧ DpAll K (upd H8 D (.lst (ys ++ [.ref z]))) ys' (((tf.take (t + 1)).filter keepP).map partD) := fun kp => by
          refine ⟨_, upd_same, same_mut s8 hD, ?_⟩
          have ef : [p].filter keepP = [p] := List.filter_cons_of_pos kp
          rw [etk, List.filter_append, ef, List.map_append]
          exact dpAll_app (parts_keep (TK.lst hys) hd8) (dpAll_one (dp_keep (TK.lst hys) _ _ (imm_part p) hv2))
        refine ⟨rfl, _, rfl, z, _, _, _, rfl, rfl, hz, at_head, rfl, _, rfl, ?_⟩
        cases p with
        | clash b o t2 =>
          refine iteT ?_
          refine iteT ?_
          exact ⟨_, rfl, ys, hys, Nat.lt_of_lt_of_le lys (by decide), keep rfl⟩
        | same ls =>
          refine iteF ?_
          obtain ⟨z', y, ez, hz2, hy⟩ := of_same hv2
          cases ez
          refine ⟨_, rfl, z, _, _, _, rfl, rfl, hz2, rfl, _, .inr (.inl ⟨_, hy, rfl⟩), ?_⟩
          cases ls with
          | nil =>
            refine iteF ?_
            refine ⟨ys, hys, s8, ?_⟩
            have ef : [Part.same []].filter keepP = [] := rfl
            rw [etk, List.filter_append, ef, List.append_nil]
            exact hd8
          | cons l0 lr =>
            refine iteT ?_
            exact ⟨_, rfl, ys, hys, Nat.lt_of_lt_of_le lys (by decide), keep rfl⟩
      · rintro H8 ⟨ys, hys, s8, hd8⟩
        rw [lv, List.take_length, etf, settle_eq] at hd8
        refine ⟨D, ys, rfl, .inl ⟨SqL.of hys, fun l hl => ?_⟩⟩
        refine k _ _ (sm.trans (s8.trans (same_new hl))) ?_
        exact .tup (.inl (.inl upd_same)) (parts_keep (TK.new hl) hd8)
end
end VK
end

section
set_option Elab.async false
set_option linter.all false
set_option pp.maxSteps 1500
set_option maxRecDepth 100000
set_option maxHeartbeats 4000000
namespace VK
open PySem L2
abbrev s__law_settled : Stmt := topS 50
theorem sc__law_settled : FnScope ["parts", "known", "found", "part", "lines"] ["parts", "known"] (defScope s__law_settled) := ⟨rfl, rfl, rfl, by decide +kernel, rfl, by decide +kernel, by decide +kernel⟩
def spLSet (K : PySem.W.Frag) : Sp := fun vs H Q _ => ∃ (a kd : Addr) (m : Mem) (ps : List Part), vs = [.ref a, .ref kd] ∧ KD K H kd m ∧ Dp K H (.ref a) (partsD ps) ∧ ps.length ≤ 100 ∧ (∀ p ∈ ps, smP p) ∧ (∀ q ∈ ps.map (setM m), plP q ≤ 40000) ∧
  ∀ (H' : Hp) (v : V), Same H H' → Dp K H' v (partsD (tidyF (ps.map (setM m)))) → Q v H'
section
variable {P : Program} {w : World} {K : PySem.W.Frag} {mg : Str → Option Value} {base : Heap} {t1 t2 t3 t4 t5 : Tok}
theorem ok_lset {f fK fT : Addr} {fd fdK fdT : FuncData} (F : Fun K "_law_settled" "_law_settled" s__law_settled f fd) (T0 : Txt0 mg)
    (D__law_key : Df K mg "_law_key" s__law_key ["clash"] fK fdK) (G__law_key : FnOk P w K mg base CX0 2 fK fdK ["clash"] (spKey K)) (D__law_tidy : Df K mg "_law_tidy" s__law_tidy ["parts"] fT fdT) : FnOk P w K mg base CX0 3 f fd ["parts", "known"] (spLSet K) := by
  have G__law_tidy : FnOk P w K mg base CX0 1 fT fdT ["parts"] (spTidy K) := ok_tidy D__law_tidy.F T0
  refine F.ok sc__law_settled (fun vs H Q E h => ?_) (fun cdv A outer s H vs Q E hr h => ?_)
  · obtain ⟨a, kd, m, ps, rfl, _⟩ := h
    rfl
  · obtain ⟨a, kd, m, ps, rfl, hM, hA, hpl, hsm, hsz, k⟩ := h
    have hu := hu_of hr
    refine ⟨_, (pss_cons (ps_set (i := 2) sc__law_settled.nd rfl (Or.inl rfl) (pe_lst pa_nil))
      (pss_cons (ps_for PassesOwn.never rfl (pi_tup (pv 0)) (pg_name (i := 3) sc__law_settled.nd rfl (Or.inl rfl))
        (pss_cons (ps_set (i := 4) sc__law_settled.nd rfl (Or.inl rfl) (pe_ifExp (pt_cmpR op_eq (pe_ix ix_tup (pv 3) pe_int (fun _ _ => rfl)) pe_str (nomark _)) (pe_ix ix_tup (pv 3) pe_int (fun _ _ => rfl)) (pe_dget1 hu (pv 1) (pe_call G__law_key (hr.mono (by decide)) rfl D__law_key.m D__law_key.F.kp D__law_key.b .nil pass0 (pa_cons (pv 3) pa_nil)) ⟨by rfl, by rfl, by rfl, by rfl⟩)))
        (pss_one (ps_expr (pe_bm PySem.F.plainAttrs_list PySem.F.slot_list_append PySem.F.type_list_append mt_append (pv 2) (pa_cons (pe_ifExp (pt_cmpR op_isN (pv 4) pe_non (nomark _)) (pv 3) (pe_tup (pa_cons pe_str (pa_cons (pv 4) pa_nil)))) pa_nil))))))
      (pss_one (ps_ret (pe_call G__law_tidy (hr.mono (by decide)) rfl D__law_tidy.m D__law_tidy.F.kp D__law_tidy.b .nil pass0 (pa_cons (pv 2) pa_nil)))))), ?_⟩
    obtain ⟨a', ws, ea, ha, hd⟩ := of_tupD hA
    cases ea
    have lw : ws.length = ps.length := by rw [dpAll_len hd, List.length_map]
    refine ⟨by show 0 ≤ sizeLine; decide, fun fo hfo => ?_⟩
    have s0 : Same H (upd H fo (.lst [])) := same_new hfo
    refine ⟨_, rfl, a, rfl, ⟨_, s0.seqT ha⟩, ?_⟩
    refine for_it (walk_tup (xs := ws)) (fun c σ H' => ∃ (vs : List V) (x3 x4 : Option V), σ = [some (.ref a), some (.ref kd), some (.ref fo), x3, x4] ∧ Same H H' ∧ H' fo = some (.lst vs) ∧ DpAll K H' vs (((ps.take c).map (setM m)).map partD)) ?_ (fun c σ H' _ h => ?_) ?_ ?_
    · exact ⟨[], none, none, rfl, s0, upd_same, .nil⟩
    · obtain ⟨vs, x3, x4, rfl, h1, h2⟩ := h
      exact h1.seqT ha
    · rintro c x σ H5o H5 hc ⟨vs, x3, x4, rfl, sm, hv, hdd⟩ ⟨rfl, hx⟩
      have hcf : c < ps.length := by rw [← lw]; exact hc
      obtain ⟨p, hp⟩ : ∃ p, p = ps[c] := ⟨_, rfl⟩
      have hf : ps[c]? = some p := by rw [List.getElem?_eq_getElem hcf, hp]
      have hpm := List.mem_of_getElem? hf
      obtain ⟨v, hv1, hv2⟩ := dpAll_at (parts_keep (TK.same sm) hd) (k := c) (d := partD p) (by rw [List.getElem?_map, hf]; rfl)
      obtain rfl : v = x := Option.some.inj (hv1.symm.trans hx)
      have etk : (ps.take (c + 1)).map (setM m) = (ps.take c).map (setM m) ++ [setM m p] := by rw [List.take_succ, hf, Option.toList_some, List.map_append]; rfl
      obtain ⟨tf, etf⟩ : ∃ tf, tf = (ps.take c).map (setM m) := ⟨_, rfl⟩
      rw [← etf] at hdd
      have lvs : vs.length = tf.length := by rw [dpAll_len hdd, List.length_map]
      have ltf : tf.length ≤ 100 := by rw [etf, List.length_map, List.length_take]; omega
      have lvz : vs.length < sizeLine := Nat.lt_of_le_of_lt (show vs.length ≤ 1000 by omega) (by decide)
      obtain ⟨z, r, rfl, hz⟩ := of_part hv2
      refine cut (fun σ' H' => ∃ lv : V, σ' = [some (.ref a), some (.ref kd), some (.ref fo), some (.ref z), some lv] ∧ Same H H' ∧ H' fo = some (.lst vs) ∧ DpAll K H' vs (tf.map partD) ∧ Dp K H' (.ref z) (partD p) ∧ ((lv = .non ∧ setM m p = p ∧ isS p = false) ∨ ∃ y ls, lv = .ref y ∧ SqT K H' y (ls.map V.str) ∧ setM m p = .same ls)) (fun nx hn => ?_) ?_
      · refine ⟨_, rfl, z, _, _, _, rfl, rfl, hz, at_head, rfl, _, rfl, ?_⟩
        cases p with
        | same ls =>
          rw [tag_same]
          refine ite2 (fun _ => ?_) (fun e => absurd rfl e)
          obtain ⟨z', y, ez, hz2, hy⟩ := of_same hv2
          cases ez
          refine ⟨_, rfl, z, _, _, _, rfl, rfl, hz2, rfl, ?_⟩
          exact hn _ _ ⟨_, rfl, sm, hv, hdd, hv2, .inr ⟨y, ls, rfl, hy, rfl⟩⟩
        | clash b o t =>
          refine ite2 (fun e => by rw [tag_same] at e; cases e) (fun _ => ?_)
          obtain ⟨l1, l2, l3⟩ := hsm _ hpm
          obtain ⟨kvs, hk, hkl⟩ := hM.same sm
          refine ⟨_, rfl, kd, rfl, .inl ⟨kvs, .inl hk⟩, _, rfl, z, b, o, t, rfl, hv2, l1, l2, l3, fun H6 s6 => ?_⟩
          refine ⟨_, .inl ⟨kvs, Sum.inr (keyF b o t), .inl (s6 _ _ hk), rfl, rfl⟩, ?_⟩
          rcases (hkl.tk (TK.same s6)).val (keyF b o t) with ⟨e1, e2⟩ | ⟨y, ls, e1, e2, hy⟩
          · rw [e1]
            exact hn _ _ ⟨_, rfl, sm.trans s6, s6 _ _ hv, parts_keep (TK.same s6) hdd, dp_keep (TK.same s6) _ _ (imm_part _) hv2, .inl ⟨rfl, setM_none e2, rfl⟩⟩
          · rw [e1]
            exact hn _ _ ⟨_, rfl, sm.trans s6, s6 _ _ hv, parts_keep (TK.same s6) hdd, dp_keep (TK.same s6) _ _ (imm_part _) hv2, .inr ⟨y, ls, rfl, hy, setM_some e2⟩⟩
      rintro σ6 H6 ⟨lv, rfl, sm6, hv6, hdd6, hz6, hlv⟩
      rcases hlv with ⟨rfl, es, ep⟩ | ⟨y, ls, rfl, hy, es⟩
      · refine ⟨_, rfl, .inl ⟨rfl, _, SqL.of hv6⟩, _, rfl, rfl, _, rfl, ?_⟩
        refine ite2 (fun _ => ?_) (fun e => absurd (decide_eq_true rfl) e)
        refine ⟨_, rfl, fo, vs, _, rfl, rfl, hv6, lvz, ?_⟩
        refine ⟨vs ++ [.ref z], _, _, rfl, same_mut sm6 hfo, upd_same, ?_⟩
        rw [etk, ← etf, es, List.map_append]
        exact dpAll_app (parts_keep (TK.lst hv6) hdd6) (dpAll_one (dp_keep (TK.lst hv6) _ _ (imm_part p) hz6))
      · refine ⟨_, rfl, .inl ⟨rfl, _, SqL.of hv6⟩, _, rfl, rfl, _, rfl, ?_⟩
        refine ite2 (fun e => nomatch (of_decide_eq_true e)) (fun _ => ?_)
        refine ⟨_, rfl, by show 2 ≤ sizeLine; decide, fun q hq => ?_⟩
        have h3 : upd H6 q (.tup [.str "same", .ref y]) fo = some (.lst vs) := by rw [upd_ne (ne_of_none hv6 hq)]; exact hv6
        refine ⟨fo, _, _, rfl, rfl, h3, lvz, ?_⟩
        have tk := (TK.new (K := K) (o := .tup [.str "same", .ref y]) hq).trans (TK.lst (o := .lst (vs ++ [.ref q])) h3)
        refine ⟨_, _, _, rfl, same_mut (sm6.trans (same_new hq)) hfo, upd_same, ?_⟩
        rw [etk, ← etf, es, List.map_append]
        exact dpAll_app (parts_keep tk hdd6) (dpAll_one (dp_same (b := y) (TK.lst h3 _ _ (.inl (.inl upd_same))) (tk _ _ hy)))
    · rintro σ H5 ⟨vs, x3, x4, rfl, sm, hv, hdd⟩
      rw [lw, List.take_length] at hdd
      refine ⟨_, rfl, fo, vs, ps.map (setM m), rfl, hv, hdd, by rw [List.length_map]; exact hpl, fun p hp => Nat.le_trans (hsz p hp) (by decide), fun H6 v6 s6 d6 => ?_⟩
      exact k _ _ (sm.trans s6) d6
end
end VK
end

section
set_option Elab.async false
set_option linter.all false
set_option pp.maxSteps 1500
set_option maxRecDepth 100000
set_option maxHeartbeats 4000000
namespace VK
open PySem L2
/-- the part stands in the lines at j -/
def atL (lines part : List Str) (j : Nat) : Bool := decide (cutL lines j (j + part.length) = part)
/-- the first place at which a part stands -/
def placeB (lines part : List Str) (here : Nat) (once last : Bool) : Option Nat :=
  if last = true ∧ once = false then (if here + part.length ≤ lines.length ∧ lines.drop (lines.length - part.length) = part then some (lines.length - part.length) else none)
  else (List.range' here (if once = true then 1 else lines.length + 1 - part.length - here)).find? (atL lines part)
theorem find_none {p : Nat → Bool} : ∀ (n lo : Nat), (∀ i, i < n → p (lo + i) = false) → (List.range' lo n).find? p = none
  | 0, lo, _ => rfl
  | n + 1, lo, h => by
    have e : List.range' lo (n + 1) = lo :: List.range' (lo + 1) n := rfl
    have h0 := h 0 (by omega)
    rw [Nat.add_zero] at h0
    rw [e, List.find?_cons, h0]
    exact find_none n (lo + 1) fun i hi => by
      have := h (i + 1) (by omega)
      rw [show lo + 1 + i = lo + (i + 1) by omega]
      exact this
theorem find_some {p : Nat → Bool} : ∀ (n lo k : Nat), k < n → (∀ i, i < k → p (lo + i) = false) → p (lo + k) = true → (List.range' lo n).find? p = some (lo + k)
  | 0, _, _, h, _, _ => absurd h (Nat.not_lt_zero _)
  | n + 1, lo, k, hk, h, hp => by
    have e : List.range' lo (n + 1) = lo :: List.range' (lo + 1) n := rfl
    rw [e, List.find?_cons]
    by_cases z : k = 0
    · subst z
      rw [Nat.add_zero] at hp ⊢
      rw [hp]
      rfl
    · have h0 := h 0 (by omega)
      rw [Nat.add_zero] at h0
      rw [h0]
      have := find_some (p := p) n (lo + 1) (k - 1) (by omega) (fun i hi => by
        have q := h (i + 1) (by omega)
        rw [show lo + 1 + i = lo + (i + 1) by omega]
        exact q) (by rw [show lo + 1 + (k - 1) = lo + k by omega]; exact hp)
      show (List.range' (lo + 1) n).find? p = _
      rw [this, show lo + 1 + (k - 1) = lo + k by omega]
theorem find_head {p : Nat → Bool} : ∀ l : List Nat, l.find? p = (l.filter p).head?
  | [] => rfl
  | x :: r => by
    rw [List.find?_cons, List.filter_cons]
    cases p x with
    | true => rfl
    | false => exact find_head r
theorem cutL_len2 {α : Type} (xs : List α) (i h : Nat) : (cutL xs i h).length = min (h - i) (xs.length - i) := by
  unfold cutL
  rw [List.length_take, List.length_drop]
theorem at_le {lines part : List Str} {j : Nat} (h : atL lines part j = true) (hj : j ≤ lines.length) : j + part.length ≤ lines.length := by
  have e := congrArg List.length (of_decide_eq_true h)
  rw [cutL_len2] at e
  omega
/-- what the law's places come to -/
def lawPl (lines part : List Str) (here : Nat) (once last : Bool) : List Nat :=
  let all := (List.range' here (lines.length + 1 - part.length - here)).filter (atL lines part)
  if once = true then all.filter fun j => decide (j = here) else if last = true then all.filter fun j => decide (j + part.length = lines.length) else all
theorem filter_head {p q : Nat → Bool} (l : List Nat) : ((l.filter p).filter q).head? = l.find? fun j => p j && q j := by
  rw [List.filter_filter, find_head]
  congr 2
  funext j
  rw [Bool.and_comm]
theorem law_place {lines part : List Str} {here : Nat} {once last : Bool} (hh : here ≤ lines.length) : (lawPl lines part here once last).head? = placeB lines part here once last := by
  unfold lawPl placeB
  cases once with
  | true =>
    rw [if_pos rfl, if_neg (by simp), if_pos rfl, filter_head]
    cases h : atL lines part here with
    | true =>
      have q := at_le h hh
      rw [find_some _ here 0 (by omega) (fun i hi => absurd hi (Nat.not_lt_zero _)) (by rw [Nat.add_zero, h]; simp), find_some 1 here 0 (by omega) (fun i hi => absurd hi (Nat.not_lt_zero _)) (by rw [Nat.add_zero]; exact h)]
    | false =>
      rw [find_none _ here (fun i hi => ?_), find_none 1 here (fun i hi => ?_)]
      · have : i = 0 := by omega
        subst this
        exact h
      · by_cases z : i = 0
        · subst z
          rw [Nat.add_zero, h]; rfl
        · rw [decide_eq_false (by omega), Bool.and_false]
  | false =>
    rw [if_neg (by simp)]
    cases last with
    | false =>
      rw [if_neg (by simp), if_neg (by simp), if_neg (by simp), find_head]
    | true =>
      rw [if_pos rfl, if_pos ⟨rfl, rfl⟩, filter_head]
      by_cases hc : here + part.length ≤ lines.length ∧ lines.drop (lines.length - part.length) = part
      · rw [if_pos hc]
        obtain ⟨h1, h2⟩ := hc
        have e : here + (lines.length - part.length - here) = lines.length - part.length := by omega
        have e2 : lines.length - part.length + part.length = lines.length := by omega
        have e3 : atL lines part (lines.length - part.length) = true := by
          refine decide_eq_true ?_
          unfold cutL
          rw [List.take_of_length_le (by rw [List.length_drop]; omega)]
          exact h2
        have q := find_some (p := fun j => atL lines part j && decide (j + part.length = lines.length)) (lines.length + 1 - part.length - here) here (lines.length - part.length - here) (by omega)
          (fun i hi => by
            show (atL lines part (here + i) && decide (here + i + part.length = lines.length)) = false
            rw [decide_eq_false (show ¬ here + i + part.length = lines.length by omega), Bool.and_false])
          (by
            show (atL lines part (here + (lines.length - part.length - here)) && decide (here + (lines.length - part.length - here) + part.length = lines.length)) = true
            rw [e, e3, decide_eq_true e2]; rfl)
        rw [q, e]
      · rw [if_neg hc]
        refine find_none _ here fun i hi => ?_
        by_cases z : here + i + part.length = lines.length
        · have e3 : atL lines part (here + i) = false := by
            refine decide_eq_false fun q => hc ⟨by omega, ?_⟩
            have e4 : lines.length - part.length = here + i := by omega
            unfold cutL at q
            rw [List.take_of_length_le (by rw [List.length_drop]; omega)] at q
            rw [e4]
            exact q
          rw [e3, Bool.false_and]
        · rw [decide_eq_false z, Bool.and_false]
theorem place_le {lines part : List Str} {here j : Nat} {once last : Bool} (hh : here ≤ lines.length) (h : placeB lines part here once last = some j) : here ≤ j ∧ j + part.length ≤ lines.length := by
  unfold placeB at h
  split at h
  · split at h
    · next q =>
      have e := Option.some.inj h
      omega
    · cases h
  · have h1 := List.find?_some h
    have h2 := List.mem_of_find?_eq_some h
    rw [List.mem_range'_1] at h2
    refine ⟨h2.1, at_le h1 ?_⟩
    split at h2
    · omega
    · omega
/-! between what is the same -/
structure BS where
  found : List (Part × List Str)
  here : Nat
  wait : Option Part
def stepB (lines : List Str) (n i : Nat) (s : BS) : Part → Option BS
  | .clash b o t => some ⟨s.found, s.here, some (.clash b o t)⟩
  | .same ls => match placeB lines ls s.here s.wait.isNone (decide (i + 1 = n)) with
    | none => none
    | some j => some ⟨s.found ++ (match s.wait with | some c => [(c, cutL lines s.here j)] | none => []), j + ls.length, none⟩
def runB (lines : List Str) (n : Nat) : Nat → BS → List Part → Option BS
  | _, s, [] => some s
  | i, s, p :: r => match stepB lines n i s p with
    | none => none
    | some s' => runB lines n (i + 1) s' r
def endB (lines : List Str) (s : BS) : Option (List (Part × List Str)) := match s.wait with
  | some c => some (s.found ++ [(c, lines.drop s.here)])
  | none => if s.here = lines.length then some s.found else none
def betweenB (lines : List Str) (ps : List Part) : Option (List (Part × List Str)) := match runB lines ps.length 0 ⟨[], 0, none⟩ ps with
  | none => none
  | some s => endB lines s
theorem stepB_le {lines : List Str} {n i : Nat} {s s' : BS} {p : Part} (hs : s.here ≤ lines.length) (h : stepB lines n i s p = some s') : s'.here ≤ lines.length := by
  cases p with
  | clash b o t =>
    have e := Option.some.inj h
    rw [← e]
    exact hs
  | same ls =>
    have h : (match placeB lines ls s.here s.wait.isNone (decide (i + 1 = n)) with | none => none | some j => some (⟨s.found ++ (match s.wait with | some c => [(c, cutL lines s.here j)] | none => []), j + ls.length, none⟩ : BS)) = some s' := h
    split at h
    · cases h
    · next j hj =>
      have e := Option.some.inj h
      rw [← e]
      exact (place_le hs hj).2
end VK
end

section
set_option Elab.async false
set_option linter.all false
set_option pp.maxSteps 1500
set_option maxRecDepth 100000
set_option maxHeartbeats 4000000
namespace VK
open PySem L2
abbrev s_place_behind : Stmt := topS 35
theorem sc_place_behind : FnScope ["lines", "part", "here", "at_once", "last", "place"] ["lines", "part", "here", "at_once", "last"] (defScope s_place_behind) := ⟨rfl, rfl, rfl, by decide +kernel, rfl, by decide +kernel, by decide +kernel⟩
theorem cutE {Q : VK} {F : VK → Prop} (R : V → Hp → Prop) (h : ∀ Q' : VK, (∀ v H', R v H' → Q' v H') → F Q') (k : ∀ v H', R v H' → Q v H') : F Q := h Q k
def optV : Option Nat → V
  | none => .non
  | some j => .int (j : Int)
def spPlace (K : PySem.W.Frag) : Sp := fun vs H Q _ => ∃ (a b : Addr) (lines part : List Str) (here : Nat) (once last : Bool), vs = [.ref a, .ref b, .int (here : Int), .bl once, .bl last] ∧ SqT K H a (lines.map V.str) ∧ SqT K H b (part.map V.str) ∧ OkL lines ∧ OkL part ∧ here ≤ lines.length ∧ lines.length ≤ 1000000 ∧ part.length ≤ 1000000 ∧
  ∀ H' : Hp, Same H H' → Q (optV (placeB lines part here once last)) H'
section
variable {P : Program} {w : World} {K : PySem.W.Frag} {mg : Str → Option Value} {base : Heap}
theorem ok_place {f : Addr} {fd : FuncData} (F : Fun K "place_behind" "place_behind" s_place_behind f fd) (T0 : Txt0 mg) : FnOk P w K mg base CX0 1 f fd ["lines", "part", "here", "at_once", "last"] (spPlace K) := by
  refine F.ok sc_place_behind (fun vs H Q E h => ?_) (fun cdv A outer s H vs Q E hr h => ?_)
  · obtain ⟨a, b, lines, part, here, once, last, rfl, _⟩ := h
    rfl
  · obtain ⟨a, b, lines, part, here, once, last, rfl, hA, hB, ok1, ok2, hh, hl1, hl2, k⟩ := h
    refine ⟨_, (pss_cons (ps_if (PW.pt (pw_and (pt_val (pv 4)) (pw_and1 (pt_not (pt_val (pv 3))))))
        (pss_cons (ps_set (i := 5) sc_place_behind.nd rfl (Or.inl rfl) (pe_op op_sub (pe_callB call_len_seq (by rfl) T0.z_len PySem.boot_len (pa_cons (pv 0) pa_nil)) (pe_callB call_len_seq (by rfl) T0.z_len PySem.boot_len (pa_cons (pv 1) pa_nil))))
        (pss_one (ps_ret (pe_ifExp (PW.pt (pw_and (pt_cmpR op_ge (pv 5) (pv 2) (nomark _)) (pw_and1 (pt_cmpR (op_eqD hr.units) (pe_callTy call_tupleT (by rfl) T0.z_tuple (by decide +kernel) (pa_cons (pe_slice sl_tupA (pv 0) (po_some (pv 5)) po_none) pa_nil)) (pv 1) (nomark _))))) (pv 5) pe_non))))
        pss_nil)
      (pss_cons (ps_for PassesOwn.never rfl (pi_range2 (by rfl) T0.z_range (pa_cons (pv 2) (pa_cons (pe_ifExp (pt_val (pv 3)) (pe_op op_add (pv 2) pe_int) (pe_op op_add (pe_op op_sub (pe_callB call_len_seq (by rfl) T0.z_len PySem.boot_len (pa_cons (pv 0) pa_nil)) (pe_callB call_len_seq (by rfl) T0.z_len PySem.boot_len (pa_cons (pv 1) pa_nil))) pe_int)) pa_nil))) (pg_name (i := 5) sc_place_behind.nd rfl (Or.inl rfl))
        (pss_one (ps_if (pt_cmpR (op_eqD hr.units) (pe_callTy call_tupleT (by rfl) T0.z_tuple (by decide +kernel) (pa_cons (pe_slice sl_tupA (pv 0) (po_some (pv 5)) (po_some (pe_op op_add (pv 5) (pe_callB call_len_seq (by rfl) T0.z_len PySem.boot_len (pa_cons (pv 1) pa_nil))))) pa_nil)) (pv 1) (nomark _))
          (pss_one (ps_ret (pv 5)))
          pss_nil)))
      (pss_one (ps_ret pe_non)))), ?_⟩
    have eqR : ∀ {G : Hp} {p : Addr} {xs : List Str} {R : VK}, Same H G → SqT K G p (xs.map V.str) → OkL xs → R (.bl (decide (xs = part))) G → rEqD K (.ref p) (.ref b) G R := fun g hp ho r => eq_lines hp (g.seqT hB) ho ok2 r
    refine cut (fun σ' H' => σ' = [some (.ref a), some (.ref b), some (.int (here : Int)), some (.bl once), some (.bl last), none] ∧ H' = H ∧ ¬ (last = true ∧ once = false)) (fun nx hn => ?_) ?_
    · refine ⟨_, rfl, _, rfl, ?_⟩
      cases last with
      | false =>
        refine iteF ?_
        refine iteF ?_
        exact hn _ _ ⟨rfl, rfl, fun q => Bool.noConfusion q.1⟩
      | true =>
        refine iteT ?_
        refine ⟨_, rfl, _, rfl, ?_⟩
        cases once with
        | true =>
          refine iteF ?_
          exact hn _ _ ⟨rfl, rfl, fun q => Bool.noConfusion q.2⟩
        | false =>
          refine iteT ?_
          have k' := k
          unfold placeB at k'
          rw [if_pos ⟨rfl, rfl⟩] at k'
          refine ⟨_, rfl, a, _, rfl, .inr hA, _, rfl, b, _, rfl, .inr hB, _, _, rfl, rfl, ?_⟩
          refine ⟨_, rfl, _, rfl, _, _, rfl, rfl, _, rfl, ?_⟩
          simp only [List.length_map]
          by_cases h1 : here + part.length ≤ lines.length
          · have e : ((lines.length : Nat) : Int) - ((part.length : Nat) : Int) = ((lines.length - part.length : Nat) : Int) := by omega
            refine ite2 (fun _ => ?_) (fun q => absurd (decide_eq_true (by omega)) q)
            refine ⟨_, rfl, _, rfl, _, congrArg V.int e, ?_⟩
            dsimp only [tNoPart]
            refine sl_linesFrom hA fun H2 p2 s2 hp2 => ?_
            refine ⟨p2, _, rfl, hp2, _, rfl, ?_⟩
            refine eqR s2 hp2 (fun x hx => ok1 x (List.mem_of_mem_drop hx)) ⟨_, rfl, ?_⟩
            by_cases h2 : lines.drop (lines.length - part.length) = part
            · rw [decide_eq_true h2]
              refine iteT ?_
              refine ⟨_, rfl, ?_⟩
              rw [if_pos ⟨h1, h2⟩] at k'
              have q := k' H2 s2
              show Q (V.int _) H2
              rw [e]
              exact q
            · rw [decide_eq_false h2]
              refine iteF ?_
              rw [if_neg fun q => h2 q.2] at k'
              exact k' H2 s2
          · refine ite2 (fun q => absurd (of_decide_eq_true q) (by omega)) (fun _ => ?_)
            rw [if_neg fun q => h1 q.1] at k'
            refine iteF ?_
            exact k' H (Same.refl _)
    rintro σ1 H1 ⟨rfl, rfl, hc⟩
    obtain ⟨n, en⟩ : ∃ n, n = if once = true then 1 else lines.length + 1 - part.length - here := ⟨_, rfl⟩
    have kn : placeB lines part here once last = (List.range' here n).find? (atL lines part) := by
      unfold placeB
      rw [if_neg hc, en]
    have hn2 : n ≤ 1000001 := by rw [en]; split <;> omega
    refine ⟨_, rfl, ?_⟩
    refine cutE (F := tIf _ _ _ _ _) (fun v H' => ∃ hi : Int, v = .int hi ∧ H' = H1 ∧ hi ≤ 2000000 ∧ -2000000 ≤ hi ∧ (hi - (here : Int)).toNat = n) (fun Q' hq => ?_) ?_
    · refine ⟨_, rfl, _, rfl, ?_⟩
      cases once with
      | true =>
        refine iteT ?_
        refine ⟨_, rfl, _, _, rfl, rfl, ?_⟩
        refine hq _ _ ⟨_, rfl, rfl, by omega, by omega, ?_⟩
        rw [en, if_pos rfl]
        omega
      | false =>
        refine iteF ?_
        refine ⟨_, rfl, a, _, rfl, .inr hA, _, rfl, b, _, rfl, .inr hB, _, _, rfl, rfl, _, _, rfl, rfl, ?_⟩
        simp only [List.length_map]
        refine hq _ _ ⟨_, rfl, rfl, by omega, by omega, ?_⟩
        rw [en, if_neg (by decide)]
        omega
    rintro v H2 ⟨hi, rfl, rfl, b1, b2, eh⟩
    refine ⟨_, _, rfl, ⟨by omega, by omega, by omega, by omega⟩, ?_⟩
    rw [eh]
    refine for_range (lo := (here : Int)) (n := n) (fun i σ H' => ∃ x5, σ = [some (.ref a), some (.ref b), some (.int (here : Int)), some (.bl once), some (.bl last), x5] ∧ Same H2 H' ∧ ∀ j, j < i → atL lines part (here + j) = false) ⟨none, rfl, Same.refl _, fun j hj => absurd hj (Nat.not_lt_zero _)⟩ ?_ ?_
    · rintro i σ H3 hin ⟨x5, rfl, s3, hno⟩
      have ecast : (here : Int) + ((i : Nat) : Int) = ((here + i : Nat) : Int) := by omega
      rw [ecast]
      have e3 : ((here + i : Nat) : Int) + (((part.map V.str).length : Nat) : Int) = ((here + i + part.length : Nat) : Int) := by rw [List.length_map]; omega
      refine ⟨_, rfl, _, rfl, _, rfl, _, rfl, _, rfl, b, _, rfl, .inr (s3.seqT hB), _, _, rfl, rfl, _, congrArg V.int e3, ?_⟩
      refine sl_lines (s3.seqT hA) fun H4 p4 s4 hp4 => ?_
      refine ⟨p4, _, rfl, hp4, _, rfl, ?_⟩
      refine eqR (s3.trans s4) hp4 (fun x hx => ok1 x (List.mem_of_mem_drop (List.mem_of_mem_take hx))) ⟨_, rfl, ?_⟩
      cases hat : atL lines part (here + i) with
      | true =>
        have e5 : decide (cutL lines (here + i) (here + i + part.length) = part) = true := hat
        rw [e5]
        refine iteT ?_
        refine ⟨_, rfl, ?_⟩
        have q := k H4 (s3.trans s4)
        rw [kn, find_some n here i hin hno hat] at q
        exact q
      | false =>
        have e5 : decide (cutL lines (here + i) (here + i + part.length) = part) = false := hat
        rw [e5]
        refine iteF ?_
        refine ⟨_, rfl, s3.trans s4, fun j hj => ?_⟩
        by_cases z : j = i
        · rw [z]; exact hat
        · exact hno j (by omega)
    · rintro σ H3 ⟨x5, rfl, s3, hno⟩
      have q := k H3 s3
      rw [kn, find_none n here hno] at q
      exact q
end
end VK
end

section
set_option Elab.async false
set_option linter.all false
set_option pp.maxSteps 1500
set_option maxRecDepth 100000
set_option maxHeartbeats 4000000
namespace VK
open PySem L2
theorem nx_of {D : Ends} {σ : St} {H : Hp} (h : D.nx σ H) : tNext D σ H := h
abbrev prD (p : Part × List Str) : PyData := .tuple [partD p.1, linesD p.2]
theorem imm_pr (p : Part × List Str) : imm (prD p) = true := by
  show (imm (partD p.1) && (imm (linesD p.2) && true)) = true
  rw [imm_part, imm_lines]; rfl
theorem prs_keep {K : PySem.W.Frag} {H H' : Hp} (t : TK K H H') {vs : List V} {rs : List (Part × List Str)} (h : DpAll K H vs (rs.map prD)) : DpAll K H' vs (rs.map prD) :=
  dpAll_keep t _ _ (immAll_map _ imm_pr rs) h
/-- the clash that waits -/
def waitV (K : PySem.W.Frag) (H : Hp) : Option Part → V → Prop
  | none, v => v = .non
  | some p, v => ∃ z, v = .ref z ∧ Dp K H (.ref z) (partD p)
theorem waitV.tk {K : PySem.W.Frag} {H H' : Hp} (t : TK K H H') {o : Option Part} {v : V} (h : waitV K H o v) : waitV K H' o v := by
  cases o with
  | none => exact h
  | some p =>
    obtain ⟨z, e, q⟩ := h
    exact ⟨z, e, dp_keep t _ _ (imm_part p) q⟩
theorem wait_is {K : PySem.W.Frag} {H : Hp} {o : Option Part} {v : V} (h : waitV K H o v) : decide (v = .non) = o.isNone := by
  cases o with
  | none => rw [show v = .non from h]; rfl
  | some p =>
    obtain ⟨z, rfl, _⟩ := h
    rfl
abbrev s_settled_between : Stmt := topS 34
theorem sc_settled_between : FnScope ["parts", "lines", "found", "here", "open_clash", "number", "part", "last", "place"] ["parts", "lines"] (defScope s_settled_between) := ⟨rfl, rfl, rfl, by decide +kernel, rfl, by decide +kernel, by decide +kernel⟩
def spBetween (K : PySem.W.Frag) : Sp := fun vs H Q _ => ∃ (a b : Addr) (ps : List Part) (lines : List Str), vs = [.ref a, .ref b] ∧ Dp K H (.ref a) (partsD ps) ∧ SqT K H b (lines.map V.str) ∧ OkL lines ∧ (∀ p ∈ ps, okP p) ∧ lines.length ≤ 500000 ∧ ps.length ≤ 100 ∧ (∀ p ∈ ps, plP p ≤ 40000) ∧
  (betweenB lines ps = none → ∀ H' : Hp, Same H H' → Q .non H') ∧
  (∀ rs, betweenB lines ps = some rs → ∀ (H' : Hp) (p : Addr) (ws : List V), Same H H' → H' p = some (.lst ws) → DpAll K H' ws (rs.map prD) → Q (.ref p) H')
section
variable {P : Program} {w : World} {K : PySem.W.Frag} {mg : Str → Option Value} {base : Heap}
theorem ok_between {f fP : Addr} {fd fdP : FuncData} (F : Fun K "settled_between" "settled_between" s_settled_between f fd) (T0 : Txt0 mg) (D_place_behind : Df K mg "place_behind" s_place_behind ["lines", "part", "here", "at_once", "last"] fP fdP) : FnOk P w K mg base CX0 2 f fd ["parts", "lines"] (spBetween K) := by
  have G_place_behind : FnOk P w K mg base CX0 1 fP fdP ["lines", "part", "here", "at_once", "last"] (spPlace K) := ok_place D_place_behind.F T0
  refine F.ok sc_settled_between (fun vs H Q E h => ?_) (fun cdv A outer s H vs Q E hr h => ?_)
  · obtain ⟨a, b, ps, lines, rfl, _⟩ := h
    rfl
  · obtain ⟨a, b, ps, lines, rfl, hA, hB, okl, okp, hl, hpl, hpp, kN, kS⟩ := h
    refine ⟨_, (pss_cons (ps_par3 (i := 2) (j := 3) (l := 4) (by rfl) sc_settled_between.nd rfl rfl rfl (by decide) (by decide) (by decide) rfl rfl rfl (pa_cons (pe_lst pa_nil) (pa_cons pe_int (pa_cons pe_non pa_nil))) (by rfl))
      (pss_cons (ps_for PassesOwn.never rfl (pi_enumT (by rfl) T0.z_enumerate (pa_cons (pv 0) pa_nil)) (pg_tup rfl (pgs_cons (pg_name (i := 5) sc_settled_between.nd rfl (Or.inl rfl)) (pgs_cons (pg_name (i := 6) sc_settled_between.nd rfl (Or.inl rfl)) pgs_nil)))
        (pss_cons (ps_if (pt_cmpR op_eq (pe_ix ix_tup (pv 6) pe_int (fun _ _ => rfl)) pe_str (nomark _))
          (pss_cons (ps_set (i := 4) sc_settled_between.nd rfl (Or.inl rfl) (pv 6))
          (pss_one ps_continue))
          pss_nil)
        (pss_cons (ps_set (i := 7) sc_settled_between.nd rfl (Or.inl rfl) (pe_cmpR op_eq (pv 5) (pe_op op_sub (pe_callB call_len_seq (by rfl) T0.z_len PySem.boot_len (pa_cons (pv 0) pa_nil)) pe_int) (nomark _)))
        (pss_cons (ps_set (i := 8) sc_settled_between.nd rfl (Or.inl rfl) (pe_call G_place_behind (hr.mono (by decide)) rfl D_place_behind.m D_place_behind.F.kp D_place_behind.b .nil pass0 (pa_cons (pv 1) (pa_cons (pe_ix ix_tup (pv 6) pe_int (fun _ _ => rfl)) (pa_cons (pv 3) (pa_cons (pe_cmpR op_isN (pv 4) pe_non (nomark _)) (pa_cons (pv 7) pa_nil)))))))
        (pss_cons (ps_if (pt_cmpR op_isN (pv 8) pe_non (nomark _))
          (pss_one (ps_ret pe_non))
          pss_nil)
        (pss_cons (ps_if (pt_cmpR op_notN (pv 4) pe_non (nomark _))
          (pss_cons (ps_expr (pe_bm PySem.F.plainAttrs_list PySem.F.slot_list_append PySem.F.type_list_append mt_append (pv 2) (pa_cons (pe_tup (pa_cons (pv 4) (pa_cons (pe_callTy call_tupleT (by rfl) T0.z_tuple (by decide +kernel) (pa_cons (pe_slice sl_tupA (pv 1) (po_some (pv 3)) (po_some (pv 8))) pa_nil)) pa_nil))) pa_nil)))
          (pss_one (ps_set (i := 4) sc_settled_between.nd rfl (Or.inl rfl) pe_non)))
          pss_nil)
        (pss_one (ps_set (i := 3) sc_settled_between.nd rfl (Or.inl rfl) (pe_op op_add (pv 8) (pe_callB call_len_seq (by rfl) T0.z_len PySem.boot_len (pa_cons (pe_ix ix_tup (pv 6) pe_int (fun _ _ => rfl)) pa_nil)))))))))))
      (pss_cons (ps_if (pt_cmpR op_notN (pv 4) pe_non (nomark _))
        (pss_cons (ps_expr (pe_bm PySem.F.plainAttrs_list PySem.F.slot_list_append PySem.F.type_list_append mt_append (pv 2) (pa_cons (pe_tup (pa_cons (pv 4) (pa_cons (pe_callTy call_tupleT (by rfl) T0.z_tuple (by decide +kernel) (pa_cons (pe_slice sl_tupA (pv 1) (po_some (pv 3)) po_none) pa_nil)) pa_nil))) pa_nil)))
        (pss_one (ps_set (i := 3) sc_settled_between.nd rfl (Or.inl rfl) (pe_callB call_len_seq (by rfl) T0.z_len PySem.boot_len (pa_cons (pv 1) pa_nil)))))
        pss_nil)
      (pss_one (ps_ret (pe_ifExp (pt_cmpR op_eq (pv 3) (pe_callB call_len_seq (by rfl) T0.z_len PySem.boot_len (pa_cons (pv 1) pa_nil)) (nomark _)) (pv 2) pe_non)))))), ?_⟩
    obtain ⟨a', ws, ea, ha, hd⟩ := of_tupD hA
    cases ea
    have lw : ws.length = ps.length := by rw [dpAll_len hd, List.length_map]
    refine ⟨by show 0 ≤ sizeLine; decide, fun fo hfo => ?_⟩
    have s0 : Same H (upd H fo (.lst [])) := same_new hfo
    refine ⟨_, _, _, rfl, _, rfl, a, ws, rfl, s0.seqT ha, ?_⟩
    refine for_it (walk_enumT (xs := ws)) (fun c σ H' => ∃ (st : BS) (wv : V) (vs : List V) (x5 x6 x7 x8 : Option V), σ = [some (.ref a), some (.ref b), some (.ref fo), some (.int (st.here : Int)), some wv, x5, x6, x7, x8] ∧ Same H H' ∧ H' fo = some (.lst vs) ∧ DpAll K H' vs (st.found.map prD) ∧ waitV K H' st.wait wv ∧
      runB lines ps.length c st (ps.drop c) = runB lines ps.length 0 ⟨[], 0, none⟩ ps ∧ st.here ≤ lines.length ∧ st.found.length ≤ c) ?_ (fun c σ H' _ h => ?_) ?_ ?_
    · exact ⟨⟨[], 0, none⟩, .non, [], none, none, none, none, rfl, s0, upd_same, .nil, rfl, rfl, Nat.zero_le _, Nat.zero_le _⟩
    · obtain ⟨st, wv, vs, x5, x6, x7, x8, rfl, h1, h2⟩ := h
      exact h1.seqT ha
    · rintro c x σ H5 H6 hc ⟨st, wv, vs, x5, x6, x7, x8, rfl, sm, hv, hdd, hw, hrun, hhere, hfl⟩ ⟨T, x', rfl, hT, rfl, hx⟩
      have hcf : c < ps.length := by rw [← lw]; exact hc
      obtain ⟨p, hp⟩ : ∃ p, p = ps[c] := ⟨_, rfl⟩
      have hf : ps[c]? = some p := by rw [List.getElem?_eq_getElem hcf, hp]
      have hpm := List.mem_of_getElem? hf
      have sT : Same H5 (upd H5 T (.tup [.int (c : Nat), x'])) := same_new hT
      have sm6 := sm.trans sT
      obtain ⟨v, hv1, hv2⟩ := dpAll_at (parts_keep (TK.same sm6) hd) (k := c) (d := partD p) (by rw [List.getElem?_map, hf]; rfl)
      obtain rfl : v = x' := Option.some.inj (hv1.symm.trans hx)
      obtain ⟨z, r, rfl, hz⟩ := of_part hv2
      have ed : ps.drop c = p :: ps.drop (c + 1) := by rw [List.drop_eq_getElem_cons hcf, ← hp]
      rw [ed] at hrun
      have hv6 := sT _ _ hv
      have hdd6 := prs_keep (TK.same sT) hdd
      have hw6 := hw.tk (TK.same sT)
      have lvs : vs.length = st.found.length := by rw [dpAll_len hdd, List.length_map]
      have lvz : vs.length < sizeLine := Nat.lt_of_le_of_lt (show vs.length ≤ 1000 by omega) (by decide)
      refine ⟨T, _, rfl, .inl (.inl upd_same), rfl, _, _, rfl, _, _, rfl, rfl, ?_⟩
      obtain ⟨H6, e6⟩ : ∃ H6, H6 = upd H5 T (.tup [.int (c : Nat), .ref z]) := ⟨_, rfl⟩
      rw [← e6] at sm6 hz hv2 hv6 hdd6 hw6 ⊢
      refine ⟨_, rfl, z, _, _, _, rfl, rfl, hz, at_head, rfl, _, rfl, ?_⟩
      cases p with
      | clash b1 o1 t1 =>
        refine ite2 (fun _ => ?_) (fun e => absurd (by rw [tag_clash]; rfl) e)
        refine ⟨_, rfl, ?_⟩
        exact ⟨⟨st.found, st.here, some (.clash b1 o1 t1)⟩, .ref z, vs, _, _, x7, x8, rfl, sm6, hv6, hdd6, ⟨z, rfl, hv2⟩, hrun, hhere, Nat.le_succ_of_le hfl⟩
      | same ls =>
        refine ite2 (fun e => by rw [tag_clash] at e; cases e) (fun _ => ?_)
        obtain ⟨z', y, ez, hz2, hy⟩ := of_same hv2
        cases ez
        have lls : ls.length ≤ 40000 := hpp _ hpm
        have okls : OkL ls := okp _ hpm
        refine ⟨_, rfl, _, rfl, a, _, rfl, .inr (sm6.seqT ha), _, _, rfl, rfl, rfl, ?_⟩
        have elast : decide (V.int ((c : Nat) : Int) = V.int (((ws.length : Nat) : Int) - 1)) = decide (c + 1 = ps.length) := by
          rw [lw]
          by_cases q : c + 1 = ps.length
          · rw [decide_eq_true q, decide_eq_true]
            rw [← q]
            congr 1
            omega
          · rw [decide_eq_false q, decide_eq_false]
            intro e
            have := V.int.inj e
            omega
        rw [elast]
        refine ⟨_, rfl, _, rfl, z, _, _, _, rfl, rfl, hz2, rfl, _, rfl, _, rfl, rfl, _, rfl, b, y, lines, ls, st.here, _, _, rfl, sm6.seqT hB, hy, okl, okls, hhere, by omega, by omega, fun H7 s7 => ?_⟩
        rw [wait_is hw6]
        have s67 := sm6.trans s7
        cases hplc : placeB lines ls st.here st.wait.isNone (decide (c + 1 = ps.length)) with
        | none =>
          refine ⟨_, rfl, rfl, _, rfl, ?_⟩
          refine iteT ?_
          have hn : runB lines ps.length 0 ⟨[], 0, none⟩ ps = none := by
            rw [← hrun]
            show (match (match placeB lines ls st.here st.wait.isNone (decide (c + 1 = ps.length)) with | none => none | some j => some (⟨st.found ++ (match st.wait with | some c => [(c, cutL lines st.here j)] | none => []), j + ls.length, none⟩ : BS)) with | none => none | some s' => runB lines ps.length (c + 1) s' (ps.drop (c + 1))) = none
            rw [hplc]
          exact kN (by unfold betweenB; rw [hn]) H7 s67
        | some j =>
          obtain ⟨hj1, hj2⟩ := place_le hhere hplc
          have hrun2 : runB lines ps.length (c + 1) ⟨st.found ++ (match st.wait with | some c => [(c, cutL lines st.here j)] | none => []), j + ls.length, none⟩ (ps.drop (c + 1)) = runB lines ps.length 0 ⟨[], 0, none⟩ ps := by
            rw [← hrun]
            show _ = (match (match placeB lines ls st.here st.wait.isNone (decide (c + 1 = ps.length)) with | none => none | some j => some (⟨st.found ++ (match st.wait with | some c => [(c, cutL lines st.here j)] | none => []), j + ls.length, none⟩ : BS)) with | none => none | some s' => runB lines ps.length (c + 1) s' (ps.drop (c + 1)))
            rw [hplc]
          refine ⟨_, rfl, rfl, _, rfl, ?_⟩
          refine ite2 (fun e => nomatch (of_decide_eq_true e)) (fun _ => ?_)
          refine nx_of ?_
          dsimp only
          refine cut (fun σ' H' => ∃ (vs' : List V), σ' = [some (.ref a), some (.ref b), some (.ref fo), some (.int (st.here : Int)), some .non, some (.int (c : Int)), some (.ref z), some (.bl (decide (c + 1 = ps.length))), some (.int (j : Int))] ∧ Same H H' ∧ H' fo = some (.lst vs') ∧ DpAll K H' vs' ((st.found ++ (match st.wait with | some c => [(c, cutL lines st.here j)] | none => [])).map prD) ∧ SqT K H' z [.str "same", .ref y] ∧ SqT K H' y (ls.map V.str)) (fun nx hn => ?_) ?_
          · have hw7 := hw6.tk (TK.same s7)
            have hdd7 := prs_keep (TK.same s7) hdd6
            have hv7 := s7 _ _ hv6
            cases hwt : st.wait with
            | none =>
              rw [hwt] at hw7
              have hwv : wv = .non := hw7
              subst hwv
              refine ⟨_, rfl, rfl, _, rfl, ?_⟩
              refine ite2 (fun e => absurd e (by decide)) (fun _ => ?_)
              refine hn _ _ ⟨vs, rfl, s67, hv7, ?_, s7.seqT hz2, s7.seqT hy⟩
              rw [hwt, List.append_nil]
              exact hdd7
            | some p0 =>
              rw [hwt] at hw7
              obtain ⟨z0, rfl, hz0⟩ := hw7
              refine ⟨_, rfl, rfl, _, rfl, ?_⟩
              refine ite2 (fun _ => ?_) (fun e => absurd rfl e)
              refine ⟨_, rfl, .inl ⟨rfl, _, SqL.of hv7⟩, _, rfl, _, rfl, _, rfl, _, rfl, _, rfl, _, rfl, ?_⟩
              refine sl_lines (s67.seqT hB) fun H8 p8 s8 hp8 => ?_
              refine ⟨p8, _, rfl, hp8, by show 2 ≤ sizeLine; decide, fun q hq => ?_⟩
              have hv8 := s8 _ _ hv7
              have h3 : upd H8 q (.tup [.ref z0, .ref p8]) fo = some (.lst vs) := by rw [upd_ne (ne_of_none hv8 hq)]; exact hv8
              refine ⟨fo, vs, _, rfl, rfl, h3, lvz, ?_⟩
              have tk := (TK.same s8).trans ((TK.new (K := K) (o := .tup [.ref z0, .ref p8]) hq).trans (TK.lst (o := .lst (vs ++ [.ref q])) h3))
              have tk2 := ((TK.new (K := K) (o := .tup [.ref z0, .ref p8]) hq).trans (TK.lst (o := .lst (vs ++ [.ref q])) h3))
              refine hn _ _ ⟨vs ++ [.ref q], rfl, same_mut (s67.trans (s8.trans (same_new hq))) hfo, upd_same, ?_, tk _ _ (s7.seqT hz2), tk _ _ (s7.seqT hy)⟩
              rw [hwt, List.map_append]
              exact dpAll_app (prs_keep tk hdd7) (dpAll_one (.tup (TK.lst h3 _ _ (.inl (.inl upd_same))) (.cons (dp_keep tk _ _ (imm_part p0) hz0) (.cons (dp_lines (tk2 _ _ hp8)) .nil))))
          rintro σ8 H8 ⟨vs', rfl, s8, hv8, hdd8, hz8, hy8⟩
          refine ⟨_, rfl, _, rfl, z, _, _, _, rfl, rfl, hz8, rfl, y, _, rfl, .inr hy8, _, _, rfl, rfl, ?_⟩
          refine ⟨⟨st.found ++ (match st.wait with | some c => [(c, cutL lines st.here j)] | none => []), j + ls.length, none⟩, .non, vs', some (.int (c : Int)), some (.ref z), some (.bl (decide (c + 1 = ps.length))), some (.int (j : Int)), ?_, s8, hv8, hdd8, rfl, hrun2, hj2, ?_⟩
          · rw [List.length_map]
            rfl
          · show (st.found ++ _).length ≤ c + 1
            rw [List.length_append]
            split
            · show _ + 1 ≤ _; omega
            · show _ + 0 ≤ _; omega
    · rintro σ H5 ⟨st, wv, vs, x5, x6, x7, x8, rfl, sm, hv, hdd, hw, hrun, hhere, hfl⟩
      rw [lw, List.drop_length] at hrun
      have hend : betweenB lines ps = endB lines st := by
        unfold betweenB
        rw [← hrun]
        rfl
      have hl1 : (lines.length : Int) ≤ 500000 := by omega
      have lvs : vs.length = st.found.length := by rw [dpAll_len hdd, List.length_map]
      have lvz : vs.length < sizeLine := Nat.lt_of_le_of_lt (show vs.length ≤ 1000 by omega) (by decide)
      cases hwt : st.wait with
      | none =>
        rw [hwt] at hw
        have hwv : wv = .non := hw
        subst hwv
        refine ⟨_, rfl, rfl, _, rfl, ?_⟩
        refine ite2 (fun e => absurd e (by decide)) (fun _ => ?_)
        refine ⟨_, rfl, _, rfl, b, _, rfl, .inr (sm.seqT hB), rfl, _, rfl, ?_⟩
        have he : endB lines st = if st.here = lines.length then some st.found else none := by unfold endB; rw [hwt]
        by_cases q : st.here = lines.length
        · have e1 : decide (V.int ((st.here : Nat) : Int) = V.int (((lines.map V.str).length : Nat) : Int)) = true := decide_eq_true (by rw [q, List.length_map])
          rw [e1]
          refine iteT ?_
          refine ⟨_, rfl, ?_⟩
          exact kS st.found (by rw [hend, he, if_pos q]) H5 fo vs sm hv hdd
        · have e1 : decide (V.int ((st.here : Nat) : Int) = V.int (((lines.map V.str).length : Nat) : Int)) = false := decide_eq_false fun e => q (by have := V.int.inj e; rw [List.length_map] at this; omega)
          rw [e1]
          refine iteF ?_
          exact kN (by rw [hend, he, if_neg q]) H5 sm
      | some p0 =>
        rw [hwt] at hw
        obtain ⟨z0, rfl, hz0⟩ := hw
        have he : endB lines st = some (st.found ++ [(p0, lines.drop st.here)]) := by unfold endB; rw [hwt]
        refine ⟨_, rfl, rfl, _, rfl, ?_⟩
        refine ite2 (fun _ => ?_) (fun e => absurd rfl e)
        refine ⟨_, rfl, .inl ⟨rfl, _, SqL.of hv⟩, _, rfl, _, rfl, _, rfl, _, rfl, ?_⟩
        dsimp only [tNoPart]
        refine sl_linesFrom (sm.seqT hB) fun H8 p8 s8 hp8 => ?_
        refine ⟨p8, _, rfl, hp8, by show 2 ≤ sizeLine; decide, fun q hq => ?_⟩
        have hv8 := s8 _ _ hv
        have h3 : upd H8 q (.tup [.ref z0, .ref p8]) fo = some (.lst vs) := by rw [upd_ne (ne_of_none hv8 hq)]; exact hv8
        refine ⟨fo, vs, _, rfl, rfl, h3, lvz, ?_⟩
        have tk := (TK.same s8).trans ((TK.new (K := K) (o := .tup [.ref z0, .ref p8]) hq).trans (TK.lst (o := .lst (vs ++ [.ref q])) h3))
        have tk2 := ((TK.new (K := K) (o := .tup [.ref z0, .ref p8]) hq).trans (TK.lst (o := .lst (vs ++ [.ref q])) h3))
        have s9 : Same H (upd (upd H8 q (.tup [.ref z0, .ref p8])) fo (.lst (vs ++ [.ref q]))) := same_mut (sm.trans (s8.trans (same_new hq))) hfo
        refine ⟨_, rfl, b, _, rfl, .inr (s9.seqT hB), ?_⟩
        refine ⟨_, rfl, _, rfl, b, _, rfl, .inr (s9.seqT hB), rfl, _, rfl, ?_⟩
        refine ite2 (fun _ => ?_) (fun e => absurd (decide_eq_true rfl) e)
        refine ⟨_, rfl, ?_⟩
        refine kS _ (by rw [hend, he]) _ fo (vs ++ [.ref q]) s9 upd_same ?_
        rw [List.map_append]
        exact dpAll_app (prs_keep tk hdd) (dpAll_one (.tup (TK.lst h3 _ _ (.inl (.inl upd_same))) (.cons (dp_keep tk _ _ (imm_part p0) hz0) (.cons (dp_lines (tk2 _ _ hp8)) .nil))))
end
end VK
end

section
set_option Elab.async false
set_option linter.all false
set_option pp.maxSteps 1500
set_option maxRecDepth 100000
set_option maxHeartbeats 4000000
namespace VK
open PySem L2
abbrev natsV (l : List Nat) : List V := l.map fun n : Nat => V.int (n : Int)
theorem call_tupleTQ {X : Cx} {K : PySem.W.Frag} (hK : X.K = K) : CallR X (.type "tuple") (fun xs H Q => ∃ (a : Addr) (ys : List V), xs = [.ref a] ∧ SqT K H a ys ∧ Q (.ref a) H) := by
  subst hK
  exact call_tupleT
theorem op_eqDQ {X : Cx} {K : PySem.W.Frag} (hK : X.K = K) (hu : X.A.units + 64 < cLine) : OpR X (compareOp .Eq) (rEqD K) := by
  subst hK
  exact op_eqD hu
abbrev s__law_between : Stmt := topS 51
theorem sc__law_between : FnScope ["parts", "lines", "found", "here", "waiting", "k", "part", "size", "places", "j"] ["parts", "lines"] (defScope s__law_between) := ⟨rfl, rfl, rfl, by decide +kernel, rfl, by decide +kernel, by decide +kernel⟩
section
variable {P : Program} {w : World} {K : PySem.W.Frag} {mg : Str → Option Value} {base : Heap}
theorem ok_lbetween {f : Addr} {fd : FuncData} (F : Fun K "_law_between" "_law_between" s__law_between f fd) (T0 : Txt0 mg) : FnOk P w K mg base CX0 1 f fd ["parts", "lines"] (spBetween K) := by
  refine F.ok sc__law_between (fun vs H Q E h => ?_) (fun cdv A outer s H vs Q E hr h => ?_)
  · obtain ⟨a, b, ps, lines, rfl, _⟩ := h
    rfl
  · obtain ⟨a, b, ps, lines, rfl, hA, hB, okl, okp, hl, hpl, hpp, kN, kS⟩ := h
    refine ⟨_, (pss_cons (ps_set (i := 2) sc__law_between.nd rfl (Or.inl rfl) (pe_lst pa_nil))
      (pss_cons (ps_set (i := 3) sc__law_between.nd rfl (by first | exact Or.inl rfl | exact Or.inr rfl) pe_int)
      (pss_cons (ps_set (i := 4) sc__law_between.nd rfl (Or.inl rfl) pe_non)
      (pss_cons (ps_for PassesOwn.never rfl (pi_range1 (by rfl) T0.z_range (pa_cons (pe_callB call_len_seq (by rfl) T0.z_len PySem.boot_len (pa_cons (pv 0) pa_nil)) pa_nil)) (pg_name (i := 5) sc__law_between.nd rfl (Or.inl rfl))
        (pss_cons (ps_set (i := 6) sc__law_between.nd rfl (by first | exact Or.inl rfl | exact Or.inr rfl) (pe_ix ix_tup (pv 0) (pv 5) (fun _ _ => rfl)))
        (pss_one (ps_if (pt_cmpR op_eq (pe_ix ix_tup (pv 6) pe_int (fun _ _ => rfl)) pe_str (nomark _))
          (pss_one (ps_set (i := 4) sc__law_between.nd rfl (Or.inl rfl) (pv 6)))
          (pss_cons (ps_set (i := 7) sc__law_between.nd rfl (by first | exact Or.inl rfl | exact Or.inr rfl) (pe_callB call_len_seq (by rfl) T0.z_len PySem.boot_len (pa_cons (pe_ix ix_tup (pv 6) pe_int (fun _ _ => rfl)) pa_nil)))
          (pss_cons (ps_setLc (i := 8) (own := [("j", 9)]) (g := gName 9) (tt := _) rfl sc__law_between.nd rfl rfl (sw_true rfl rfl rfl (by decide +kernel)) (pi_range2 (by rfl) T0.z_range (pa_cons (pv 3) (pa_cons (pe_op op_add (pe_op op_sub (pe_callB call_len_seq (by rfl) T0.z_len PySem.boot_len (pa_cons (pv 1) pa_nil)) (pv 7)) pe_int) pa_nil))) (blkOk_by (own := [("j", 9)]) (N := ["parts", "lines", "found", "here", "waiting", "k", "part", "size", "places", "j"]) (sc := defScope s__law_between) (by decide +kernel)) (fun _ _ _ _ _ => (pg_name (i := 9) sc__law_between.nd rfl (Or.inl rfl))) (fun _ _ _ _ _ => (pts_one (pt_cmpR (op_eqDQ (K := K) rfl hr.units) (pe_callTy (call_tupleTQ (K := K) rfl) (by rfl) T0.z_tuple (by decide +kernel) (pa_cons (pe_slice (sl_tupAQ (K := K) rfl) (pv 1) (po_some (pv 9)) (po_some (pe_op op_add (pv 9) (pv 7)))) pa_nil)) (pe_ix (ix_tupQ (K := K) rfl) (pv 6) pe_int (fun _ _ => rfl)) (nomark _)))) (fun _ _ _ _ _ => (pv 9)))
          (pss_cons (ps_if (pt_cmpR op_isN (pv 4) pe_non (nomark _))
            (pss_one (ps_setLc (i := 8) (own := [("j", 9)]) (g := gName 9) (tt := _) rfl sc__law_between.nd rfl rfl (sw_true rfl rfl rfl (by decide +kernel)) (pi_list (pv 8)) (blkOk_by (own := [("j", 9)]) (N := ["parts", "lines", "found", "here", "waiting", "k", "part", "size", "places", "j"]) (sc := defScope s__law_between) (by decide +kernel)) (fun _ _ _ _ _ => (pg_name (i := 9) sc__law_between.nd rfl (Or.inl rfl))) (fun _ _ _ _ _ => (pts_one (pt_cmpR op_eq (pv 9) (pv 3) (nomark _)))) (fun _ _ _ _ _ => (pv 9))))
            (pss_one (ps_if (pt_cmpR op_eq (pv 5) (pe_op op_sub (pe_callB call_len_seq (by rfl) T0.z_len PySem.boot_len (pa_cons (pv 0) pa_nil)) pe_int) (nomark _))
              (pss_one (ps_setLc (i := 8) (own := [("j", 9)]) (g := gName 9) (tt := _) rfl sc__law_between.nd rfl rfl (sw_true rfl rfl rfl (by decide +kernel)) (pi_list (pv 8)) (blkOk_by (own := [("j", 9)]) (N := ["parts", "lines", "found", "here", "waiting", "k", "part", "size", "places", "j"]) (sc := defScope s__law_between) (by decide +kernel)) (fun _ _ _ _ _ => (pg_name (i := 9) sc__law_between.nd rfl (Or.inl rfl))) (fun _ _ _ _ _ => (pts_one (pt_cmpR op_eq (pe_op op_add (pv 9) (pv 7)) (pe_callB (call_lenQ (K := K) rfl) (by rfl) T0.z_len PySem.boot_len (pa_cons (pv 1) pa_nil)) (nomark _)))) (fun _ _ _ _ _ => (pv 9))))
              pss_nil)))
          (pss_cons (ps_if (pt_cmpR op_eq (pe_callB call_len_seq (by rfl) T0.z_len PySem.boot_len (pa_cons (pv 8) pa_nil)) pe_int (nomark _))
            (pss_one (ps_ret pe_non))
            pss_nil)
          (pss_cons (ps_if (pt_cmpR op_notN (pv 4) pe_non (nomark _))
            (pss_cons (ps_expr (pe_bm PySem.F.plainAttrs_list PySem.F.slot_list_append PySem.F.type_list_append mt_append (pv 2) (pa_cons (pe_tup (pa_cons (pv 4) (pa_cons (pe_callTy call_tupleT (by rfl) T0.z_tuple (by decide +kernel) (pa_cons (pe_slice sl_tupA (pv 1) (po_some (pv 3)) (po_some (pe_ix ix_list (pv 8) pe_int (fun _ _ => rfl)))) pa_nil)) pa_nil))) pa_nil)))
            (pss_one (ps_set (i := 4) sc__law_between.nd rfl (Or.inl rfl) pe_non)))
            pss_nil)
          (pss_one (ps_set (i := 3) sc__law_between.nd rfl (by first | exact Or.inl rfl | exact Or.inr rfl) (pe_op op_add (pe_ix ix_list (pv 8) pe_int (fun _ _ => rfl)) (pv 7)))))))))))))
      (pss_cons (ps_if (pt_cmpR op_notN (pv 4) pe_non (nomark _))
        (pss_cons (ps_expr (pe_bm PySem.F.plainAttrs_list PySem.F.slot_list_append PySem.F.type_list_append mt_append (pv 2) (pa_cons (pe_tup (pa_cons (pv 4) (pa_cons (pe_callTy call_tupleT (by rfl) T0.z_tuple (by decide +kernel) (pa_cons (pe_slice sl_tupA (pv 1) (po_some (pv 3)) po_none) pa_nil)) pa_nil))) pa_nil)))
        (pss_one (ps_set (i := 3) sc__law_between.nd rfl (by first | exact Or.inl rfl | exact Or.inr rfl) (pe_callB call_len_seq (by rfl) T0.z_len PySem.boot_len (pa_cons (pv 1) pa_nil)))))
        pss_nil)
      (pss_one (ps_ret (pe_ifExp (pt_cmpR op_eq (pv 3) (pe_callB call_len_seq (by rfl) T0.z_len PySem.boot_len (pa_cons (pv 1) pa_nil)) (nomark _)) (pv 2) pe_non)))))))), ?_⟩
    obtain ⟨a', ws, ea, ha, hd⟩ := of_tupD hA
    cases ea
    have lw : ws.length = ps.length := by rw [dpAll_len hd, List.length_map]
    refine ⟨by show 0 ≤ sizeLine; decide, fun fo hfo => ?_⟩
    have s0 : Same H (upd H fo (.lst [])) := same_new hfo
    refine ⟨_, rfl, a, _, rfl, .inr (s0.seqT ha), _, rfl, by omega, by omega, ?_⟩
    have en : ((ws.length : Nat) : Int).toNat = ps.length := by omega
    rw [en]
    refine for_range (lo := 0) (n := ps.length) (fun c σ H' => ∃ (st : BS) (wv : V) (vs : List V) (x5 x6 x7 x8 : Option V), σ = [some (.ref a), some (.ref b), some (.ref fo), some (.int (st.here : Int)), some wv, x5, x6, x7, x8, none] ∧ Same H H' ∧ H' fo = some (.lst vs) ∧ DpAll K H' vs (st.found.map prD) ∧ waitV K H' st.wait wv ∧
      runB lines ps.length c st (ps.drop c) = runB lines ps.length 0 ⟨[], 0, none⟩ ps ∧ st.here ≤ lines.length ∧ st.found.length ≤ c) ?_ ?_ ?_
    · exact ⟨⟨[], 0, none⟩, .non, [], none, none, none, none, rfl, s0, upd_same, .nil, rfl, rfl, Nat.zero_le _, Nat.zero_le _⟩
    · rintro c σ H6 hcf ⟨st, wv, vs, x5, x6, x7, x8, rfl, sm6, hv6, hdd6, hw6, hrun, hhere, hfl⟩
      have e0 : (0 + ((c : Nat) : Int)) = ((c : Nat) : Int) := Int.zero_add _
      rw [e0]
      obtain ⟨p, hp⟩ : ∃ p, p = ps[c] := ⟨_, rfl⟩
      have hf : ps[c]? = some p := by rw [List.getElem?_eq_getElem hcf, hp]
      have hpm := List.mem_of_getElem? hf
      obtain ⟨v, hv1, hv2⟩ := dpAll_at (parts_keep (TK.same sm6) hd) (k := c) (d := partD p) (by rw [List.getElem?_map, hf]; rfl)
      obtain ⟨z, r, rfl, hz⟩ := of_part hv2
      have ed : ps.drop c = p :: ps.drop (c + 1) := by rw [List.drop_eq_getElem_cons hcf, ← hp]
      rw [ed] at hrun
      have lvs : vs.length = st.found.length := by rw [dpAll_len hdd6, List.length_map]
      have lvz : vs.length < sizeLine := Nat.lt_of_le_of_lt (show vs.length ≤ 1000 by omega) (by decide)
      refine ⟨_, rfl, _, rfl, a, _, _, _, rfl, rfl, sm6.seqT ha, atI_nat hv1, ?_⟩
      refine ⟨_, rfl, z, _, _, _, rfl, rfl, hz, at_head, rfl, _, rfl, ?_⟩
      cases p with
      | clash b1 o1 t1 =>
        refine ite2 (fun _ => ?_) (fun e => absurd (by rw [tag_clash]; rfl) e)
        refine ⟨_, rfl, ?_⟩
        exact ⟨⟨st.found, st.here, some (.clash b1 o1 t1)⟩, .ref z, vs, _, _, x7, x8, rfl, sm6, hv6, hdd6, ⟨z, rfl, hv2⟩, hrun, hhere, Nat.le_succ_of_le hfl⟩
      | same ls =>
        refine ite2 (fun e => by rw [tag_clash] at e; cases e) (fun _ => ?_)
        obtain ⟨z', y, ez, hz2, hy⟩ := of_same hv2
        cases ez
        have lls : ls.length ≤ 40000 := hpp _ hpm
        have okls : OkL ls := okp _ hpm
        refine ⟨_, rfl, z, _, _, _, rfl, rfl, hz2, rfl, y, _, rfl, .inr hy, ?_⟩
        obtain ⟨n, hn⟩ : ∃ n, n = lines.length + 1 - ls.length - st.here := ⟨_, rfl⟩
        have ln1 : (lines.map V.str).length = lines.length := List.length_map ..
        have ln2 : (ls.map V.str).length = ls.length := List.length_map ..
        rw [ln2]
        refine ⟨_, rfl, _, rfl, b, _, rfl, .inr (sm6.seqT hB), _, rfl, _, _, rfl, rfl, _, _, rfl, rfl, _, _, rfl, ⟨by omega, by omega, by omega, by omega⟩, fun D hD => ?_⟩
        have ehn : (((((lines.map V.str).length : Nat) : Int) - ((ls.length : Nat) : Int) + 1) - ((st.here : Nat) : Int)).toNat = n := by rw [ln1]; omega
        rw [ehn]
        obtain ⟨ft, eft⟩ : ∃ ft : Nat → List Nat, ft = fun t => (List.range' st.here t).filter (atL lines ls) := ⟨_, rfl⟩
        refine lc_range (lo := (st.here : Int)) (n := n) (fun t H' => H' D = some (.lst (natsV (ft t))) ∧ Same H6 H') ⟨by rw [upd_same, eft]; rfl, same_new hD⟩ ?_ ?_
        · rintro i H7 hi ⟨hl7, s7⟩
          have ec : (st.here : Int) + ((i : Nat) : Int) = ((st.here + i : Nat) : Int) := by omega
          rw [ec]
          have e3 : ((st.here + i : Nat) : Int) + ((ls.length : Nat) : Int) = ((st.here + i + ls.length : Nat) : Int) := by omega
          have s67 := sm6.trans s7
          refine ⟨rfl, _, rfl, _, rfl, _, rfl, _, rfl, _, rfl, _, _, rfl, rfl, _, congrArg V.int e3, ?_⟩
          refine sl_lines (s67.seqT hB) fun H8 p8 s8 hp8 => ?_
          refine ⟨p8, _, rfl, hp8, _, rfl, z, _, _, _, rfl, rfl, (s7.trans s8).seqT hz2, rfl, ?_⟩
          refine eq_lines hp8 ((s7.trans s8).seqT hy) (fun x hx => okl x (List.mem_of_mem_drop (List.mem_of_mem_take hx))) okls ⟨_, rfl, ?_⟩
          have etk : ft (i + 1) = ft i ++ (if atL lines ls (st.here + i) = true then [st.here + i] else []) := by
            rw [eft]
            show (List.range' st.here (i + 1)).filter _ = (List.range' st.here i).filter _ ++ _
            rw [List.range'_concat, List.filter_append]
            congr 1
            rw [Nat.one_mul]
            cases h : atL lines ls (st.here + i) with
            | true => rw [if_pos rfl]; exact List.filter_cons_of_pos h
            | false => rw [if_neg (by simp)]; exact List.filter_cons_of_neg (by rw [h]; simp)
          have lft : (natsV (ft i)).length < 2000000 := by
            rw [List.length_map, eft]
            have q := List.length_filter_le (atL lines ls) (List.range' st.here i)
            rw [List.length_range'] at q
            show (List.filter _ _).length < _
            omega
          cases hat : atL lines ls (st.here + i) with
          | true =>
            have e5 : decide (cutL lines (st.here + i) (st.here + i + ls.length) = ls) = true := hat
            rw [e5]
            refine iteT ?_
            refine ⟨_, rfl, _, s8 _ _ hl7, Nat.lt_of_lt_of_le lft (by decide), ?_, same_mut (s7.trans s8) hD⟩
            rw [upd_same, etk, hat, if_pos rfl]
            unfold natsV
            rw [List.map_append]
            rfl
          | false =>
            have e5 : decide (cutL lines (st.here + i) (st.here + i + ls.length) = ls) = false := hat
            rw [e5]
            refine iteF ?_
            refine ⟨?_, s7.trans s8⟩
            rw [etk, hat, if_neg (by simp), List.append_nil]
            exact s8 _ _ hl7
        rintro H7 ⟨hl7, s7⟩
        obtain ⟨all, eall⟩ : ∃ all, all = ft n := ⟨_, rfl⟩
        rw [← eall] at hl7
        have eall2 : all = (List.range' st.here (lines.length + 1 - ls.length - st.here)).filter (atL lines ls) := by rw [eall, eft, hn]
        have s67 := sm6.trans s7
        have hv7 := s7 _ _ hv6
        have hdd7 := prs_keep (TK.same s7) hdd6
        have hw7 := hw6.tk (TK.same s7)
        dsimp only [gName]
        refine cut (fun σ' H' => ∃ (D' : Addr), σ' = [some (.ref a), some (.ref b), some (.ref fo), some (.int (st.here : Int)), some wv, some (.int (c : Int)), some (.ref z), some (.int (ls.length : Int)), some (.ref D'), none] ∧ Same H7 H' ∧ H' D' = some (.lst (natsV (lawPl lines ls st.here st.wait.isNone (decide (c + 1 = ps.length))))) ∧ D' ≠ fo) (fun nx hn => ?_) ?_
        · refine ⟨_, rfl, rfl, _, rfl, ?_⟩
          rw [wait_is hw7]
          have nDfo : D ≠ fo := by
            rintro rfl
            rw [hv6] at hD
            cases hD
          have lall : all.length < 2000000 := by
            rw [eall2]
            have q := List.length_filter_le (atL lines ls) (List.range' st.here (lines.length + 1 - ls.length - st.here))
            rw [List.length_range'] at q
            omega
          cases hwt : st.wait with
          | none =>
            refine iteT ?_
            refine ⟨_, rfl, D, rfl, ⟨_, SqL.of hl7⟩, fun D2 hD2 => ?_⟩
            have nD2 : D2 ≠ fo := by
              rintro rfl
              rw [hv7] at hD2
              cases hD2
            refine lc_list (xs := natsV all) (fun t H' => H' D2 = some (.lst (natsV ((all.take t).filter fun j => decide (j = st.here)))) ∧ Same H7 H') ⟨upd_same, same_new hD2⟩ (fun t H' _ h => SqL.of (h.2 _ _ hl7)) ?_ ?_
            · rintro t x H8 hx ⟨hl8, s8⟩
              rw [List.getElem?_map] at hx
              obtain ⟨kk, hkk, rfl⟩ := Option.map_eq_some_iff.mp hx
              have etk : all.take (t + 1) = all.take t ++ [kk] := by rw [List.take_succ, hkk]; rfl
              have lt8 : (natsV ((all.take t).filter fun j => decide (j = st.here))).length < 2000000 := by
                rw [List.length_map]
                have q := List.length_filter_le (fun j => decide (j = st.here)) (all.take t)
                rw [List.length_take] at q
                omega
              refine ⟨rfl, _, rfl, _, rfl, rfl, _, rfl, ?_⟩
              have ed2 : decide (V.int ((kk : Nat) : Int) = V.int ((st.here : Nat) : Int)) = decide (kk = st.here) := by
                by_cases q : kk = st.here
                · rw [decide_eq_true q, decide_eq_true (by rw [q])]
                · rw [decide_eq_false q, decide_eq_false fun e => q (by have := V.int.inj e; omega)]
              rw [ed2]
              by_cases q : kk = st.here
              · rw [decide_eq_true q]
                refine iteT ?_
                refine ⟨_, rfl, _, hl8, Nat.lt_of_lt_of_le lt8 (by decide), ?_, same_mut s8 hD2⟩
                rw [upd_same, etk, List.filter_append, List.filter_cons_of_pos (p := fun j => decide (j = st.here)) (decide_eq_true q)]
                unfold natsV
                rw [List.map_append]
                rfl
              · rw [decide_eq_false q]
                refine iteF ?_
                refine ⟨?_, s8⟩
                rw [etk, List.filter_append, List.filter_cons_of_neg (p := fun j => decide (j = st.here)) (by simpa using q)]
                rw [List.filter_nil, List.append_nil]
                exact hl8
            · rintro H8 ⟨hl8, s8⟩
              rw [List.length_map, List.take_length] at hl8
              refine hn _ _ ⟨D2, rfl, s8, ?_, nD2⟩
              rw [hl8, hwt, eall2]
              rfl
          | some p0 =>
            refine iteF ?_
            refine ⟨_, rfl, _, rfl, a, _, rfl, .inr (s67.seqT ha), _, _, rfl, rfl, rfl, _, rfl, ?_⟩
            have elast : decide (V.int ((c : Nat) : Int) = V.int (((ws.length : Nat) : Int) - 1)) = decide (c + 1 = ps.length) := by
              rw [lw]
              by_cases q : c + 1 = ps.length
              · rw [decide_eq_true q, decide_eq_true]
                rw [← q]
                congr 1
                omega
              · rw [decide_eq_false q, decide_eq_false]
                intro e
                have := V.int.inj e
                omega
            rw [elast]
            by_cases q : c + 1 = ps.length
            · rw [decide_eq_true q]
              refine iteT ?_
              refine ⟨_, rfl, D, rfl, ⟨_, SqL.of hl7⟩, fun D2 hD2 => ?_⟩
              have nD2 : D2 ≠ fo := by
                rintro rfl
                rw [hv7] at hD2
                cases hD2
              refine lc_list (xs := natsV all) (fun t H' => H' D2 = some (.lst (natsV ((all.take t).filter fun j => decide (j + ls.length = lines.length)))) ∧ Same H7 H') ⟨upd_same, same_new hD2⟩ (fun t H' _ h => SqL.of (h.2 _ _ hl7)) ?_ ?_
              · rintro t x H8 hx ⟨hl8, s8⟩
                rw [List.getElem?_map] at hx
                obtain ⟨kk, hkk, rfl⟩ := Option.map_eq_some_iff.mp hx
                have etk : all.take (t + 1) = all.take t ++ [kk] := by rw [List.take_succ, hkk]; rfl
                have lt8 : (natsV ((all.take t).filter fun j => decide (j + ls.length = lines.length))).length < 2000000 := by
                  rw [List.length_map]
                  have q := List.length_filter_le (fun j => decide (j + ls.length = lines.length)) (all.take t)
                  rw [List.length_take] at q
                  omega
                refine ⟨rfl, _, rfl, _, rfl, _, _, rfl, rfl, _, rfl, b, _, rfl, .inr ((s67.trans s8).seqT hB), rfl, _, rfl, ?_⟩
                have ed2 : decide (V.int (((kk : Nat) : Int) + ((ls.length : Nat) : Int)) = V.int (((lines.map V.str).length : Nat) : Int)) = decide (kk + ls.length = lines.length) := by
                  rw [ln1]
                  by_cases q : kk + ls.length = lines.length
                  · rw [decide_eq_true q, decide_eq_true (by rw [← q]; congr 1)]
                  · rw [decide_eq_false q, decide_eq_false fun e => q (by have := V.int.inj e; omega)]
                rw [ed2]
                by_cases q2 : kk + ls.length = lines.length
                · rw [decide_eq_true q2]
                  refine iteT ?_
                  refine ⟨_, rfl, _, hl8, Nat.lt_of_lt_of_le lt8 (by decide), ?_, same_mut s8 hD2⟩
                  rw [upd_same, etk, List.filter_append, List.filter_cons_of_pos (p := fun j => decide (j + ls.length = lines.length)) (decide_eq_true q2)]
                  unfold natsV
                  rw [List.map_append]
                  rfl
                · rw [decide_eq_false q2]
                  refine iteF ?_
                  refine ⟨?_, s8⟩
                  rw [etk, List.filter_append, List.filter_cons_of_neg (p := fun j => decide (j + ls.length = lines.length)) (by simpa using q2)]
                  rw [List.filter_nil, List.append_nil]
                  exact hl8
              · rintro H8 ⟨hl8, s8⟩
                rw [List.length_map, List.take_length] at hl8
                refine hn _ _ ⟨D2, rfl, s8, ?_, nD2⟩
                rw [hl8, hwt, eall2, decide_eq_true q]
                rfl
            · rw [decide_eq_false q]
              refine iteF ?_
              refine hn _ _ ⟨D, rfl, Same.refl _, ?_, nDfo⟩
              rw [hl7, hwt, eall2, decide_eq_false q]
              rfl
        rintro σ8 H8 ⟨D', rfl, s8, hl8, nfo8⟩
        have hpe := law_place (lines := lines) (part := ls) (here := st.here) (once := st.wait.isNone) (last := decide (c + 1 = ps.length)) hhere
        have s68 := s67.trans s8
        have hv8 := s8 _ _ hv7
        have hdd8 := prs_keep (TK.same s8) hdd7
        have hw8 := hw7.tk (TK.same s8)
        have hz8 := (s7.trans s8).seqT hz2
        have hy8 := (s7.trans s8).seqT hy
        refine ⟨_, rfl, D', _, rfl, .inl (SqL.of hl8), rfl, _, rfl, ?_⟩
        cases hlp : lawPl lines ls st.here st.wait.isNone (decide (c + 1 = ps.length)) with
        | nil =>
          refine iteT ?_
          rw [hlp] at hpe
          have hplc : placeB lines ls st.here st.wait.isNone (decide (c + 1 = ps.length)) = none := hpe.symm
          have hn : runB lines ps.length 0 ⟨[], 0, none⟩ ps = none := by
            rw [← hrun]
            show (match (match placeB lines ls st.here st.wait.isNone (decide (c + 1 = ps.length)) with | none => none | some j => some (⟨st.found ++ (match st.wait with | some c => [(c, cutL lines st.here j)] | none => []), j + ls.length, none⟩ : BS)) with | none => none | some s' => runB lines ps.length (c + 1) s' (ps.drop (c + 1))) = none
            rw [hplc]
          exact kN (by unfold betweenB; rw [hn]) H8 s68
        | cons j jr =>
          rw [hlp] at hpe hl8
          have hplc : placeB lines ls st.here st.wait.isNone (decide (c + 1 = ps.length)) = some j := hpe.symm
          obtain ⟨hj1, hj2⟩ := place_le hhere hplc
          have hrun2 : runB lines ps.length (c + 1) ⟨st.found ++ (match st.wait with | some c => [(c, cutL lines st.here j)] | none => []), j + ls.length, none⟩ (ps.drop (c + 1)) = runB lines ps.length 0 ⟨[], 0, none⟩ ps := by
            rw [← hrun]
            show _ = (match (match placeB lines ls st.here st.wait.isNone (decide (c + 1 = ps.length)) with | none => none | some j => some (⟨st.found ++ (match st.wait with | some c => [(c, cutL lines st.here j)] | none => []), j + ls.length, none⟩ : BS)) with | none => none | some s' => runB lines ps.length (c + 1) s' (ps.drop (c + 1)))
            rw [hplc]
          refine ite2 (fun e => absurd e ?_) (fun _ => ?_)
          · rw [dec_int]
            simp only [List.map_cons, List.length_cons, beq_iff_eq]
            omega
          refine nx_of ?_
          dsimp only
          refine cut (fun σ' H' => ∃ (vs' : List V), σ' = [some (.ref a), some (.ref b), some (.ref fo), some (.int (st.here : Int)), some .non, some (.int (c : Int)), some (.ref z), some (.int (ls.length : Int)), some (.ref D'), none] ∧ Same H H' ∧ H' fo = some (.lst vs') ∧ DpAll K H' vs' ((st.found ++ (match st.wait with | some c => [(c, cutL lines st.here j)] | none => [])).map prD) ∧ H' D' = some (.lst (natsV (j :: jr)))) (fun nx hn => ?_) ?_
          · cases hwt : st.wait with
            | none =>
              rw [hwt] at hw8
              have hwv : wv = .non := hw8
              subst hwv
              refine ⟨_, rfl, rfl, _, rfl, ?_⟩
              refine ite2 (fun e => absurd e (by decide)) (fun _ => ?_)
              refine hn _ _ ⟨vs, rfl, s68, hv8, ?_, hl8⟩
              rw [hwt, List.append_nil]
              exact hdd8
            | some p0 =>
              rw [hwt] at hw8
              obtain ⟨z0, rfl, hz0⟩ := hw8
              refine ⟨_, rfl, rfl, _, rfl, ?_⟩
              refine ite2 (fun _ => ?_) (fun e => absurd rfl e)
              refine ⟨_, rfl, .inl ⟨rfl, _, SqL.of hv8⟩, _, rfl, _, rfl, _, rfl, _, rfl, _, rfl, D', _, _, _, rfl, rfl, SqL.of hl8, at_head, _, rfl, ?_⟩
              refine sl_lines (s68.seqT hB) fun H9 p9 s9 hp9 => ?_
              refine ⟨p9, _, rfl, hp9, by show 2 ≤ sizeLine; decide, fun q hq => ?_⟩
              have hv9 := s9 _ _ hv8
              have h3 : upd H9 q (.tup [.ref z0, .ref p9]) fo = some (.lst vs) := by rw [upd_ne (ne_of_none hv9 hq)]; exact hv9
              refine ⟨fo, vs, _, rfl, rfl, h3, lvz, ?_⟩
              have tk := (TK.same s9).trans ((TK.new (K := K) (o := .tup [.ref z0, .ref p9]) hq).trans (TK.lst (o := .lst (vs ++ [.ref q])) h3))
              have tk2 := ((TK.new (K := K) (o := .tup [.ref z0, .ref p9]) hq).trans (TK.lst (o := .lst (vs ++ [.ref q])) h3))
              have nDf : D' ≠ fo := nfo8
              refine hn _ _ ⟨vs ++ [.ref q], rfl, same_mut (s68.trans (s9.trans (same_new hq))) hfo, upd_same, ?_, ?_⟩
              · rw [hwt, List.map_append]
                exact dpAll_app (prs_keep tk hdd8) (dpAll_one (.tup (TK.lst h3 _ _ (.inl (.inl upd_same))) (.cons (dp_keep tk _ _ (imm_part p0) hz0) (.cons (dp_lines (tk2 _ _ hp9)) .nil))))
              · rw [upd_ne nDf, upd_ne (ne_of_none (s9 _ _ hl8) hq)]
                exact s9 _ _ hl8
          rintro σ9 H9 ⟨vs', rfl, s9, hv9, hdd9, hl9⟩
          refine ⟨_, rfl, D', _, _, _, rfl, rfl, SqL.of hl9, at_head, _, rfl, _, _, rfl, rfl, ?_⟩
          refine ⟨⟨st.found ++ (match st.wait with | some c => [(c, cutL lines st.here j)] | none => []), j + ls.length, none⟩, .non, vs', some (.int (c : Int)), some (.ref z), some (.int (ls.length : Int)), some (.ref D'), rfl, s9, hv9, hdd9, rfl, hrun2, hj2, ?_⟩
          show (st.found ++ _).length ≤ c + 1
          rw [List.length_append]
          split
          · show _ + 1 ≤ _; omega
          · show _ + 0 ≤ _; omega
    · rintro σ H5 ⟨st, wv, vs, x5, x6, x7, x8, rfl, sm, hv, hdd, hw, hrun, hhere, hfl⟩
      rw [List.drop_length] at hrun
      have hend : betweenB lines ps = endB lines st := by
        unfold betweenB
        rw [← hrun]
        rfl
      have hl1 : (lines.length : Int) ≤ 500000 := by omega
      have lvs : vs.length = st.found.length := by rw [dpAll_len hdd, List.length_map]
      have lvz : vs.length < sizeLine := Nat.lt_of_le_of_lt (show vs.length ≤ 1000 by omega) (by decide)
      cases hwt : st.wait with
      | none =>
        rw [hwt] at hw
        have hwv : wv = .non := hw
        subst hwv
        refine ⟨_, rfl, rfl, _, rfl, ?_⟩
        refine ite2 (fun e => absurd e (by decide)) (fun _ => ?_)
        refine ⟨_, rfl, _, rfl, b, _, rfl, .inr (sm.seqT hB), rfl, _, rfl, ?_⟩
        have he : endB lines st = if st.here = lines.length then some st.found else none := by unfold endB; rw [hwt]
        by_cases q : st.here = lines.length
        · have e1 : decide (V.int ((st.here : Nat) : Int) = V.int (((lines.map V.str).length : Nat) : Int)) = true := decide_eq_true (by rw [q, List.length_map])
          rw [e1]
          refine iteT ?_
          refine ⟨_, rfl, ?_⟩
          exact kS st.found (by rw [hend, he, if_pos q]) H5 fo vs sm hv hdd
        · have e1 : decide (V.int ((st.here : Nat) : Int) = V.int (((lines.map V.str).length : Nat) : Int)) = false := decide_eq_false fun e => q (by have := V.int.inj e; rw [List.length_map] at this; omega)
          rw [e1]
          refine iteF ?_
          exact kN (by rw [hend, he, if_neg q]) H5 sm
      | some p0 =>
        rw [hwt] at hw
        obtain ⟨z0, rfl, hz0⟩ := hw
        have he : endB lines st = some (st.found ++ [(p0, lines.drop st.here)]) := by unfold endB; rw [hwt]
        refine ⟨_, rfl, rfl, _, rfl, ?_⟩
        refine ite2 (fun _ => ?_) (fun e => absurd rfl e)
        refine ⟨_, rfl, .inl ⟨rfl, _, SqL.of hv⟩, _, rfl, _, rfl, _, rfl, _, rfl, ?_⟩
        dsimp only [tNoPart]
        refine sl_linesFrom (sm.seqT hB) fun H8 p8 s8 hp8 => ?_
        refine ⟨p8, _, rfl, hp8, by show 2 ≤ sizeLine; decide, fun q hq => ?_⟩
        have hv8 := s8 _ _ hv
        have h3 : upd H8 q (.tup [.ref z0, .ref p8]) fo = some (.lst vs) := by rw [upd_ne (ne_of_none hv8 hq)]; exact hv8
        refine ⟨fo, vs, _, rfl, rfl, h3, lvz, ?_⟩
        have tk := (TK.same s8).trans ((TK.new (K := K) (o := .tup [.ref z0, .ref p8]) hq).trans (TK.lst (o := .lst (vs ++ [.ref q])) h3))
        have tk2 := ((TK.new (K := K) (o := .tup [.ref z0, .ref p8]) hq).trans (TK.lst (o := .lst (vs ++ [.ref q])) h3))
        have s9 : Same H (upd (upd H8 q (.tup [.ref z0, .ref p8])) fo (.lst (vs ++ [.ref q]))) := same_mut (sm.trans (s8.trans (same_new hq))) hfo
        refine ⟨_, rfl, b, _, rfl, .inr (s9.seqT hB), ?_⟩
        refine ⟨_, rfl, _, rfl, b, _, rfl, .inr (s9.seqT hB), rfl, _, rfl, ?_⟩
        refine ite2 (fun _ => ?_) (fun e => absurd (decide_eq_true rfl) e)
        refine ⟨_, rfl, ?_⟩
        refine kS _ (by rw [hend, he]) _ fo (vs ++ [.ref q]) s9 upd_same ?_
        rw [List.map_append]
        exact dpAll_app (prs_keep tk hdd) (dpAll_one (.tup (TK.lst h3 _ _ (.inl (.inl upd_same))) (.cons (dp_keep tk _ _ (imm_part p0) hz0) (.cons (dp_lines (tk2 _ _ hp8)) .nil))))
end
end VK
end

section
set_option Elab.async false
set_option linter.all false
set_option pp.maxSteps 1500
set_option maxRecDepth 100000
set_option maxHeartbeats 4000000
namespace VK
open PySem L2
/-- all rows learnt -/
def learn1 (m : Mem) (r : Part × List Str) : Mem := match r.1 with
  | .clash b o t => putM m (keyF b o t) r.2
  | .same _ => m
def learnAll (m : Mem) (rs : List (Part × List Str)) : Mem := rs.foldl learn1 m
theorem learn1_len (m : Mem) (r : Part × List Str) : (learn1 m r).length ≤ m.length + 1 := by
  unfold learn1
  split
  · exact put_len ..
  · exact Nat.le_succ _
theorem learn_len : ∀ (rs : List (Part × List Str)) (m : Mem), (learnAll m rs).length ≤ m.length + rs.length
  | [], m => Nat.le_refl _
  | r :: rs, m => by
    have q1 := learn_len rs (learn1 m r)
    have q2 := learn1_len m r
    show (learnAll (learn1 m r) rs).length ≤ _
    rw [List.length_cons]
    omega
def clashIn (ps : List Part) (p : Part) : Prop := p ∈ ps ∧ isS p = false
theorem runB_in {lines : List Str} {n : Nat} {all : List Part} : ∀ (ps : List Part) (i : Nat) (s s' : BS), (∀ p ∈ ps, p ∈ all) → (∀ x ∈ s.found, clashIn all x.1) → (∀ c, s.wait = some c → clashIn all c) → s.found.length ≤ i → runB lines n i s ps = some s' →
    (∀ x ∈ s'.found, clashIn all x.1) ∧ (∀ c, s'.wait = some c → clashIn all c) ∧ s'.found.length ≤ i + ps.length
  | [], i, s, s', _, h1, h2, h3, h => by
    have e := Option.some.inj h
    subst e
    exact ⟨h1, h2, h3⟩
  | p :: r, i, s, s', hp, h1, h2, h3, h => by
    have hm := hp p (List.mem_cons_self ..)
    have h : (match stepB lines n i s p with | none => none | some s' => runB lines n (i + 1) s' r) = some s' := h
    have go : ∀ s1 : BS, stepB lines n i s p = some s1 → (∀ x ∈ s1.found, clashIn all x.1) → (∀ c, s1.wait = some c → clashIn all c) → s1.found.length ≤ i + 1 → (∀ x ∈ s'.found, clashIn all x.1) ∧ (∀ c, s'.wait = some c → clashIn all c) ∧ s'.found.length ≤ i + (p :: r).length := fun s1 e1 a b c => by
      rw [e1] at h
      have q := runB_in r (i + 1) s1 s' (fun x hx => hp x (List.mem_cons_of_mem _ hx)) a b c h
      rw [List.length_cons]
      refine ⟨q.1, q.2.1, ?_⟩
      have := q.2.2
      omega
    cases p with
    | clash b o t =>
      refine go ⟨s.found, s.here, some (.clash b o t)⟩ rfl h1 (fun c hc => ?_) (Nat.le_succ_of_le h3)
      have e := Option.some.inj hc
      subst e
      exact ⟨hm, rfl⟩
    | same ls =>
      cases hpl : placeB lines ls s.here s.wait.isNone (decide (i + 1 = n)) with
      | none =>
        exfalso
        have e : stepB lines n i s (.same ls) = none := by
          show (match placeB lines ls s.here s.wait.isNone (decide (i + 1 = n)) with | none => none | some j => some (⟨s.found ++ (match s.wait with | some c => [(c, cutL lines s.here j)] | none => []), j + ls.length, none⟩ : BS)) = none
          rw [hpl]
        rw [e] at h
        cases h
      | some j =>
        refine go ⟨s.found ++ (match s.wait with | some c => [(c, cutL lines s.here j)] | none => []), j + ls.length, none⟩ ?_ ?_ (fun c hc => by cases hc) ?_
        · show (match placeB lines ls s.here s.wait.isNone (decide (i + 1 = n)) with | none => none | some j => some (⟨s.found ++ (match s.wait with | some c => [(c, cutL lines s.here j)] | none => []), j + ls.length, none⟩ : BS)) = _
          rw [hpl]
        · intro x hx
          rcases List.mem_append.mp hx with hx | hx
          · exact h1 x hx
          · cases hw : s.wait with
            | none => rw [hw] at hx; cases hx
            | some c =>
              rw [hw] at hx
              rw [List.mem_singleton.mp hx]
              exact h2 c hw
        · show (s.found ++ _).length ≤ _
          rw [List.length_append]
          split
          · show _ + 1 ≤ _; omega
          · show _ + 0 ≤ _; omega
theorem between_in {lines : List Str} {ps : List Part} {rs : List (Part × List Str)} (h : betweenB lines ps = some rs) : (∀ x ∈ rs, clashIn ps x.1) ∧ rs.length ≤ ps.length + 1 := by
  unfold betweenB at h
  split at h
  · cases h
  · next s hs =>
    obtain ⟨h1, h2, h3⟩ := runB_in (all := ps) ps 0 ⟨[], 0, none⟩ s (fun _ h => h) (fun _ h => nomatch h) (fun _ h => nomatch h) (Nat.le_refl _) hs
    unfold endB at h
    split at h
    · next c hc =>
      have e := Option.some.inj h
      subst e
      refine ⟨fun x hx => ?_, by rw [List.length_append, List.length_singleton]; omega⟩
      rcases List.mem_append.mp hx with hx | hx
      · exact h1 x hx
      · rw [List.mem_singleton.mp hx]
        exact h2 c hc
    · split at h
      · have e := Option.some.inj h
        subst e
        exact ⟨h1, by omega⟩
      · cases h
abbrev s_Memory_learn_from : Stmt := mthS 33 6
theorem sc_Memory_learn_from : FnScope ["self", "parts", "text", "rows", "clash", "lines"] ["self", "parts", "text"] (defScope s_Memory_learn_from) := ⟨rfl, rfl, rfl, by decide +kernel, rfl, by decide +kernel, by decide +kernel⟩
def spLearnF (K : PySem.W.Frag) (C : Addr) : Sp := fun vs H Q _ => ∃ (am ad a : Addr) (z : Str) (m : Mem) (ps : List Part) (lines : List Str), vs = [.ref am, .ref a, .str z] ∧ MemAt K H C am ad m ∧ m.length ≤ 500 ∧ Dp K H (.ref a) (partsD ps) ∧ z.length ≤ 10000000 ∧ (linesN [] z.cps.toList).map mkS = lines ∧ OkL lines ∧ (∀ p ∈ ps, okP p) ∧ (∀ p ∈ ps, smP p) ∧ lines.length ≤ 500000 ∧ ps.length ≤ 100 ∧ (∀ p ∈ ps, plP p ≤ 40000) ∧
  (betweenB lines ps = none → ∀ H' : Hp, Same H H' → Q .non H') ∧
  (∀ rs, betweenB lines ps = some rs → ∀ H' : Hp, Sv ad H H' → TK K H H' → MemAt K H' C am ad (learnAll m rs) → Q (.int ((rs.length : Nat) : Int)) H')
section
variable {P : Program} {w : World} {K : PySem.W.Frag} {mg : Str → Option Value} {base : Heap} {C : Addr}
theorem ok_learnF {f fB fL fG fP : Addr} {fd fdB fdL fdG fdP : FuncData} (F : Fun K "learn_from" "Memory.learn_from" s_Memory_learn_from f fd) (T0 : Txt0 mg) (cl : Cls K C)
    (D_settled_between : Df K mg "settled_between" s_settled_between ["parts", "lines"] fB fdB) (D_place_behind : Df K mg "place_behind" s_place_behind ["lines", "part", "here", "at_once", "last"] fP fdP) (D_lines_of : Df K mg "lines_of" s_lines_of ["text"] fL fdL)
    (M_learn : MtD K C "learn" "Memory.learn" s_Memory_learn ["self", "clash", "lines"] fG fdG) (G_learn : FnOk P w K mg base CX0 4 fG fdG ["self", "clash", "lines"] (spLearn K C)) : FnOk P w K mg base CX0 5 f fd ["self", "parts", "text"] (spLearnF K C) := by
  have G_settled_between : FnOk P w K mg base CX0 2 fB fdB ["parts", "lines"] (spBetween K) := ok_between D_settled_between.F T0 D_place_behind
  have G_lines_of : FnOk P w K mg base CX0 1 fL fdL ["text"] (spLinesOf K) := ok_lines_of D_lines_of.F T0
  refine F.ok sc_Memory_learn_from (fun vs H Q E h => ?_) (fun cdv A outer s H vs Q E hr h => ?_)
  · obtain ⟨am, ad, a, z, m, ps, lines, rfl, _⟩ := h
    rfl
  · obtain ⟨am, ad, a, z, m, ps, lines, rfl, hM, hm, hA, hz, hlz, okl, okp, hsm, hl, hpl, hpp, kN, kS⟩ := h
    refine ⟨_, (pss_cons (ps_set (i := 3) sc_Memory_learn_from.nd rfl (Or.inl rfl) (pe_call G_settled_between (hr.mono (by decide)) rfl D_settled_between.m D_settled_between.F.kp D_settled_between.b .nil pass0 (pa_cons (pv 1) (pa_cons (pe_call G_lines_of (hr.mono (by decide)) rfl D_lines_of.m D_lines_of.F.kp D_lines_of.b .nil pass0 (pa_cons (pv 2) pa_nil)) pa_nil))))
      (pss_cons (ps_if (pt_cmpR op_isN (pv 3) pe_non (nomark _))
        (pss_one (ps_ret pe_non))
        pss_nil)
      (pss_cons (ps_for PassesOwn.never rfl (pi_list (pv 3)) (pg_tup rfl (pgs_cons (pg_name (i := 4) sc_Memory_learn_from.nd rfl (Or.inl rfl)) (pgs_cons (pg_name (i := 5) sc_Memory_learn_from.nd rfl (Or.inl rfl)) pgs_nil)))
        (pss_one (ps_expr (pe_meth (pv 0) cl M_learn.m G_learn (hr.mono (by decide)) M_learn.b .nil pass0 (pa_cons (pv 4) (pa_cons (pv 5) pa_nil))))))
      (pss_one (ps_ret (pe_callB call_len_seq (by rfl) T0.z_len PySem.boot_len (pa_cons (pv 3) pa_nil))))))), ?_⟩
    refine ⟨_, rfl, _, rfl, z, rfl, hz, fun H1 pl s1 hpl1 => ?_⟩
    rw [hlz] at hpl1
    refine ⟨a, pl, ps, lines, rfl, dp_keep (TK.same s1) _ _ (immAll_map _ imm_part ps) hA, hpl1, okl, okp, hl, hpl, hpp, fun hn H2 s2 => ?_, fun rs hrs H2 pr ws s2 hpr hd => ?_⟩
    · refine ⟨_, rfl, rfl, _, rfl, ?_⟩
      refine iteT ?_
      exact kN hn H2 (s1.trans s2)
    · obtain ⟨hin, hrl⟩ := between_in hrs
      have s12 := s1.trans s2
      refine ⟨_, rfl, rfl, _, rfl, ?_⟩
      refine ite2 (fun e => nomatch (of_decide_eq_true e)) (fun _ => ?_)
      have lw : ws.length = rs.length := by rw [dpAll_len hd, List.length_map]
      obtain ⟨dx, hi⟩ := hM.ins
      have hM2 : MemAt K H2 C am ad m := ⟨⟨dx, s12 _ _ hi⟩, hM.kd.same s12⟩
      have nra : pr ≠ ad := by
        rintro rfl
        obtain ⟨kvs, hk, _⟩ := hM2.kd
        rw [hpr] at hk
        cases hk
      refine ⟨_, rfl, pr, rfl, ⟨_, SqL.of hpr⟩, ?_⟩
      refine for_it (walk_list (xs := ws)) (fun c σ H' => ∃ (x4 x5 : Option V), σ = [some (.ref am), some (.ref a), some (.str z), some (.ref pr), x4, x5] ∧ Sv ad H2 H' ∧ TK K H2 H' ∧ MemAt K H' C am ad (learnAll m (rs.take c))) ?_ (fun c σ H' _ h => ?_) ?_ ?_
      · exact ⟨none, none, rfl, Sv.refl _ _, TK.refl _ _, hM2⟩
      · obtain ⟨x4, x5, rfl, h1, h2⟩ := h
        exact SqL.of (h1 _ _ nra hpr)
      · rintro c x σ H5o H5 hc ⟨x4, x5, rfl, sv, tk, hMc⟩ ⟨rfl, hx⟩
        have hcf : c < rs.length := by rw [← lw]; exact hc
        obtain ⟨r, hr'⟩ : ∃ r, r = rs[c] := ⟨_, rfl⟩
        have hf : rs[c]? = some r := by rw [List.getElem?_eq_getElem hcf, hr']
        obtain ⟨hrm, hrc⟩ := hin r (List.mem_of_getElem? hf)
        obtain ⟨v, hv1, hv2⟩ := dpAll_at (prs_keep tk hd) (k := c) (d := prD r) (by rw [List.getElem?_map, hf]; rfl)
        obtain rfl : v = x := Option.some.inj (hv1.symm.trans hx)
        obtain ⟨pp, lsr⟩ := r
        cases pp with
        | same ls => cases hrc
        | clash b o t =>
          obtain ⟨T, us, rfl, hT, hds⟩ := of_tupD hv2
          cases hds with
          | cons d1 hds =>
            cases hds with
            | cons d2 hds =>
              cases hds
              obtain ⟨y, rfl, hy⟩ := of_lines d2
              obtain ⟨zc, x1, x2, x3, rfl, _⟩ := of_clash d1
              obtain ⟨l1, l2, l3⟩ := hsm _ hrm
              have etk : rs.take (c + 1) = rs.take c ++ [(.clash b o t, lsr)] := by rw [List.take_succ, hf]; rfl
              have elr : learnAll m (rs.take (c + 1)) = putM (learnAll m (rs.take c)) (keyF b o t) lsr := by
                rw [etk]
                unfold learnAll
                rw [List.foldl_append]
                rfl
              have lml : (learnAll m (rs.take c)).length ≤ 1000 := by
                have q := learn_len (rs.take c) m
                rw [List.length_take] at q
                omega
              obtain ⟨dx5, hi5⟩ := hMc.ins
              refine ⟨T, _, rfl, hT, rfl, _, _, rfl, _, _, rfl, rfl, ?_⟩
              refine ⟨_, rfl, am, dx5, _, rfl, hi5, rfl, _, rfl, _, rfl, am, ad, zc, y, learnAll m (rs.take c), b, o, t, lsr, rfl, hMc, lml, d1, hy, l1, l2, l3, fun H6 sv6 tk6 hM6 => ?_⟩
              exact ⟨_, _, rfl, sv.trans sv6, tk.trans tk6, by rw [elr]; exact hM6⟩
      · rintro σ H5 ⟨x4, x5, rfl, sv, tk, hMc⟩
        rw [lw, List.take_length] at hMc
        refine ⟨_, rfl, pr, _, rfl, .inl (SqL.of (sv _ _ nra hpr)), ?_⟩
        rw [lw]
        exact kS rs hrs H5 ((Sv.same s12).trans sv) ((TK.same s12).trans tk) hMc
end
abbrev s_Memory_merge : Stmt := mthS 33 7
theorem sc_Memory_merge : FnScope ["self", "base", "one", "two", "names", "parts", "part"] ["self", "base", "one", "two", "names"] (defScope s_Memory_merge) := ⟨rfl, rfl, rfl, by decide +kernel, rfl, by decide +kernel, by decide +kernel⟩
def partsOf (base one two : List Str) : List Part := partsF base (hunksL base one) (hunksL base two)
def cntC (ps : List Part) : Nat := (ps.filter fun p => !isS p).length
def spMergeM (K : PySem.W.Frag) (C : Addr) : Sp := fun vs H Q _ => ∃ (am ad nm : Addr) (z0 z1 z2 : Str) (m : Mem) (n0 n1 : Str) (base one two : List Str) (left : List Part), vs = [.ref am, .str z0, .str z1, .str z2, .ref nm] ∧ MemAt K H C am ad m ∧ SqT K H nm [.str n0, .str n1] ∧ n0.length ≤ 50 ∧ n1.length ≤ 50 ∧ z0.length ≤ 10000000 ∧ z1.length ≤ 10000000 ∧ z2.length ≤ 10000000 ∧
  (linesN [] z0.cps.toList).map mkS = base ∧ (linesN [] z1.cps.toList).map mkS = one ∧ (linesN [] z2.cps.toList).map mkS = two ∧ base.length ≤ 10 ∧ one.length ≤ 10 ∧ two.length ≤ 10 ∧ OkL base ∧ OkL one ∧ OkL two ∧
  (partsOf base one two).length ≤ 100 ∧ (∀ p ∈ partsOf base one two, smP p) ∧ (∀ q ∈ (partsOf base one two).map (setM m), plP q ≤ 40000) ∧ left = tidyF ((partsOf base one two).map (setM m)) ∧ left.length ≤ 100 ∧ (∀ p ∈ left, plP p ≤ 20000) ∧ (∀ p ∈ left, shP 100 p) ∧ ((mkd n0 n1 [] left).map (·.length)).sum ≤ 16777216 ∧
  ∀ (H' : Hp) (p : Addr), Same H H' → SqT K H' p [.str (Txt.join ("" : Str) (mkd n0 n1 [] left)), .int (cntC left : Int)] → Q (.ref p) H'
section
variable {P : Program} {w : World} {K : PySem.W.Frag} {mg : Str → Option Value} {base : Heap} {C : Addr}
theorem ok_mergeM {f fM fL fX fK fE fT : Addr} {fd fdM fdL fdX fdK fdE fdT : FuncData} (F : Fun K "merge" "Memory.merge" s_Memory_merge f fd) (T0 : Txt0 mg) (cl : Cls K C)
    (D_merged_parts : Df K mg "merged_parts" s_merged_parts ["base", "one", "two"] fM fdM) (G_merged_parts : FnOk P w K mg base CX0 4 fM fdM ["base", "one", "two"] (spMerged K)) (D_lines_of : Df K mg "lines_of" s_lines_of ["text"] fL fdL) (D_text_from : Df K mg "text_from" s_text_from ["lines"] fX fdX)
    (D_marked_lines : Df K mg "marked_lines" s_marked_lines ["parts", "names"] fK fdK) (D_ended : Df K mg "ended" s_ended ["lines"] fE fdE)
    (M_settle : MtD K C "settle" "Memory.settle" s_Memory_settle ["self", "parts"] fT fdT) (G_settle : FnOk P w K mg base CX0 5 fT fdT ["self", "parts"] (spSettle K C)) : FnOk P w K mg base CX0 6 f fd ["self", "base", "one", "two", "names"] (spMergeM K C) := by
  have G_lines_of : FnOk P w K mg base CX0 1 fL fdL ["text"] (spLinesOf K) := ok_lines_of D_lines_of.F T0
  have G_text_from : FnOk P w K mg base CX0 1 fX fdX ["lines"] (spText K) := ok_text D_text_from.F
  have G_marked_lines : FnOk P w K mg base CX0 2 fK fdK ["parts", "names"] (spMarked K) := ok_marked D_marked_lines.F T0 D_ended
  refine F.ok sc_Memory_merge (fun vs H Q E h => ?_) (fun cdv A outer s H vs Q E hr h => ?_)
  · obtain ⟨am, ad, nm, z0, z1, z2, m, n0, n1, bs, one, two, left, rfl, _⟩ := h
    rfl
  · obtain ⟨am, ad, nm, z0, z1, z2, m, n0, n1, bs, one, two, left, rfl, hM, hN, ln0, ln1, lz0, lz1, lz2, e0, e1, e2, lb, lo, lt, ob, oo, ot, hpl, hsm, hsz, el, ll, lpl, lsh, hsum, k⟩ := h
    refine ⟨_, (pss_cons (ps_set (i := 5) sc_Memory_merge.nd rfl (Or.inl rfl) (pe_meth (pv 0) cl M_settle.m G_settle (hr.mono (by decide)) M_settle.b .nil pass0 (pa_cons (pe_call G_merged_parts (hr.mono (by decide)) rfl D_merged_parts.m D_merged_parts.F.kp D_merged_parts.b .nil pass0 (pa_cons (pe_call G_lines_of (hr.mono (by decide)) rfl D_lines_of.m D_lines_of.F.kp D_lines_of.b .nil pass0 (pa_cons (pv 1) pa_nil)) (pa_cons (pe_call G_lines_of (hr.mono (by decide)) rfl D_lines_of.m D_lines_of.F.kp D_lines_of.b .nil pass0 (pa_cons (pv 2) pa_nil)) (pa_cons (pe_call G_lines_of (hr.mono (by decide)) rfl D_lines_of.m D_lines_of.F.kp D_lines_of.b .nil pass0 (pa_cons (pv 3) pa_nil)) pa_nil)))) pa_nil)))
      (pss_one (ps_ret (pe_tup (pa_cons (pe_call G_text_from (hr.mono (by decide)) rfl D_text_from.m D_text_from.F.kp D_text_from.b .nil pass0 (pa_cons (pe_call G_marked_lines (hr.mono (by decide)) rfl D_marked_lines.m D_marked_lines.F.kp D_marked_lines.b .nil pass0 (pa_cons (pv 5) (pa_cons (pv 4) pa_nil))) pa_nil)) (pa_cons (pe_callB call_len_seq (by rfl) T0.z_len PySem.boot_len (pa_cons (pe_lc (own := [("part", 6)]) (g := gName 6) (tt := _) rfl sc_Memory_merge.nd (pi_tup (pv 5)) (blkOk_by (own := [("part", 6)]) (N := ["self", "base", "one", "two", "names", "parts", "part"]) (sc := defScope s_Memory_merge) (by decide +kernel)) (fun _ _ _ _ _ => (pg_name (i := 6) sc_Memory_merge.nd rfl (Or.inl rfl))) (fun _ _ _ _ _ => (pts_one (pt_cmpR op_eq (pe_ix (ix_tupQ (K := K) rfl) (pv 6) pe_int (fun _ _ => rfl)) pe_str (nomark _)))) (fun _ _ _ _ _ => (pv 6))) pa_nil)) pa_nil)))))), ?_⟩
    obtain ⟨dx, hi⟩ := hM.ins
    refine ⟨_, rfl, am, dx, _, rfl, hi, rfl, ?_⟩
    refine ⟨_, rfl, z0, rfl, lz0, fun H1 p0 s1 hp0 => ?_⟩
    refine ⟨_, rfl, z1, rfl, lz1, fun H2 p1 s2 hp1 => ?_⟩
    refine ⟨_, rfl, z2, rfl, lz2, fun H3 p2 s3 hp2 => ?_⟩
    rw [e0] at hp0
    rw [e1] at hp1
    rw [e2] at hp2
    have s03 := s1.trans (s2.trans s3)
    refine ⟨p0, p1, p2, bs, one, two, rfl, (s2.trans s3).seqT hp0, s3.seqT hp1, hp2, lb, lo, lt, ob, oo, ot, fun H4 v s4 hv => ?_⟩
    have hv' : Dp K H4 v (partsD (partsOf bs one two)) := hv
    obtain ⟨a1, ws, rfl, ha, hd⟩ := of_tupD hv'
    have s04 := s03.trans s4
    refine ⟨am, ad, a1, m, partsOf bs one two, rfl, ⟨⟨dx, s04 _ _ hi⟩, hM.kd.same s04⟩, hv', hpl, hsm, hsz, fun H5 v5 s5 hv5 => ?_⟩
    rw [← el] at hv5
    obtain ⟨a5, w5, rfl, ha5, hd5⟩ := of_tupD hv5
    have s05 := s04.trans s5
    refine ⟨_, rfl, _, rfl, a5, nm, left, n0, n1, rfl, hv5, s05.seqT hN, ln0, ln1, ll, lpl, lsh, fun H6 p6 s6 hp6 => ?_⟩
    refine ⟨p6, _, rfl, hp6, hsum, ?_⟩
    have l5 : w5.length = left.length := by rw [dpAll_len hd5, List.length_map]
    have ha6 := s6.seqT ha5
    have hd6 := parts_keep (TK.same s6) hd5
    refine ⟨_, rfl, a5, rfl, ⟨_, ha6⟩, fun D hD => ?_⟩
    refine lc_tup (xs := w5) (fun t H' => ∃ ys, H' D = some (.lst ys) ∧ Same H6 H' ∧ ys.length = cntC (left.take t)) ⟨[], upd_same, same_new hD, rfl⟩ (fun t H' _ h => by obtain ⟨ys, h1, h2, h3⟩ := h; exact h2.seqT ha6) ?_ ?_
    · rintro t x H8 hx ⟨ys, hys, s8, hly⟩
      have ht : t < left.length := by rw [← l5]; exact (List.getElem?_eq_some_iff.mp hx).1
      obtain ⟨p, hp⟩ : ∃ p, p = left[t] := ⟨_, rfl⟩
      have hrt : left[t]? = some p := by rw [List.getElem?_eq_getElem ht, hp]
      obtain ⟨v, hv1, hv2⟩ := dpAll_at (parts_keep (TK.same s8) hd6) (k := t) (d := partD p) (by rw [List.getElem?_map, hrt]; rfl)
      obtain rfl : v = x := Option.some.inj (hv1.symm.trans hx)
      obtain ⟨z, r, rfl, hz⟩ := of_part hv2
      have etk : left.take (t + 1) = left.take t ++ [p] := by rw [List.take_succ, hrt]; rfl
      have lc : cntC (left.take t) ≤ 1000 := by
        have q := List.length_filter_le (fun p => !isS p) (left.take t)
        rw [List.length_take] at q
        unfold cntC
        omega
      refine ⟨rfl, _, rfl, z, _, _, _, rfl, rfl, hz, at_head, rfl, _, rfl, ?_⟩
      refine ite2 (fun e => ?_) (fun e => ?_)
      · rw [tag_clash] at e
        refine ⟨_, rfl, ys, hys, Nat.lt_of_le_of_lt (show ys.length ≤ 1000 by omega) (by decide), ys ++ [.ref z], upd_same, same_mut s8 hD, ?_⟩
        unfold cntC at hly ⊢
        rw [etk, List.filter_append, List.filter_cons_of_pos (p := fun p => !isS p) e, List.length_append, List.length_append, hly]
        rfl
      · rw [tag_clash] at e
        refine ⟨ys, hys, s8, ?_⟩
        unfold cntC at hly ⊢
        rw [etk, List.filter_append, List.filter_cons_of_neg (p := fun p => !isS p) e, List.filter_nil, List.append_nil, hly]
    · rintro H8 ⟨ys, hys, s8, hly⟩
      rw [l5, List.take_length] at hly
      refine ⟨D, ys, rfl, .inl (SqL.of hys), by show 2 ≤ sizeLine; decide, fun p hp => ?_⟩
      rw [hly]
      exact k _ p (s05.trans (s6.trans (s8.trans (same_new hp)))) (.inl (.inl upd_same))
end
end VK
end

section
set_option Elab.async false
set_option linter.all false
set_option pp.maxSteps 1500
set_option maxRecDepth 100000
set_option maxHeartbeats 4000000
namespace VK
open PySem L2
abbrev s__law_varied : Stmt := topS 48
theorem sc__law_varied : FnScope ["state", "lines", "found", "line", "way"] ["state", "lines"] (defScope s__law_varied) := ⟨rfl, rfl, rfl, by decide +kernel, rfl, by decide +kernel, by decide +kernel⟩
theorem xyz_at {d : Int} (h0 : 0 ≤ d) (h1 : d < 3) : ∃ c : Nat, (c ≠ 10 ∧ c < 256) ∧ atI ("xyz" : Str).cps.toList d = some c := by
  have h : d = 0 ∨ d = 1 ∨ d = 2 := by omega
  rcases h with rfl | rfl | rfl
  · exact ⟨120, ⟨by decide, by decide⟩, by decide +kernel⟩
  · exact ⟨121, ⟨by decide, by decide⟩, by decide +kernel⟩
  · exact ⟨122, ⟨by decide, by decide⟩, by decide +kernel⟩
theorem Lns.app {xs ys : List Str} (h1 : Lns xs) (h2 : Lns ys) : Lns (xs ++ ys) := fun x hx => (List.mem_append.mp hx).elim (h1 x) (h2 x)
theorem Lns.one {x : Str} (h : Ln x) : Lns [x] := fun y hy => by rw [List.mem_singleton.mp hy]; exact h
def spVaried (K : PySem.W.Frag) : Sp := fun vs H Q _ => ∃ (st sc a : Addr) (ns : List Int) (ls : List Str), vs = [.ref st, .ref a] ∧ StAt K H st sc ns ∧ SqT K H a (ls.map V.str) ∧ Lns ls ∧ ls.length ≤ 8 ∧
  ∀ (H' : Hp) (t : Addr) (rs : List Str), Sv st H H' → StAt K H' st sc ns → SqT K H' t (rs.map V.str) → Lns rs → rs.length ≤ 8 → Q (.ref t) H'
/-- tuples stay while the state is written -/
theorem StAt.tks {K : PySem.W.Frag} {H H' : Hp} {st sc : Addr} {ns : List Int} (h : StAt K H st sc ns) (s : Sv st H H') : TK K H H' := h.tk s
section
variable {P : Program} {w : World} {K : PySem.W.Frag} {mg : Str → Option Value} {base : Heap}
theorem ok_varied {f fD : Addr} {fd fdD : FuncData} (F : Fun K "_law_varied" "_law_varied" s__law_varied f fd) (T0 : Txt0 mg) (D__law_draw : Df K mg "_law_draw" s__law_draw ["state", "limit"] fD fdD) : FnOk P w K mg base CX0 2 f fd ["state", "lines"] (spVaried K) := by
  have G__law_draw : FnOk P w K mg base CX0 1 fD fdD ["state", "limit"] (spDraw K) := ok_draw D__law_draw.F T0
  refine F.ok sc__law_varied (fun vs H Q E h => ?_) (fun cdv A outer s H vs Q E hr h => ?_)
  · obtain ⟨st, sc, a, ns, ls, rfl, _⟩ := h
    rfl
  · obtain ⟨st, sc, a, ns, ls, rfl, hS, hA, hL, hl, k⟩ := h
    refine ⟨_, (pss_cons (ps_set (i := 2) sc__law_varied.nd rfl (Or.inl rfl) (pe_tup pa_nil))
      (pss_cons (ps_for PassesOwn.never rfl (pi_tup (pv 1)) (pg_name (i := 3) sc__law_varied.nd rfl (Or.inl rfl))
        (pss_cons (ps_set (i := 4) sc__law_varied.nd rfl (Or.inl rfl) (pe_call G__law_draw (hr.mono (by decide)) rfl D__law_draw.m D__law_draw.F.kp D__law_draw.b .nil pass0 (pa_cons (pv 0) (pa_cons pe_int pa_nil))))
        (pss_one (ps_if (pt_cmpR op_lt (pv 4) pe_int (nomark _))
          (pss_one (ps_set (i := 2) sc__law_varied.nd rfl (Or.inl rfl) (pe_op op_catA (pv 2) (pe_tup (pa_cons (pv 3) pa_nil)))))
          (pss_one (ps_if (pt_cmpR op_eq (pv 4) pe_int (nomark _))
            (pss_one (ps_set (i := 2) sc__law_varied.nd rfl (Or.inl rfl) (pe_op op_catA (pv 2) (pe_tup (pa_cons (pe_op op_add_str (pe_ix ix_str pe_str (pe_call G__law_draw (hr.mono (by decide)) rfl D__law_draw.m D__law_draw.F.kp D__law_draw.b .nil pass0 (pa_cons (pv 0) (pa_cons pe_int pa_nil))) (fun _ _ => rfl)) pe_str) pa_nil)))))
            pss_nil))))))
      (pss_one (ps_ret (pv 2))))), ?_⟩
    refine ⟨by show 0 ≤ sizeLine; decide, fun fo hfo => ?_⟩
    have s0 : Same H (upd H fo (.tup [])) := same_new hfo
    refine ⟨_, rfl, a, rfl, ⟨_, s0.seqT hA⟩, ?_⟩
    refine for_it (walk_tup (xs := ls.map V.str)) (fun c σ H' => ∃ (q : Addr) (fs : List Str) (x3 x4 : Option V), σ = [some (.ref st), some (.ref a), some (.ref q), x3, x4] ∧ Sv st H H' ∧ StAt K H' st sc ns ∧ SqT K H' q (fs.map V.str) ∧ Lns fs ∧ fs.length ≤ c) ?_ (fun c σ H' _ h => ?_) ?_ ?_
    · exact ⟨fo, [], none, none, rfl, Sv.same s0, hS.sv s0, .inl (.inl upd_same), (fun _ h => nomatch h), Nat.zero_le _⟩
    · obtain ⟨q, fs, x3, x4, rfl, h1, h2⟩ := h
      exact hS.tk h1 _ _ hA
    · rintro c x σ H5o H5 hc ⟨q, fs, x3, x4, rfl, sv, hs, hq, hfl, hfn⟩ ⟨rfl, hx⟩
      rw [List.getElem?_map] at hx
      obtain ⟨y, hy, rfl⟩ := Option.map_eq_some_iff.mp hx
      have hyl := hL y (List.mem_of_getElem? hy)
      rw [List.length_map] at hc
      refine ⟨_, rfl, st, sc, ns, 5, rfl, hs, by decide, by decide, fun d s0' p s3 hd0 hd1 hp => ?_⟩
      obtain ⟨H6, e6⟩ : ∃ H6, H6 = upd H5 st (.lst (stL s0' p sc s3)) := ⟨_, rfl⟩
      rw [← e6]
      have sv6 : Sv st H5 H6 := by rw [e6]; exact Sv.at_
      have hs6 : StAt K H6 st sc ns := hs.to sv6 (by rw [e6, upd_same]) hp
      have hq6 := hs.tk sv6 _ _ hq
      dsimp only [gName]
      refine ⟨_, rfl, _, _, rfl, rfl, _, rfl, ?_⟩
      refine ite2 (fun _ => ?_) (fun _ => ?_)
      · refine ⟨_, rfl, _, rfl, by show 1 ≤ sizeLine; decide, fun t1 ht1 => ?_⟩
        refine cat_linesB (ys := [y]) ((same_new ht1).seqT hq6) (.inl (.inl upd_same)) (by show fs.length + 1 ≤ _; omega) fun H7 u s7 hu => ?_
        have s67 := (same_new (o := .tup [.str y]) ht1).trans s7
        exact ⟨u, fs ++ [y], _, _, rfl, sv.trans (sv6.trans (Sv.same s67)), hs6.sv s67, hu, hfl.app (.one hyl), by rw [List.length_append]; exact Nat.succ_le_succ hfn⟩
      · refine ⟨_, rfl, rfl, _, rfl, ?_⟩
        refine ite2 (fun _ => ?_) (fun _ => ?_)
        · refine ⟨_, rfl, _, rfl, st, sc, ns, 3, rfl, hs6, by decide, by decide, fun d2 t0 tp t3 hd20 hd21 hp2 => ?_⟩
          obtain ⟨cc, hcc, hat⟩ := xyz_at hd20 hd21
          obtain ⟨H7, e7⟩ : ∃ H7, H7 = upd H6 st (.lst (stL t0 tp sc t3)) := ⟨_, rfl⟩
          rw [← e7]
          have sv7 : Sv st H6 H7 := by rw [e7]; exact Sv.at_
          have hs7 : StAt K H7 st sc ns := hs6.to sv7 (by rw [e7, upd_same]) hp2
          have hq7 := hs6.tk sv7 _ _ hq6
          refine ⟨_, d2, cc, rfl, rfl, by decide +kernel, hat, _, _, rfl, rfl, (by show (1 : Nat) + 1 ≤ sizeLine; decide), by show 1 ≤ sizeLine; decide, fun t1 ht1 => ?_⟩
          refine cat_linesB (ys := [(⟨#[cc]⟩ : Str) ++ ("\n" : Str)]) ((same_new ht1).seqT hq7) (.inl (.inl upd_same)) (by show fs.length + 1 ≤ _; omega) fun H8 u s8 hu => ?_
          have s78 := (same_new (o := .tup [.str ((⟨#[cc]⟩ : Str) ++ ("\n" : Str))]) ht1).trans s8
          exact ⟨u, fs ++ [(⟨#[cc]⟩ : Str) ++ ("\n" : Str)], _, _, rfl, sv.trans (sv6.trans (sv7.trans (Sv.same s78))), hs7.sv s78, hu, hfl.app (.one (ln_mk cc hcc)), by rw [List.length_append]; exact Nat.succ_le_succ hfn⟩
        · exact ⟨q, fs, _, _, rfl, sv.trans sv6, hs6, hq6, hfl, Nat.le_succ_of_le hfn⟩
    · rintro σ H5 ⟨q, fs, x3, x4, rfl, sv, hs, hq, hfl, hfn⟩
      rw [List.length_map] at hfn
      exact ⟨_, rfl, k _ q fs sv hs hq hfl (Nat.le_trans hfn hl)⟩
end
end VK
end

section
set_option Elab.async false
set_option linter.all false
set_option pp.maxSteps 1500
set_option maxRecDepth 100000
set_option maxHeartbeats 4000000
namespace VK
open PySem L2
theorem sumL_le {n : Nat} : ∀ {ls : List Str}, (∀ x ∈ ls, x.length ≤ n) → (ls.map (·.length)).sum ≤ n * ls.length
  | [], _ => Nat.zero_le _
  | x :: r, h => by
    have q1 := sumL_le (ls := r) fun y hy => h y (List.mem_cons_of_mem _ hy)
    have q2 := h x (List.mem_cons_self ..)
    rw [List.map_cons, List.sum_cons, List.length_cons, Nat.mul_succ]
    omega
/-! the lines of the law -/
theorem ln_len {x : Str} (h : Ln x) : x.length = 2 := by
  obtain ⟨c, _, _, h3⟩ := h
  show x.cps.size = 2
  rw [← Array.length_toList, h3]; rfl
theorem lnOk {x : Str} (h : Ln x) : PyData.strOk x = true := by
  obtain ⟨c, _, h2, h3⟩ := h
  show x.cps.all (· < 0x110000) = true
  rw [← Array.all_toList, h3]
  simp
  omega
theorem ln_end {x : Str} (h : Ln x) : EndD x := by
  obtain ⟨c, h1, _, h3⟩ := h
  refine ⟨[c], h3, ?_⟩
  simp only [List.mem_singleton]
  omega
theorem lns_ok {ls : List Str} (h : Lns ls) : OkL ls := fun x hx => lnOk (h x hx)
theorem lns_sum {ls : List Str} (h : Lns ls) : (ls.map (·.length)).sum ≤ 2 * ls.length := sumL_le fun x hx => Nat.le_of_eq (ln_len (h x hx))
abbrev opE : Str := "end"
theorem op_end : Op opE := ⟨by decide +kernel, by decide +kernel⟩
theorem lns_lines {ls : List Str} (h : Lns ls) : (linesN [] (Txt.join "" ls).cps.toList).map mkS = ls := by
  have q := linesN_LE op_end (ls := ls) (.inl fun x hx => ln_end (h x hx))
  rw [← joinE_tl] at q
  exact q
/-! the parts -/
def totP : Part → Nat
  | .same ls => ls.length
  | .clash b o t => b.length + o.length + t.length
def tot (ps : List Part) : Nat := (ps.map totP).sum
theorem tot_cons (p : Part) (r : List Part) : tot (p :: r) = totP p + tot r := by unfold tot; rw [List.map_cons, List.sum_cons]
theorem tot_app (a b : List Part) : tot (a ++ b) = tot a + tot b := by
  unfold tot
  rw [List.map_append, List.sum_append]
theorem tot_one (p : Part) : tot [p] = totP p := by
  rw [tot_cons]; rfl
theorem snoc_cases (found : List Part) : found = [] ∨ (∃ init xs, found = init ++ [.same xs]) ∨ ∃ init b o t, found = init ++ [.clash b o t] := by
  rcases List.eq_nil_or_concat found with rfl | ⟨init, x, rfl⟩
  · exact .inl rfl
  · rw [List.concat_eq_append]
    cases x with
    | same xs => exact .inr (.inl ⟨init, xs, rfl⟩)
    | clash b o t => exact .inr (.inr ⟨init, b, o, t, rfl⟩)
theorem add_same_same (init : List Part) (xs : List Str) (l : Str) (ls : List Str) : addPart (init ++ [Part.same xs]) (.same (l :: ls)) = init ++ [.same (xs ++ (l :: ls))] := by simp [addPart]
theorem add_clash_same (init : List Part) (b o t : List Str) (l : Str) (ls : List Str) : addPart (init ++ [Part.clash b o t]) (.same (l :: ls)) = init ++ [.clash b o t] ++ [.same (l :: ls)] := by simp [addPart]
theorem tot_add (found : List Part) (p : Part) : tot (addPart found p) = tot found + totP p := by
  cases p with
  | clash b o t => show tot (found ++ _) = _; rw [tot_app, tot_one]
  | same ls =>
    cases ls with
    | nil => rfl
    | cons l ls =>
      rcases snoc_cases found with rfl | ⟨init, xs, rfl⟩ | ⟨init, b, o, t, rfl⟩
      · show tot ([] ++ _) = _
        rw [tot_app, tot_one]
      · rw [add_same_same, tot_app, tot_app, tot_one, tot_one]
        show _ + (xs ++ (l :: ls)).length = _ + xs.length + (l :: ls).length
        rw [List.length_append]; omega
      · rw [add_clash_same, tot_app, tot_one]
theorem tot_fold : ∀ (ps found : List Part), tot (ps.foldl addPart found) = tot found + tot ps
  | [], found => by rw [List.foldl_nil]; rfl
  | p :: r, found => by
    rw [List.foldl_cons, tot_fold r, tot_add, tot_cons]
    omega
theorem tot_tidy (ps : List Part) : tot (tidyF ps) = tot ps := by
  unfold tidyF
  rw [tot_fold]
  exact Nat.zero_add _
theorem tot_le {k : Nat} : ∀ {ps : List Part}, (∀ p ∈ ps, plP p ≤ k) → tot ps ≤ ps.length * (3 * k)
  | [], _ => Nat.zero_le _
  | p :: r, h => by
    have q1 := tot_le (ps := r) fun y hy => h y (List.mem_cons_of_mem _ hy)
    have q2 := h p (List.mem_cons_self ..)
    have q3 : totP p ≤ 3 * k := by
      cases p with
      | same ls => have : ls.length ≤ k := q2; show ls.length ≤ _; omega
      | clash b o t =>
        have : max b.length (max o.length t.length) ≤ k := q2
        show b.length + o.length + t.length ≤ _
        omega
    rw [tot_cons, List.length_cons, Nat.succ_mul]
    omega
theorem pl_tot (p : Part) : plP p ≤ totP p := by
  cases p with
  | same ls => exact Nat.le_refl _
  | clash b o t =>
    show max b.length (max o.length t.length) ≤ b.length + o.length + t.length
    omega
theorem mem_tot {p : Part} : ∀ {ps : List Part}, p ∈ ps → totP p ≤ tot ps
  | q :: r, h => by
    rw [tot_cons]
    rcases List.mem_cons.mp h with rfl | h
    · omega
    · have := mem_tot h
      omega
/-! how many clash -/
theorem cnt_app (a b : List Part) : cntC (a ++ b) = cntC a + cntC b := by
  unfold cntC
  rw [List.filter_append, List.length_append]
theorem cnt_same (ls : List Str) : cntC [.same ls] = 0 := rfl
theorem cnt_add (found : List Part) (p : Part) : cntC (addPart found p) = cntC found + cntC [p] := by
  cases p with
  | clash b o t => show cntC (found ++ _) = _; rw [cnt_app]
  | same ls =>
    cases ls with
    | nil => rfl
    | cons l ls =>
      rcases snoc_cases found with rfl | ⟨init, xs, rfl⟩ | ⟨init, b, o, t, rfl⟩
      · rfl
      · rw [add_same_same, cnt_app, cnt_app, cnt_same, cnt_same, cnt_same]
      · rw [add_clash_same, cnt_app, cnt_same]
theorem cnt_cons (p : Part) (r : List Part) : cntC (p :: r) = cntC [p] + cntC r := cnt_app [p] r
theorem cnt_fold : ∀ (ps found : List Part), cntC (ps.foldl addPart found) = cntC found + cntC ps
  | [], found => by rw [List.foldl_nil]; rfl
  | p :: r, found => by
    rw [List.foldl_cons, cnt_fold r, cnt_add, cnt_cons p r]
    omega
theorem cnt_one (p : Part) : cntC [p] ≤ 1 := List.length_filter_le _ [p]
theorem cnt_raw (base : List Str) (f s : List Hunk) : ∀ (r : List (Nat × Nat)) (here : Nat), cntC (rawF base f s here r) ≤ r.length
  | [], here => Nat.le_refl _
  | (lo, hi) :: r, here => by
    have q := cnt_raw base f s r hi
    rw [rawF, cnt_cons, cnt_cons (joinP _ _ _), cnt_same, List.length_cons]
    have := cnt_one (joinP (cutL base lo hi) (sideF base f lo hi) (sideF base s lo hi))
    omega
/-! what is tidied stays -/
structure Nf (l : List Part) : Prop where
  ne : ∀ p ∈ l, p ≠ .same []
  alt : ∀ a x y b, l ≠ a ++ [.same x] ++ [.same y] ++ b
theorem nf_add {found : List Part} {p : Part} (h : Nf found) : Nf (addPart found p) := by
  have last : ∀ {l : List Part} {z : Part}, Nf l → z ≠ .same [] → (∀ y, z = .same y → ∀ a x, l ≠ a ++ [.same x]) → Nf (l ++ [z]) := by
    intro l z hl hz hy
    refine ⟨fun q hq => ?_, fun a x y b e => ?_⟩
    · rcases List.mem_append.mp hq with hq | hq
      · exact hl.ne q hq
      · rw [List.mem_singleton.mp hq]; exact hz
    · rcases List.eq_nil_or_concat b with rfl | ⟨b', w, rfl⟩
      · rw [List.append_nil] at e
        obtain ⟨e1, e2⟩ := List.append_inj' e rfl
        exact hy y (List.cons.inj e2).1 a x e1
      · rw [List.concat_eq_append, ← List.append_assoc] at e
        obtain ⟨e1, _⟩ := List.append_inj' e rfl
        exact hl.alt a x y b' e1
  cases p with
  | clash b o t => exact last h (fun e => nomatch e) (fun y e => nomatch e)
  | same ls =>
    cases ls with
    | nil => exact h
    | cons l ls =>
      rcases snoc_cases found with rfl | ⟨init, xs, rfl⟩ | ⟨init, b, o, t, rfl⟩
      · refine last (l := []) h (fun e => by cases e) (fun y e a x e2 => ?_)
        have := congrArg List.length e2
        simp at this
      · rw [add_same_same]
        refine last ⟨fun q hq => h.ne q (List.mem_append_left _ hq), fun a x y b e => h.alt a x y (b ++ [.same xs]) (by rw [e]; simp)⟩ (fun e => ?_) (fun y e a x e2 => h.alt a x xs [] (by rw [e2, List.append_nil]))
        have e := Part.same.inj e
        have := congrArg List.length e
        simp at this
      · rw [add_clash_same]
        refine last h (fun e => by cases e) (fun y e a x e2 => ?_)
        obtain ⟨_, e3⟩ := List.append_inj' e2 rfl
        cases e3
theorem nf_fold : ∀ (ps found : List Part), Nf found → Nf (ps.foldl addPart found)
  | [], _, h => h
  | p :: r, found, h => nf_fold r _ (nf_add h)
theorem nf_id : ∀ (ps found : List Part), Nf (found ++ ps) → ps.foldl addPart found = found ++ ps
  | [], found, _ => (List.append_nil _).symm
  | p :: r, found, h => by
    have e : addPart found p = found ++ [p] := by
      cases p with
      | clash b o t => rfl
      | same ls =>
        cases ls with
        | nil => exact absurd rfl (h.ne (.same []) (List.mem_append_right _ (List.mem_cons_self ..)))
        | cons l ls =>
          rcases snoc_cases found with rfl | ⟨init, xs, rfl⟩ | ⟨init, b, o, t, rfl⟩
          · rfl
          · exact absurd (by simp) (h.alt init xs (l :: ls) r)
          · rw [add_clash_same]
    have e2 : found ++ p :: r = found ++ [p] ++ r := by simp
    rw [List.foldl_cons, e, e2]
    exact nf_id r _ (by rw [← e2]; exact h)
theorem nf_nil : Nf [] := ⟨(fun _ h => nomatch h), fun a x y b e => by have := congrArg List.length e; simp at this⟩
theorem tidy_idem (ps : List Part) : tidyF (tidyF ps) = tidyF ps := nf_id _ [] (nf_fold ps [] nf_nil)
/-! the lines of the parts -/
section
variable {L : Str → Prop}
theorem raw_all {base : List Str} {f s : List Hunk} (hb : ∀ x ∈ base, L x) (hf : ∀ h ∈ f, ∀ x ∈ h.come, L x) (hs : ∀ h ∈ s, ∀ x ∈ h.come, L x) : ∀ (r : List (Nat × Nat)) (here : Nat), ∀ p ∈ rawF base f s here r, allP L p
  | [], here, p, hp => by
    rw [List.mem_singleton.mp (show p ∈ [Part.same (base.drop here)] from hp)]
    exact fun x hx => hb x (List.mem_of_mem_drop hx)
  | (lo, hi) :: r, here, p, hp => by
    have hc : ∀ u v : Nat, ∀ x ∈ cutL base u v, L x := fun u v x hx => hb x (List.mem_of_mem_drop (List.mem_of_mem_take hx))
    rw [rawF] at hp
    rcases List.mem_cons.mp hp with rfl | hp
    · exact hc here lo
    · rcases List.mem_cons.mp hp with rfl | hp
      · exact join_all L (hc lo hi) (side_all L hb hf lo hi) (side_all L hb hs lo hi)
      · exact raw_all hb hf hs r hi p hp
theorem parts_all {base one two : List Str} (hb : ∀ x ∈ base, L x) (ho : ∀ x ∈ one, L x) (ht : ∀ x ∈ two, L x) : ∀ p ∈ partsOf base one two, allP L p := by
  unfold partsOf partsF tidyF
  refine fold_all L _ [] (fun _ hq => nomatch hq) (raw_all hb (fun h hm x hx => ho x ((hunksF_sub hm).2 x hx)) (fun h hm x hx => ht x ((hunksF_sub hm).2 x hx)) _ 0)
theorem allP.imp {L' : Str → Prop} {p : Part} (h : allP L p) (k : ∀ x, L x → L' x) : allP L' p := by
  cases p with
  | same ls => exact fun x hx => k x (h x hx)
  | clash b o t => exact ⟨fun x hx => k x (h.1 x hx), fun x hx => k x (h.2.1 x hx), fun x hx => k x (h.2.2 x hx)⟩
end
/-- everything about parts of lines of the law -/
structure PO (n : Nat) (ps : List Part) : Prop where
  all : ∀ p ∈ ps, allP Ln p
  len : ps.length ≤ 37
  tot : tot ps ≤ n
  nf : tidyF ps = ps
theorem parts_ok {base one two : List Str} (hb : Lns base) (ho : Lns one) (ht : Lns two) (lb : base.length ≤ 8) (lo : one.length ≤ 8) (lt : two.length ≤ 8) : PO 17000 (partsOf base one two) ∧ cntC (partsOf base one two) ≤ 18 := by
  have lf1 : (hunksL base one).length ≤ 9 := by have := hunksL_len base one; omega
  have lf2 : (hunksL base two).length ≤ 9 := by have := hunksL_len base two; omega
  have cf1 : ∀ h ∈ hunksL base one, h.come.length ≤ 8 := fun h hm => by have := hunksF_come hm; omega
  have cf2 : ∀ h ∈ hunksL base two, h.come.length ≤ 8 := fun h hm => by have := hunksF_come hm; omega
  have rp := raw_plP (m := 8) (base := base) (f := hunksL base one) (s := hunksL base two) lb lf1 lf2 cf1 cf2 (spansF (hunksL base one) (hunksL base two)) 0
  have ls := spansF_len (hunksL base one) (hunksL base two)
  have lr := raw_len base (hunksL base one) (hunksL base two) (spansF (hunksL base one) (hunksL base two)) 0
  have lc := cnt_raw base (hunksL base one) (hunksL base two) (spansF (hunksL base one) (hunksL base two)) 0
  obtain ⟨q1, _⟩ := tidy_sz rp
  have q := tot_le rp
  have q4 : (rawF base (hunksL base one) (hunksL base two) 0 (spansF (hunksL base one) (hunksL base two))).length * (3 * ((2 * 8 + 3) * 8)) ≤ 37 * (3 * ((2 * 8 + 3) * 8)) := Nat.mul_le_mul_right _ (by omega)
  refine ⟨⟨parts_all hb ho ht, ?_, ?_, ?_⟩, ?_⟩
  · show (tidyF _).length ≤ 37
    omega
  · show VK.tot (tidyF _) ≤ 17000
    rw [tot_tidy]
    omega
  · exact tidy_idem _
  · show cntC (List.foldl addPart [] _) ≤ 18
    rw [cnt_fold]
    show 0 + _ ≤ 18
    omega
section
variable {n : Nat} {ps : List Part}
theorem PO.pl (h : PO n ps) : ∀ p ∈ ps, plP p ≤ n := fun p hp => Nat.le_trans (pl_tot p) (Nat.le_trans (mem_tot hp) h.tot)
theorem PO.ok (h : PO n ps) : ∀ p ∈ ps, okP p := fun p hp => okP_of ((h.all p hp).imp fun _ q => lnOk q)
theorem PO.shP (h : PO n ps) : ∀ p ∈ ps, shP 100 p := fun p hp => by
  have q := (h.all p hp).imp (L' := fun x => x.length ≤ 100) fun x q => by rw [ln_len q]; decide
  cases p with
  | same ls => exact q
  | clash b o t => exact q
theorem PO.sm (h : PO n ps) (hn : n ≤ 40000) : ∀ p ∈ ps, smP p := fun p hp => by
  have q := h.all p hp
  have q2 := mem_tot hp
  have q3 := h.tot
  cases p with
  | same ls => trivial
  | clash b o t =>
    have e : totP (.clash b o t) = b.length + o.length + t.length := rfl
    have s1 := lns_sum q.1
    have s2 := lns_sum q.2.1
    have s3 := lns_sum q.2.2
    exact ⟨by omega, by omega, by omega⟩
end
/-! what is known -/
def MemOk (m : Mem) : Prop := ∀ q ∈ m, PyData.strOk q.1 = true ∧ Lns q.2
def MemSm (m : Mem) : Prop := ∀ q ∈ m, q.2.length ≤ 3
theorem name_ok (z : Str) : PyData.strOk (nameS z) = true := by
  show (nameS z).cps.all (· < 0x110000) = true
  rw [← Array.all_toList, List.all_eq_true]
  intro c hc
  have h := name_mem z c hc
  have h2 : ∀ c ∈ sgnC, c < 0x110000 := by decide
  exact decide_eq_true (h2 c h)
theorem key_ok (b o t : List Str) : PyData.strOk (keyF b o t) = true := name_ok _
theorem look_mem : ∀ {m : Mem} {s : Str} {ls : List Str}, lookM m s = some ls → ∃ q ∈ m, q.2 = ls
  | (k, l0) :: r, s, ls, h => by
    rw [lookM] at h
    split at h
    · exact ⟨_, List.mem_cons_self .., Option.some.inj h⟩
    · obtain ⟨q, h1, h2⟩ := look_mem h
      exact ⟨q, List.mem_cons_of_mem _ h1, h2⟩
theorem put_mem {m : Mem} {s : Str} {ls : List Str} {q : Str × List Str} (h : q ∈ putM m s ls) : q ∈ m ∨ q = (s, ls) := by
  unfold putM at h
  split at h
  · obtain ⟨p, hp, e⟩ := List.mem_map.mp h
    split at e
    · next e2 =>
      subst e2
      exact .inr e.symm
    · exact .inl (e ▸ hp)
  · rcases List.mem_append.mp h with h | h
    · exact .inl h
    · exact .inr (List.mem_singleton.mp h)
theorem MemOk.put {m : Mem} (h : MemOk m) {s : Str} {ls : List Str} (hs : PyData.strOk s = true) (hl : Lns ls) : MemOk (putM m s ls) := fun q hq => by
  rcases put_mem hq with hq | rfl
  · exact h q hq
  · exact ⟨hs, hl⟩
theorem MemSm.put {m : Mem} (h : MemSm m) {s : Str} {ls : List Str} (hl : ls.length ≤ 3) : MemSm (putM m s ls) := fun q hq => by
  rcases put_mem hq with hq | rfl
  · exact h q hq
  · exact hl
theorem MemOk.nil : MemOk [] := fun _ h => nomatch h
theorem MemSm.nil : MemSm [] := fun _ h => nomatch h
theorem MemOk.keys {m : Mem} (h : MemOk m) : OkL (m.map (·.1)) := fun x hx => by
  obtain ⟨q, hq, rfl⟩ := List.mem_map.mp hx
  exact (h q hq).1
theorem set_none : ∀ ps : List Part, ps.map (setM []) = ps
  | [] => rfl
  | .same ls :: r => congrArg (Part.same ls :: ·) (set_none r)
  | .clash b o t :: r => congrArg (Part.clash b o t :: ·) (set_none r)
theorem set_P {m : Mem} (ho : MemOk m) (hs : MemSm m) {p : Part} (h : allP Ln p) : allP Ln (setM m p) ∧ totP (setM m p) ≤ totP p + 3 := by
  cases p with
  | same ls => exact ⟨h, Nat.le_add_right _ _⟩
  | clash b o t =>
    cases e : lookM m (keyF b o t) with
    | none => rw [setM_none e]; exact ⟨h, Nat.le_add_right _ _⟩
    | some ls =>
      rw [setM_some e]
      obtain ⟨q, hq, rfl⟩ := look_mem e
      exact ⟨(ho q hq).2, Nat.le_trans (hs q hq) (Nat.le_add_left _ _)⟩
theorem set_all {m : Mem} (ho : MemOk m) (hs : MemSm m) : ∀ {ps : List Part}, (∀ p ∈ ps, allP Ln p) → (∀ p ∈ ps.map (setM m), allP Ln p) ∧ tot (ps.map (setM m)) ≤ tot ps + 3 * ps.length
  | [], _ => ⟨(fun _ h => nomatch h), Nat.le_refl _⟩
  | p :: r, h => by
    obtain ⟨a1, a2⟩ := set_P ho hs (h p (List.mem_cons_self ..))
    obtain ⟨b1, b2⟩ := set_all ho hs (ps := r) fun q hq => h q (List.mem_cons_of_mem _ hq)
    rw [List.map_cons, tot_cons, tot_cons, List.length_cons]
    refine ⟨fun q hq => ?_, by omega⟩
    rcases List.mem_cons.mp hq with rfl | hq
    · exact a1
    · exact b1 q hq
theorem PO.set {m : Mem} (ho : MemOk m) (hs : MemSm m) {ps : List Part} (h : PO 17000 ps) : PO 17111 (tidyF (ps.map (setM m))) ∧ ∀ q ∈ ps.map (setM m), plP q ≤ 40000 := by
  obtain ⟨a, b⟩ := set_all ho hs h.all
  have l := h.len
  have t := h.tot
  have hp : ∀ q ∈ ps.map (setM m), plP q ≤ 17111 := fun q hq => Nat.le_trans (pl_tot q) (Nat.le_trans (mem_tot hq) (by omega))
  obtain ⟨q1, _⟩ := tidy_sz hp
  rw [List.length_map] at q1
  refine ⟨⟨?_, by omega, by rw [tot_tidy]; omega, tidy_idem _⟩, fun q hq => Nat.le_trans (hp q hq) (by decide)⟩
  exact fold_all Ln _ [] (fun _ h => nomatch h) a
/-! the marked lines -/
theorem mkd_len (m0 m1 m2 m3 : Str) : ∀ (ps : List Part) (found : List Str), (markF m0 m1 m2 m3 found ps).length ≤ found.length + tot ps + 4 * ps.length
  | [], found => by show found.length ≤ _; omega
  | .same ls :: r, found => by
    have q := mkd_len m0 m1 m2 m3 r (found ++ ls)
    have e : totP (.same ls) = ls.length := rfl
    rw [List.length_append] at q
    rw [markF, List.length_cons, tot_cons]
    omega
  | .clash b o t :: r, found => by
    have q := mkd_len m0 m1 m2 m3 r (endF found ++ blkC m0 m1 m2 m3 b o t)
    have e : totP (.clash b o t) = b.length + o.length + t.length := rfl
    have e2 : (blkC m0 m1 m2 m3 b o t).length = b.length + o.length + t.length + 4 := by
      unfold blkC
      simp only [List.length_append, List.length_singleton, endF_len]
      omega
    rw [List.length_append, endF_len, e2] at q
    rw [markF, List.length_cons, tot_cons]
    omega
abbrev nmL : Str := "l"
abbrev nmR : Str := "r"
theorem mkM : Mk (mk0 nmL) mk1 mk2 (mk3 nmR) :=
  ⟨⟨(mk0 nmL).cps.toList.dropLast, by decide +kernel, by decide +kernel⟩, ⟨mk1.cps.toList.dropLast, by decide +kernel, by decide +kernel⟩, ⟨mk2.cps.toList.dropLast, by decide +kernel, by decide +kernel⟩, ⟨(mk3 nmR).cps.toList.dropLast, by decide +kernel, by decide +kernel⟩⟩
theorem blk_short {p : Part} (h : allP Ln p) : ∀ x ∈ blk (mk0 nmL) mk1 mk2 (mk3 nmR) p, x.length ≤ 100 := by
  cases p with
  | same ls => exact fun x hx => by rw [ln_len (h x hx)]; decide
  | clash b o t =>
    obtain ⟨h1, h2, h3⟩ := h
    have e : ∀ {ls : List Str}, Lns ls → ∀ x ∈ endF ls, x.length ≤ 100 := fun hl x hx => by
      have q := endF_sz (n := 2) (fun y hy => Nat.le_of_eq (ln_len (hl y hy))) x hx
      omega
    intro x hx
    have hx : x ∈ blkC (mk0 nmL) mk1 mk2 (mk3 nmR) b o t := hx
    unfold blkC at hx
    simp only [List.mem_append, List.mem_singleton] at hx
    rcases hx with (((((rfl | hx) | rfl) | hx) | rfl) | hx) | rfl
    · decide +kernel
    · exact e h2 x hx
    · decide +kernel
    · exact e h1 x hx
    · decide +kernel
    · exact e h3 x hx
    · decide +kernel
theorem PO.mkd {n : Nat} {ps : List Part} (h : PO n ps) (hn : n ≤ 20000) : ((mkd nmL nmR [] ps).map (·.length)).sum + (mkd nmL nmR [] ps).length * 0 ≤ 16777216 := by
  obtain ⟨e, _⟩ := markF_TP mkM op_end (ps := ps) (.inl fun p hp => (h.all p hp).imp fun _ q => ln_end q)
  have hall : ∀ x ∈ VK.mkd nmL nmR [] ps, x.length ≤ 100 := fun x hx => by
    have hx : x ∈ ps.flatMap (blk (mk0 nmL) mk1 mk2 (mk3 nmR)) := by rw [← e]; exact hx
    obtain ⟨p, hp, hx⟩ := List.mem_flatMap.mp hx
    exact blk_short (h.all p hp) x hx
  have q1 := sumL_le hall
  have q2 := mkd_len (mk0 nmL) mk1 mk2 (mk3 nmR) ps []
  have q3 := h.tot
  have q4 := h.len
  rw [List.length_nil] at q2
  have q5 : (VK.mkd nmL nmR [] ps).length ≤ 20148 := by
    show (markF _ _ _ _ [] ps).length ≤ _
    omega
  omega
theorem blk_ok {p : Part} (h : allP Ln p) : ∀ x ∈ blk (mk0 nmL) mk1 mk2 (mk3 nmR) p, PyData.strOk x = true := by
  cases p with
  | same ls => exact fun x hx => lnOk (h x hx)
  | clash b o t =>
    obtain ⟨h1, h2, h3⟩ := h
    have e : ∀ {ls : List Str}, Lns ls → ∀ x ∈ endF ls, PyData.strOk x = true := fun hl x hx => by
      obtain ⟨y, hy, rfl⟩ := List.mem_map.mp hx
      rw [endL_id (ln_end (hl y hy))]
      exact lnOk (hl y hy)
    intro x hx
    have hx : x ∈ blkC (mk0 nmL) mk1 mk2 (mk3 nmR) b o t := hx
    unfold blkC at hx
    simp only [List.mem_append, List.mem_singleton] at hx
    rcases hx with (((((rfl | hx) | rfl) | hx) | rfl) | hx) | rfl
    · decide +kernel
    · exact e h2 x hx
    · decide +kernel
    · exact e h1 x hx
    · decide +kernel
    · exact e h3 x hx
    · decide +kernel
theorem PO.mkd_ok {n : Nat} {ps : List Part} (h : PO n ps) : OkL (VK.mkd nmL nmR [] ps) := fun x hx => by
  obtain ⟨e, _⟩ := markF_TP mkM op_end (ps := ps) (.inl fun p hp => (h.all p hp).imp fun _ q => ln_end q)
  have hx : x ∈ ps.flatMap (blk (mk0 nmL) mk1 mk2 (mk3 nmR)) := by rw [← e]; exact hx
  obtain ⟨p, hp, hx⟩ := List.mem_flatMap.mp hx
  exact blk_ok (h.all p hp) x hx
theorem okJoin {ls : List Str} (h : OkL ls) : PyData.strOk (Txt.join "" ls) = true := by
  show (Txt.join "" ls).cps.all (· < 0x110000) = true
  rw [← Array.all_toList]
  have e : (Txt.join "" ls).cps.toList = (ls.map _root_.TL.tl).flatten := joinE_tl ls
  rw [e, List.all_flatten, List.all_eq_true]
  intro l hl
  obtain ⟨x, hx, rfl⟩ := List.mem_map.mp hl
  have q : x.cps.all (· < 0x110000) = true := h x hx
  rw [← Array.all_toList] at q
  exact q
theorem name_true (z : Str) : nameB (nameS z) = true := by
  unfold nameB
  rw [name_len, sgnC_eq]
  refine Bool.and_eq_true_iff.mpr ⟨rfl, List.all_eq_true.mpr fun c hc => decide_eq_true (name_mem z c hc)⟩
theorem lns_nil : Lns [] := fun _ h => nomatch h
/-! what stands between -/
theorem cut_sub (lines : List Str) (i h : Nat) : ∀ y ∈ cutL lines i h, y ∈ lines := fun y hy => List.mem_of_mem_drop (List.mem_of_mem_take hy)
theorem runB_sub {lines : List Str} {n : Nat} : ∀ (ps : List Part) (i : Nat) (s s' : BS), (∀ x ∈ s.found, ∀ y ∈ x.2, y ∈ lines) → runB lines n i s ps = some s' → ∀ x ∈ s'.found, ∀ y ∈ x.2, y ∈ lines
  | [], i, s, s', h1, h => by
    have e := Option.some.inj h
    subst e
    exact h1
  | p :: r, i, s, s', h1, h => by
    have h : (match stepB lines n i s p with | none => none | some s' => runB lines n (i + 1) s' r) = some s' := h
    cases e1 : stepB lines n i s p with
    | none => rw [e1] at h; cases h
    | some s1 =>
      rw [e1] at h
      refine runB_sub r (i + 1) s1 s' ?_ h
      cases p with
      | clash b o t =>
        have e := Option.some.inj e1
        subst e
        exact h1
      | same ls =>
        have e2 : (match placeB lines ls s.here s.wait.isNone (decide (i + 1 = n)) with | none => none | some j => some (⟨s.found ++ (match s.wait with | some c => [(c, cutL lines s.here j)] | none => []), j + ls.length, none⟩ : BS)) = some s1 := e1
        cases hpl : placeB lines ls s.here s.wait.isNone (decide (i + 1 = n)) with
        | none => rw [hpl] at e2; cases e2
        | some j =>
          rw [hpl] at e2
          have e := Option.some.inj e2
          subst e
          intro x hx
          rcases List.mem_append.mp hx with hx | hx
          · exact h1 x hx
          · cases hw : s.wait with
            | none => rw [hw] at hx; cases hx
            | some c =>
              rw [hw] at hx
              rw [List.mem_singleton.mp hx]
              exact cut_sub _ _ _
theorem between_sub {lines : List Str} {ps : List Part} {rs : List (Part × List Str)} (h : betweenB lines ps = some rs) : ∀ x ∈ rs, ∀ y ∈ x.2, y ∈ lines := by
  unfold betweenB at h
  split at h
  · cases h
  · next s hs =>
    have h1 := runB_sub ps 0 ⟨[], 0, none⟩ s (fun _ h => nomatch h) hs
    unfold endB at h
    split at h
    · next c hc =>
      have e := Option.some.inj h
      subst e
      intro x hx
      rcases List.mem_append.mp hx with hx | hx
      · exact h1 x hx
      · rw [List.mem_singleton.mp hx]
        intro y hy
        first
          | exact List.mem_of_mem_drop hy
          | exact cut_sub _ _ _ y hy
    · split at h
      · have e := Option.some.inj h
        subst e
        exact h1
      · cases h
theorem MemOk.learn1 {m : Mem} (h : MemOk m) {r : Part × List Str} (hr : Lns r.2) : MemOk (learn1 m r) := by
  unfold VK.learn1
  split
  · exact h.put (key_ok ..) hr
  · exact h
theorem learnAll_snoc (m : Mem) (rs : List (Part × List Str)) (r : Part × List Str) : learnAll m (rs ++ [r]) = learn1 (learnAll m rs) r := by
  unfold learnAll
  rw [List.foldl_append]
  rfl
theorem MemOk.learn : ∀ {rs : List (Part × List Str)} {m : Mem}, MemOk m → (∀ x ∈ rs, Lns x.2) → MemOk (learnAll m rs)
  | [], _, h, _ => h
  | r :: rs, m, h, hr => MemOk.learn (rs := rs) (h.learn1 (hr r (List.mem_cons_self ..))) fun x hx => hr x (List.mem_cons_of_mem _ hx)
end VK
end

section
set_option Elab.async false
set_option linter.all false
set_option maxRecDepth 100000
set_option maxHeartbeats 4000000
namespace VK
open PySem L2
/-- a method that may raise, called where an exception is awaited -/
def tMethE (C : Addr) (m : Str) (sp : Sp) (E : St → XK) (ta : TE) (t : TA) : TE := fun σ H Q =>
  ta σ H fun x H1 => ∃ a dx fs, x = .ref a ∧ H1 a = some (.ins C dx fs) ∧ fs.lookup m = none ∧ t σ H1 fun vs H2 => sp (x :: vs) H2 Q (E σ)
section
variable {X : Cx} {CX : CXT} {k : Nat} {f C : Addr} {fd : FuncData} {ps : List Str} {sp : Sp} {E : St → XK} {m : Str} {pos apos : Pos} {e o : Expr} {es : List Expr} {ta : TE} {t : TA}
theorem pe_methE {pl : Sem Bool} (he : PE X o ta) (c : Cls X.K C) (hm : Meth X.K C m f) (F : FnOk X.prog X.w X.K X.mg X.base CX k f fd ps sp) (hr : Room k X.A) (hb : Binds X.K fd ps []) (hx : ∀ σ, PassesAt CX X σ (E σ)) (ha : L2.PA X (e :: es) t)
    (h1 : starEach (e :: es) X.env = (false, eval e X.env) :: starEach es X.env := by rfl) (h2 : (backTo pos (starEach es X.env)).any (·.1) = false := by rfl)
    (h3 : eval (.Call (.Attribute o m apos) (e :: es) [] pos) X.env = (do let ov ← eval o X.env; standAt apos.atName; let (f, first) ← holding [ov] (getMethod ov m pl); callWith pos f first (backTo pos (starEach (e :: es) X.env)) (backToKw pos (keywordEach [] X.env))) := by rfl) :
    PE X (.Call (.Attribute o m apos) (e :: es) [] pos) (tMethE C m sp E ta t) := ⟨fun pins s σ H Q I h => by
  refine PySem.W.methodCall_KW (pl := pl) (thn (he.run pins s σ H _ I h) ?_) h3
  rintro u s1 ⟨x, H1, I1, rx, a, dx, fs, ex, ea, l, q⟩
  subst ex
  cases (show u = Value.ref a from rx)
  refine getmeth_ok I1 ea c hm l (PySem.W.callWith_K (first := [.ref a]) (h₀ := X.base) I.ok.mod.kin hm.kp (thn (ha.run pos pins s1 σ H1 _ I1 q) ?_) h1 h2)
  rintro us s2 ⟨vs, H2, I2, r, q2⟩
  exact ⟨I2.kIn, run_fnS (us := .ref a :: us) (vs := .ref a :: vs) F hr hb (hx σ) I2 (.cons rfl r) q2⟩⟩
end
end VK
end

section
set_option Elab.async false
set_option linter.all false
set_option pp.maxSteps 1500
set_option maxRecDepth 100000
set_option maxHeartbeats 4000000
namespace VK
open PySem L2
theorem takesN0 {X : Cx} : L2N.Takes X (fun _ _ _ _ => False) := fun _ _ x => by
  obtain ⟨_, _, _, _, _, _, _, _, _, _, _, _, _, _, _, _, z⟩ := x
  exact z.elim
theorem xfC_of {P : Program} {K : PySem.W.Frag} {mg : Str → Option Value} {C fI : Addr} (T : PySem.CfX.CfTxt P K mg C fI) : XfC K C := ⟨T.ga, T.gg, T.exC, T.hdC⟩
theorem tab_same {H H' : Hp} {Pt : Addr} (t : GxR.TabG H Pt) (s : Same H H') : GxR.TabG H' Pt := by
  obtain ⟨ps, e, ok⟩ := t
  exact ⟨ps, s _ _ e, ok⟩
theorem tab_sv {K : PySem.W.Frag} {H H' : Hp} {Pt st sc : Addr} {ns : List Int} (t : GxR.TabG H Pt) (h : StAt K H st sc ns) (s : Sv st H H') : GxR.TabG H' Pt := by
  obtain ⟨ps, e, ok⟩ := t
  obtain ⟨s0, p, s3, e2, _⟩ := h.at_
  refine ⟨ps, s _ _ (fun z => ?_) e, ok⟩
  rw [z, e2] at e
  cases e
/-- lists stay -/
def KL (H H' : Hp) : Prop := ∀ a l, H a = some (.lst l) → H' a = some (.lst l)
theorem StAt.kl {K : PySem.W.Frag} {H H' : Hp} {st sc : Addr} {ns : List Int} (h : StAt K H st sc ns) (k : KL H H') : StAt K H' st sc ns := by
  obtain ⟨s0, p, s3, e, hp⟩ := h.at_
  exact ⟨⟨s0, p, s3, k _ _ e, hp⟩, k _ _ h.hsc, h.ne⟩
theorem kl_same {H H' : Hp} (s : Same H H') : KL H H' := fun _ _ e => s _ _ e
theorem kl_svd {H H' : Hp} {d : Addr} {kvs : List (Key × V)} (h : H d = some (.dK kvs)) (s : Sv d H H') : KL H H' := fun a l e => s _ _ (by rintro rfl; rw [h] at e; cases e) e
theorem tab_svd {H H' : Hp} {d Pt : Addr} {kvs : List (Key × V)} (t : GxR.TabG H Pt) (h : H d = some (.dK kvs)) (s : Sv d H H') : GxR.TabG H' Pt := by
  obtain ⟨ps, e, ok⟩ := t
  exact ⟨ps, s _ _ (by rintro rfl; rw [h] at e; cases e) e, ok⟩
theorem ins_svd {H H' : Hp} {d am C dx : Addr} {fs : List (Str × V)} {kvs : List (Key × V)} (e : H am = some (.ins C dx fs)) (h : H d = some (.dK kvs)) (s : Sv d H H') : H' am = some (.ins C dx fs) :=
  s _ _ (by rintro rfl; rw [h] at e; cases e) e
/-- what stands while the law goes on: the state, the table, the rows, the parts, the clashes, the memory and what the law knows -/
structure LH (K : PySem.W.Frag) (C Pt st sc : Addr) (ns : List Int) (tb to tt : Addr) (base one two : List Str) (pp pc : Addr) (ps cs : List Part) (ws : List V) (am ad kd : Addr) (m k : Mem) (H : Hp) : Prop where
  nc : pc ≠ st
  st : StAt K H st sc ns
  tab : GxR.TabG H Pt
  b : SqT K H tb (base.map V.str)
  o : SqT K H to (one.map V.str)
  t : SqT K H tt (two.map V.str)
  p : Dp K H (.ref pp) (partsD ps)
  c : H pc = some (.lst ws)
  cd : DpAll K H ws (cs.map partD)
  mem : MemAt K H C am ad m
  kn : KD K H kd k
  nd : ad ≠ kd
section
variable {K : PySem.W.Frag} {C Pt st sc : Addr} {ns : List Int} {tb to tt : Addr} {base one two : List Str} {pp pc : Addr} {ps cs : List Part} {ws : List V} {am ad kd : Addr} {m m' k k' : Mem} {H H' : Hp}
theorem imm_parts (ps : List Part) : imm (partsD ps) = true := immAll_map _ imm_part ps
theorem LH.go (h : LH K C Pt st sc ns tb to tt base one two pp pc ps cs ws am ad kd m k H) (a : StAt K H' st sc ns) (b : GxR.TabG H' Pt) (t : TK K H H') (c : H' pc = some (.lst ws)) (e : MemAt K H' C am ad m') (f : KD K H' kd k') : LH K C Pt st sc ns tb to tt base one two pp pc ps cs ws am ad kd m' k' H' :=
  ⟨h.nc, a, b, t _ _ h.b, t _ _ h.o, t _ _ h.t, dp_keep t _ _ (imm_parts ps) h.p, c, parts_keep t h.cd, e, f, h.nd⟩
theorem LH.same (h : LH K C Pt st sc ns tb to tt base one two pp pc ps cs ws am ad kd m k H) (s : Same H H') : LH K C Pt st sc ns tb to tt base one two pp pc ps cs ws am ad kd m k H' := by
  obtain ⟨dx, hi⟩ := h.mem.ins
  exact h.go (h.st.sv s) (tab_same h.tab s) (TK.same s) (s _ _ h.c) ⟨⟨dx, s _ _ hi⟩, h.mem.kd.same s⟩ (h.kn.same s)
theorem LH.draw (h : LH K C Pt st sc ns tb to tt base one two pp pc ps cs ws am ad kd m k H) (a : StAt K H' st sc ns) (s : Sv st H H') : LH K C Pt st sc ns tb to tt base one two pp pc ps cs ws am ad kd m k H' := by
  obtain ⟨dx, hi⟩ := h.mem.ins
  obtain ⟨k1, hk1, l1⟩ := h.mem.kd
  obtain ⟨k2, hk2, l2⟩ := h.kn
  obtain ⟨l, hl⟩ := h.st.some
  have t := h.st.tk s
  exact h.go a (tab_sv h.tab h.st s) t (s _ _ h.nc h.c) ⟨⟨dx, s _ _ (by rintro rfl; rw [hl] at hi; cases hi) hi⟩, k1, s _ _ (by rintro rfl; rw [hl] at hk1; cases hk1) hk1, l1.tk t⟩ ⟨k2, s _ _ (by rintro rfl; rw [hl] at hk2; cases hk2) hk2, l2.tk t⟩
theorem LH.learn (h : LH K C Pt st sc ns tb to tt base one two pp pc ps cs ws am ad kd m k H) (s : Sv ad H H') (t : TK K H H') (e : MemAt K H' C am ad m') : LH K C Pt st sc ns tb to tt base one two pp pc ps cs ws am ad kd m' k H' := by
  obtain ⟨k1, hk1, l1⟩ := h.mem.kd
  exact h.go (h.st.kl (kl_svd hk1 s)) (tab_svd h.tab hk1 s) t (kl_svd hk1 s _ _ h.c) e (h.kn.sv s (Ne.symm h.nd) t)
theorem LH.put (h : LH K C Pt st sc ns tb to tt base one two pp pc ps cs ws am ad kd m k H) (s : Sv kd H H') (f : KD K H' kd k') : LH K C Pt st sc ns tb to tt base one two pp pc ps cs ws am ad kd m k' H' := by
  obtain ⟨dx, hi⟩ := h.mem.ins
  obtain ⟨k2, hk2, l2⟩ := h.kn
  have t : TK K H H' := tk_svd hk2 s
  exact h.go (h.st.kl (kl_svd hk2 s)) (tab_svd h.tab hk2 s) t (kl_svd hk2 s _ _ h.c) ⟨⟨dx, ins_svd hi hk2 s⟩, h.mem.kd.sv s h.nd t⟩ f
theorem LH.forget (h : LH K C Pt st sc ns tb to tt base one two pp pc ps cs ws am ad kd m k H) (s : ∀ a o, a ≠ Pt → a ≠ ad → H a = some o → H' a = some o) (t : TK K H H') (b : GxR.TabG H' Pt) (e : MemAt K H' C am ad m') : LH K C Pt st sc ns tb to tt base one two pp pc ps cs ws am ad kd m' k H' := by
  obtain ⟨k1, hk1, l1⟩ := h.mem.kd
  obtain ⟨k2, hk2, l2⟩ := h.kn
  obtain ⟨tp, et, _⟩ := h.tab
  have kl : KL H H' := fun a l q => s _ _ (by rintro rfl; rw [et] at q; cases q) (by rintro rfl; rw [hk1] at q; cases q) q
  exact h.go (h.st.kl kl) b t (kl _ _ h.c) e ⟨k2, s _ _ (by rintro rfl; rw [et] at hk2; cases hk2) (Ne.symm h.nd) hk2, l2.tk t⟩
theorem LH.kl (h : LH K C Pt st sc ns tb to tt base one two pp pc ps cs ws am ad kd m k H) (s : ∀ a o, a ≠ Pt → a ≠ ad → H a = some o → H' a = some o) : KL H H' := by
  obtain ⟨k1, hk1, _⟩ := h.mem.kd
  obtain ⟨tp, et, _⟩ := h.tab
  exact fun a l q => s _ _ (by rintro rfl; rw [et] at q; cases q) (by rintro rfl; rw [hk1] at q; cases q) q
/-- the law's dict is written -/
theorem kd_put {kd : Addr} {kvs : List (Key × V)} {k : Mem} {s : Str} {ls : List Str} {q : Addr} (h : H kd = some (.dK kvs)) (l : KDl K H kvs k) (hq : SqT K H q (ls.map V.str)) :
    Sv kd H (upd H kd (.dK (putK kvs (Sum.inr s : Key) (.ref q)))) ∧ KD K (upd H kd (.dK (putK kvs (Sum.inr s : Key) (.ref q)))) kd (putM k s ls) := by
  have t : TK K H (upd H kd (.dK (putK kvs (Sum.inr s : Key) (.ref q)))) := tk_dk h
  exact ⟨Sv.at_, _, upd_same, (l.tk t).put (t _ _ hq)⟩
end
/-! what is told of a clash -/
def optD : Option (List Str) → PyData
  | none => .none
  | some ls => linesD ls
theorem okD_opt {m : Mem} (h : MemOk m) (s : Str) : OkD 1 (optD (lookM m s)) := by
  cases e : lookM m s with
  | none => exact ⟨rfl, by show PyData.depth .none ≤ 1; simp [PyData.depth]⟩
  | some ls =>
    obtain ⟨q, hq, rfl⟩ := look_mem e
    exact okD_lines (lns_ok (h q hq).2)
theorem told_dp {K : PySem.W.Frag} {H : Hp} {m : Mem} {s : Str} {v : V} (h : (lookM m s = none ∧ v = .non) ∨ ∃ p ls, lookM m s = some ls ∧ v = .ref p ∧ SqT K H p (ls.map V.str)) : Dp K H v (optD (lookM m s)) := by
  rcases h with ⟨e, rfl⟩ | ⟨p, ls, e, rfl, q⟩
  · rw [e]; exact .non
  · rw [e]; exact dp_lines q
theorem val_dp {K : PySem.W.Frag} {H : Hp} {kvs : List (Key × V)} {m : Mem} (h : KDl K H kvs m) (s : Str) : Dp K H ((valV kvs (Sum.inr s : Key)).getD .non) (optD (lookM m s)) := by
  rcases h.val s with ⟨e1, e2⟩ | ⟨p, ls, e1, e2, q⟩
  · rw [e1, e2]; exact .non
  · rw [e1, e2]; exact dp_lines q
theorem imm_opt : ∀ o : Option (List Str), imm (optD o) = true
  | none => rfl
  | some ls => imm_lines ls
theorem has_val {K : PySem.W.Frag} {H : Hp} {kvs : List (Key × V)} {m : Mem} (h : KDl K H kvs m) (s : Str) : (valV kvs (Sum.inr s : Key)).isSome = hasM m s := by
  rw [has_look]
  rcases h.val s with ⟨e1, e2⟩ | ⟨p, ls, e1, e2, _⟩
  · rw [e1, e2]; rfl
  · rw [e1, e2]; rfl
theorem has_drop (m : Mem) (s : Str) : hasM (dropM m s) s = false := by
  rw [has_look, look_drop]; rfl
/-! the keys -/
theorem keysD_list {K : PySem.W.Frag} {H : Hp} {p : Addr} {ys : List Str} (h : H p = some (.lst (ys.map V.str))) : Dp K H (.ref p) (.list (ys.map PyData.str)) := .lst (SqL.of h) (dpAll_strs ys)
theorem okD_listS : ∀ {ls : List Str}, OkL ls → OkD 1 (.list (ls.map PyData.str)) := fun {ls} h => by
  have q := okD_lines h
  refine ⟨q.1, ?_⟩
  have := q.2
  simp only [PyData.depth] at this ⊢
  exact this
theorem keys_same {m : Mem} (h : MemOk m) {xs ys : List Str} (hx : xs.Perm (m.map (·.1))) (sx : PyProof.Rows.sortedS xs = true) (hy : ys.Perm (m.map (·.1))) (sy : PyProof.Rows.sortedS ys = true) : xs = ys ∧ OkL xs :=
  ⟨sorted_uniqS (hx.trans hy.symm) sx sy, fun z hz => h.keys z (hx.mem_iff.mp hz)⟩
theorem op_neDQ {X : Cx} {K : PySem.W.Frag} (hK : X.K = K) (hu : X.A.units + 64 < cLine) : OpR X (compareOp .NotEq) (rNeD K) := by
  subst hK
  exact op_neD hu
end VK
end

section
set_option Elab.async false
set_option linter.all false
set_option pp.maxSteps 1500
set_option maxRecDepth 100000
set_option maxHeartbeats 4000000
namespace VK
open PySem L2
abbrev s_law : Stmt := topS 52
theorem sc_law : FnScope ["script", "state", "base", "one", "two", "parts", "clashes", "memory", "known", "clash", "turned", "left", "names", "due", "lines", "part", "rows", "told", "settled", "error"] ["script"] (defScope s_law) := ⟨rfl, rfl, rfl, by decide +kernel, rfl, by decide +kernel, by decide +kernel⟩
def spLaw (K : PySem.W.Frag) (Pn : Addr) : Sp := fun vs H Q _ => ∃ (a : Addr) (ns : List Int), vs = [.ref a] ∧ SqL K H a (ns.map V.int) ∧ GxR.TabG H Pn ∧ ∀ H', Q (.bl true) H'
def t_xx (C : Addr) : Addr → Value → Option Addr → TS := fun a cls d => tRet (tOp rEq (tXf a cls d C "name" (tVar 19)) (tC (.str "x")))
section
variable {P : Program} {w : World} {K : PySem.W.Frag} {mg : Str → Option Value} {base : Heap} {t1 t2 t3 t4 t5 : Tok}
theorem ok_law {f C CM CI fI c Pn f_lines_of f_text_from f_common_table f_kept_pairs f_next_pair f_hunks_of f_spans_between f_within f_rewritten f_merged_parts f_add_same f_ended f_marked_lines f_is_name f_sum_of f_name_of f_signs_of f_clash_key f_settled_between f_place_behind f__law_draw f__law_name f__law_lines f__law_table f__law_pairs f__law_hunks f__law_apply f__law_parts f__law_tidy f__law_ended f__law_marked f__law_varied f__law_key f__law_settled f__law_between g_learn g_told g_forget g_keys_known g_settle g_learn_from g_merge g_init : Addr} {fd d_lines_of d_text_from d_common_table d_kept_pairs d_next_pair d_hunks_of d_spans_between d_within d_rewritten d_merged_parts d_add_same d_ended d_marked_lines d_is_name d_sum_of d_name_of d_signs_of d_clash_key d_settled_between d_place_behind d__law_draw d__law_name d__law_lines d__law_table d__law_pairs d__law_hunks d__law_apply d__law_parts d__law_tidy d__law_ended d__law_marked d__law_varied d__law_key d__law_settled d__law_between e_learn e_told e_forget e_keys_known e_settle e_learn_from e_merge e_init : FuncData} (F : Fun K "law" "law" s_law f fd) (T0 : Txt0 mg) (N : NC mg t1 t2 t3 t4 t5) (z_sorted : mg "sorted" = none) (z_all : mg "all" = none) (z_any : mg "any" = none) (z_isi : mg "isinstance" = none) (L : TL K mg C) {tM : Tok} (hc : mg "MOST_PLACES" = some (.int 40000 tM)) (T : PySem.CfX.CfTxt P K mg CI fI) (TB : GxR.TabB base mg c Pn)
    (D_lines_of : Df K mg "lines_of" s_lines_of ["text"] f_lines_of d_lines_of)
    (D_text_from : Df K mg "text_from" s_text_from ["lines"] f_text_from d_text_from)
    (D_common_table : Df K mg "common_table" s_common_table ["one", "two"] f_common_table d_common_table)
    (D_kept_pairs : Df K mg "kept_pairs" s_kept_pairs ["one", "two"] f_kept_pairs d_kept_pairs)
    (D_next_pair : Df K mg "next_pair" s_next_pair ["one", "two", "table", "place"] f_next_pair d_next_pair)
    (D_hunks_of : Df K mg "hunks_of" s_hunks_of ["one", "two"] f_hunks_of d_hunks_of)
    (D_spans_between : Df K mg "spans_between" s_spans_between ["one", "two"] f_spans_between d_spans_between)
    (D_within : Df K mg "within" s_within ["patch", "low", "high"] f_within d_within)
    (D_rewritten : Df K mg "rewritten" s_rewritten ["lines", "low", "hunks"] f_rewritten d_rewritten)
    (D_merged_parts : Df K mg "merged_parts" s_merged_parts ["base", "one", "two"] f_merged_parts d_merged_parts)
    (D_add_same : Df K mg "add_same" s_add_same ["found", "lines"] f_add_same d_add_same)
    (D_ended : Df K mg "ended" s_ended ["lines"] f_ended d_ended)
    (D_marked_lines : Df K mg "marked_lines" s_marked_lines ["parts", "names"] f_marked_lines d_marked_lines)
    (D_is_name : DfC K mg "is_name" s_is_name ["value"] f_is_name c d_is_name) (D_sum_of : Df K mg "sum_of" s_sum_of ["text"] f_sum_of d_sum_of)
    (D_name_of : Df K mg "name_of" s_name_of ["text"] f_name_of d_name_of)
    (D_signs_of : Df K mg "signs_of" s_signs_of ["number"] f_signs_of d_signs_of)
    (D_clash_key : Df K mg "clash_key" s_clash_key ["clash"] f_clash_key d_clash_key)
    (D_settled_between : Df K mg "settled_between" s_settled_between ["parts", "lines"] f_settled_between d_settled_between)
    (D_place_behind : Df K mg "place_behind" s_place_behind ["lines", "part", "here", "at_once", "last"] f_place_behind d_place_behind)
    (D__law_draw : Df K mg "_law_draw" s__law_draw ["state", "limit"] f__law_draw d__law_draw)
    (D__law_name : Df K mg "_law_name" s__law_name ["text"] f__law_name d__law_name)
    (D__law_lines : Df K mg "_law_lines" s__law_lines ["state", "many"] f__law_lines d__law_lines)
    (D__law_table : Df K mg "_law_table" s__law_table ["one", "two"] f__law_table d__law_table)
    (D__law_pairs : Df K mg "_law_pairs" s__law_pairs ["one", "two"] f__law_pairs d__law_pairs)
    (D__law_hunks : Df K mg "_law_hunks" s__law_hunks ["one", "two"] f__law_hunks d__law_hunks)
    (D__law_apply : Df K mg "_law_apply" s__law_apply ["lines", "patch"] f__law_apply d__law_apply)
    (D__law_parts : Df K mg "_law_parts" s__law_parts ["base", "one", "two"] f__law_parts d__law_parts)
    (D__law_tidy : Df K mg "_law_tidy" s__law_tidy ["parts"] f__law_tidy d__law_tidy)
    (D__law_ended : Df K mg "_law_ended" s__law_ended ["lines"] f__law_ended d__law_ended)
    (D__law_marked : Df K mg "_law_marked" s__law_marked ["parts", "names"] f__law_marked d__law_marked)
    (D__law_varied : Df K mg "_law_varied" s__law_varied ["state", "lines"] f__law_varied d__law_varied)
    (D__law_key : Df K mg "_law_key" s__law_key ["clash"] f__law_key d__law_key)
    (D__law_settled : Df K mg "_law_settled" s__law_settled ["parts", "known"] f__law_settled d__law_settled)
    (D__law_between : Df K mg "_law_between" s__law_between ["parts", "lines"] f__law_between d__law_between)
    (M_learn : MtD K CM "learn" "Memory.learn" s_Memory_learn ["self", "clash", "lines"] g_learn e_learn)
    (M_told : MtD K CM "told" "Memory.told" s_Memory_told ["self", "clash"] g_told e_told)
    (M_forget : MtD K CM "forget" "Memory.forget" s_Memory_forget ["self", "key"] g_forget e_forget)
    (M_keys_known : MtD K CM "keys_known" "Memory.keys_known" s_Memory_keys_known ["self"] g_keys_known e_keys_known)
    (M_settle : MtD K CM "settle" "Memory.settle" s_Memory_settle ["self", "parts"] g_settle e_settle)
    (M_learn_from : MtD K CM "learn_from" "Memory.learn_from" s_Memory_learn_from ["self", "parts", "text"] g_learn_from e_learn_from)
    (M_merge : MtD K CM "merge" "Memory.merge" s_Memory_merge ["self", "base", "one", "two", "names"] g_merge e_merge)
    (FI : Fun K "__init__" "Memory.__init__" s_Memory___init__ g_init e_init) (bI : Binds K e_init ["self"] []) (MK : L2.Mk K CM g_init) (gM : mg "Memory" = some (.ref CM)) (cl : Cls K CM) (nk : NoAttr K CM "kept") : FnOk P w K mg base CX0 7 f fd ["script"] (spLaw K Pn) := by
  have G__law_draw : FnOk P w K mg base CX0 1 f__law_draw d__law_draw ["state", "limit"] (spDraw K) := ok_draw D__law_draw.F T0
  have G__law_lines : FnOk P w K mg base CX0 2 f__law_lines d__law_lines ["state", "many"] (spLines K) := ok_lines D__law_lines.F T0 D__law_draw
  have G__law_varied : FnOk P w K mg base CX0 2 f__law_varied d__law_varied ["state", "lines"] (spVaried K) := ok_varied D__law_varied.F T0 D__law_draw
  have G__law_parts : FnOk P w K mg base CX0 4 f__law_parts d__law_parts ["base", "one", "two"] (spMerged K) := ok_lparts D__law_parts.F T0 z_sorted D__law_table D__law_pairs D__law_hunks D__law_apply D__law_tidy
  have G__law_key : FnOk P w K mg base CX0 2 f__law_key d__law_key ["clash"] (spKey K) := ok_lkey D__law_key.F T0 N z_sorted D__law_name
  have G__law_settled : FnOk P w K mg base CX0 3 f__law_settled d__law_settled ["parts", "known"] (spLSet K) := ok_lset D__law_settled.F T0 D__law_key G__law_key D__law_tidy
  have G__law_marked : FnOk P w K mg base CX0 2 f__law_marked d__law_marked ["parts", "names"] (spMarked K) := ok_lmarked D__law_marked.F T0 D__law_ended
  have G__law_between : FnOk P w K mg base CX0 1 f__law_between d__law_between ["parts", "lines"] (spBetween K) := ok_lbetween D__law_between.F T0
  have G_merged_parts : FnOk P w K mg base CX0 4 f_merged_parts d_merged_parts ["base", "one", "two"] (spMerged K) := ok_merged_parts D_merged_parts.F T0 z_sorted L hc D_common_table D_next_pair D_kept_pairs D_hunks_of D_spans_between D_add_same D_rewritten D_within
  have G_clash_key : FnOk P w K mg base CX0 3 f_clash_key d_clash_key ["clash"] (spKey K) := ok_key D_clash_key.F T0 N z_sorted D_text_from D_name_of D_sum_of D_signs_of
  have G_is_name : FnOk P w K mg base CX0 3 f_is_name d_is_name ["value"] (spIsName K Pn) := ok_isname D_is_name.F TB T0 N z_isi z_all
  have G_init : FnOk P w K mg base CX0 1 g_init e_init ["self"] (spMInit CM) := ok_minit FI cl nk
  have G_told : FnOk P w K mg base CX0 4 g_told e_told ["self", "clash"] (spToldM K CM) := ok_toldM M_told.F T0 cl nk D_clash_key G_clash_key
  have G_learn : FnOk P w K mg base CX0 4 g_learn e_learn ["self", "clash", "lines"] (spLearn K CM) := ok_learn M_learn.F T0 cl nk D_clash_key G_clash_key
  have G_keys_known : FnOk P w K mg base CX0 1 g_keys_known e_keys_known ["self"] (spKnown K CM) := ok_known M_keys_known.F z_sorted cl nk
  have G_forget : FnOk P w K mg base (L2N.CX P w) 4 g_forget e_forget ["self", "key"] (spForget K CM CI Pn) := ok_forget M_forget.F T cl nk D_is_name G_is_name
  have G_settle : FnOk P w K mg base CX0 5 g_settle e_settle ["self", "parts"] (spSettle K CM) := ok_settle M_settle.F T0 cl M_told G_told
  have G_learn_from : FnOk P w K mg base CX0 5 g_learn_from e_learn_from ["self", "parts", "text"] (spLearnF K CM) := ok_learnF M_learn_from.F T0 cl D_settled_between D_place_behind D_lines_of M_learn G_learn
  have G_merge : FnOk P w K mg base CX0 6 g_merge e_merge ["self", "base", "one", "two", "names"] (spMergeM K CM) := ok_mergeM M_merge.F T0 cl D_merged_parts G_merged_parts D_lines_of D_text_from D_marked_lines D_ended M_settle G_settle
  refine F.ok sc_law (fun vs H Q E h => ?_) (fun cdv A outer s H vs Q E hr h => ?_)
  · obtain ⟨a, ns, rfl, _⟩ := h
    rfl
  · obtain ⟨a, ns, rfl, hA, tab, k⟩ := h
    have hu := hu_of hr
    refine ⟨_, (pss_cons (ps_set (i := 1) sc_law.nd rfl (Or.inl rfl) (pe_lst (pa_cons pe_int (pa_cons pe_int (pa_cons (pe_callTy call_list_of (by rfl) T0.z_list (by decide +kernel) (pa_cons (pv 0) pa_nil)) (pa_cons pe_int pa_nil))))))
      (pss_cons (ps_set (i := 2) sc_law.nd rfl (Or.inl rfl) (pe_call G__law_lines (hr.mono (by decide)) rfl D__law_lines.m D__law_lines.F.kp D__law_lines.b .nil pass0 (pa_cons (pv 1) (pa_cons pe_int pa_nil))))
      (pss_cons (ps_set (i := 3) sc_law.nd rfl (Or.inl rfl) (pe_call G__law_varied (hr.mono (by decide)) rfl D__law_varied.m D__law_varied.F.kp D__law_varied.b .nil pass0 (pa_cons (pv 1) (pa_cons (pv 2) pa_nil))))
      (pss_cons (ps_set (i := 4) sc_law.nd rfl (Or.inl rfl) (pe_call G__law_varied (hr.mono (by decide)) rfl D__law_varied.m D__law_varied.F.kp D__law_varied.b .nil pass0 (pa_cons (pv 1) (pa_cons (pv 2) pa_nil))))
      (pss_cons (ps_set (i := 5) sc_law.nd rfl (Or.inl rfl) (pe_call G__law_parts (hr.mono (by decide)) rfl D__law_parts.m D__law_parts.F.kp D__law_parts.b .nil pass0 (pa_cons (pv 2) (pa_cons (pv 3) (pa_cons (pv 4) pa_nil)))))
      (pss_cons (ps_setLc (i := 6) (own := [("part", 15)]) (g := gName 15) (tt := _) rfl sc_law.nd rfl rfl (sw_true rfl rfl rfl (by decide +kernel)) (pi_tup (pv 5)) (blkOk_by (own := [("part", 15)]) (N := ["script", "state", "base", "one", "two", "parts", "clashes", "memory", "known", "clash", "turned", "left", "names", "due", "lines", "part", "rows", "told", "settled", "error"]) (sc := defScope s_law) (by decide +kernel)) (fun _ _ _ _ _ => (pg_name (i := 15) sc_law.nd rfl (by first | exact Or.inl rfl | exact Or.inr rfl))) (fun _ _ _ _ _ => (pts_one (pt_cmpR op_eq (pe_ix (ix_tupQ (K := K) rfl) (pv 15) pe_int (fun _ _ => rfl)) pe_str (nomark _)))) (fun _ _ _ _ _ => (pv 15)))
      (pss_cons (ps_set (i := 7) sc_law.nd rfl (by first | exact Or.inl rfl | exact Or.inr rfl) (pe_make0 MK G_init (hr.mono (by decide)) rfl gM bI .nil pass0))
      (pss_cons (ps_set (i := 8) sc_law.nd rfl (by first | exact Or.inl rfl | exact Or.inr rfl) pe_dnewK)
      (pss_cons (ps_if (pt_cmpR (op_neD hr.units) (pe_meth (pv 7) cl M_settle.m G_settle (hr.mono (by decide)) M_settle.b .nil pass0 (pa_cons (pe_call G_merged_parts (hr.mono (by decide)) rfl D_merged_parts.m D_merged_parts.F.kp D_merged_parts.b .nil pass0 (pa_cons (pv 2) (pa_cons (pv 3) (pa_cons (pv 4) pa_nil)))) pa_nil)) (pv 5) (nomark _))
        (pss_one (ps_ret pe_bl))
        pss_nil)
      (pss_cons (ps_for PassesOwn.never rfl (pi_list (pv 6)) (pg_name (i := 9) sc_law.nd rfl (by first | exact Or.inl rfl | exact Or.inr rfl))
        (pss_cons (ps_if (PW.pt (pw_or (pt_cmpR op_ne (pe_call G_clash_key (hr.mono (by decide)) rfl D_clash_key.m D_clash_key.F.kp D_clash_key.b .nil pass0 (pa_cons (pv 9) pa_nil)) (pe_call G__law_key (hr.mono (by decide)) rfl D__law_key.m D__law_key.F.kp D__law_key.b .nil pass0 (pa_cons (pv 9) pa_nil)) (nomark _)) (pw_or (pt_cmpR op_ne (pe_call G_clash_key (hr.mono (by decide)) rfl D_clash_key.m D_clash_key.F.kp D_clash_key.b .nil pass0 (pa_cons (pe_tup (pa_cons pe_str (pa_cons (pe_ix ix_tup (pv 9) pe_int (fun _ _ => rfl)) (pa_cons (pe_ix ix_tup (pv 9) pe_int (fun _ _ => rfl)) (pa_cons (pe_ix ix_tup (pv 9) pe_int (fun _ _ => rfl)) pa_nil))))) pa_nil)) (pe_call G__law_key (hr.mono (by decide)) rfl D__law_key.m D__law_key.F.kp D__law_key.b .nil pass0 (pa_cons (pv 9) pa_nil)) (nomark _)) (pw_or1 (pt_cmpR (op_neD hr.units) (pe_meth (pv 7) cl M_told.m G_told (hr.mono (by decide)) M_told.b .nil pass0 (pa_cons (pv 9) pa_nil)) (pe_dget1 hu (pv 8) (pe_call G__law_key (hr.mono (by decide)) rfl D__law_key.m D__law_key.F.kp D__law_key.b .nil pass0 (pa_cons (pv 9) pa_nil)) ⟨by rfl, by rfl, by rfl, by rfl⟩) (nomark _))))))
          (pss_one (ps_ret pe_bl))
          pss_nil)
        (pss_one (ps_if (pt_cmpR op_gt (pe_call G__law_draw (hr.mono (by decide)) rfl D__law_draw.m D__law_draw.F.kp D__law_draw.b .nil pass0 (pa_cons (pv 1) (pa_cons pe_int pa_nil))) pe_int (nomark _))
          (pss_cons (ps_dput hu (pv 8) (pe_call G__law_key (hr.mono (by decide)) rfl D__law_key.m D__law_key.F.kp D__law_key.b .nil pass0 (pa_cons (pv 9) pa_nil)) (pe_call G__law_lines (hr.mono (by decide)) rfl D__law_lines.m D__law_lines.F.kp D__law_lines.b .nil pass0 (pa_cons (pv 1) (pa_cons pe_int pa_nil))) rfl)
          (pss_one (ps_if (pt_cmpR op_ne (pe_meth (pv 7) cl M_learn.m G_learn (hr.mono (by decide)) M_learn.b .nil pass0 (pa_cons (pv 9) (pa_cons (pe_dget hu (pv 8) (pe_call G__law_key (hr.mono (by decide)) rfl D__law_key.m D__law_key.F.kp D__law_key.b .nil pass0 (pa_cons (pv 9) pa_nil)) (fun _ _ => rfl)) pa_nil))) (pe_call G__law_key (hr.mono (by decide)) rfl D__law_key.m D__law_key.F.kp D__law_key.b .nil pass0 (pa_cons (pv 9) pa_nil)) (nomark _))
            (pss_one (ps_ret pe_bl))
            pss_nil)))
          pss_nil))))
      (pss_cons (ps_if (PW.pt (pw_or (pt_cmpR (op_neD hr.units) (pe_meth0 (pv 7) cl M_keys_known.m G_keys_known (hr.mono (by decide)) M_keys_known.b .nil pass0 ) (pe_callB (call_sortedD rfl) (by rfl) z_sorted (by decide +kernel) (pa_cons (pv 8) pa_nil)) (nomark _)) (pw_or1 (pt_cmpR (op_neD hr.units) (pe_meth (pv 7) cl M_settle.m G_settle (hr.mono (by decide)) M_settle.b .nil pass0 (pa_cons (pe_call G_merged_parts (hr.mono (by decide)) rfl D_merged_parts.m D_merged_parts.F.kp D_merged_parts.b .nil pass0 (pa_cons (pv 2) (pa_cons (pv 3) (pa_cons (pv 4) pa_nil)))) pa_nil)) (pe_call G__law_settled (hr.mono (by decide)) rfl D__law_settled.m D__law_settled.F.kp D__law_settled.b .nil pass0 (pa_cons (pv 5) (pa_cons (pv 8) pa_nil))) (nomark _)))))
        (pss_one (ps_ret pe_bl))
        pss_nil)
      (pss_cons (ps_set (i := 10) sc_law.nd rfl (Or.inl rfl) (pe_call G_merged_parts (hr.mono (by decide)) rfl D_merged_parts.m D_merged_parts.F.kp D_merged_parts.b .nil pass0 (pa_cons (pv 2) (pa_cons (pv 4) (pa_cons (pv 3) pa_nil)))))
      (pss_cons (ps_if (pt_cmpR (op_neD hr.units) (pe_meth (pv 7) cl M_settle.m G_settle (hr.mono (by decide)) M_settle.b .nil pass0 (pa_cons (pv 10) pa_nil)) (pe_call G__law_settled (hr.mono (by decide)) rfl D__law_settled.m D__law_settled.F.kp D__law_settled.b .nil pass0 (pa_cons (pv 10) (pa_cons (pv 8) pa_nil))) (nomark _))
        (pss_one (ps_ret pe_bl))
        pss_nil)
      (pss_cons (ps_set (i := 11) sc_law.nd rfl (Or.inl rfl) (pe_call G__law_settled (hr.mono (by decide)) rfl D__law_settled.m D__law_settled.F.kp D__law_settled.b .nil pass0 (pa_cons (pv 5) (pa_cons (pv 8) pa_nil))))
      (pss_cons (ps_set (i := 12) sc_law.nd rfl (Or.inl rfl) (pe_tup (pa_cons pe_str (pa_cons pe_str pa_nil))))
      (pss_cons (ps_set (i := 13) sc_law.nd rfl (Or.inl rfl) (pe_tup (pa_cons (pe_join pe_str (pe_call G__law_marked (hr.mono (by decide)) rfl D__law_marked.m D__law_marked.F.kp D__law_marked.b .nil pass0 (pa_cons (pv 11) (pa_cons (pv 12) pa_nil)))) (pa_cons (pe_callB call_len_seq (by rfl) T0.z_len PySem.boot_len (pa_cons (pe_lc (own := [("part", 15)]) (g := gName 15) (tt := _) rfl sc_law.nd (pi_tup (pv 11)) (blkOk_by (own := [("part", 15)]) (N := ["script", "state", "base", "one", "two", "parts", "clashes", "memory", "known", "clash", "turned", "left", "names", "due", "lines", "part", "rows", "told", "settled", "error"]) (sc := defScope s_law) (by decide +kernel)) (fun _ _ _ _ _ => (pg_name (i := 15) sc_law.nd rfl (by first | exact Or.inl rfl | exact Or.inr rfl))) (fun _ _ _ _ _ => (pts_one (pt_cmpR op_eq (pe_ix (ix_tupQ (K := K) rfl) (pv 15) pe_int (fun _ _ => rfl)) pe_str (nomark _)))) (fun _ _ _ _ _ => (pv 15))) pa_nil)) pa_nil))))
      (pss_cons (ps_if (pt_cmpR (op_neD hr.units) (pe_meth (pv 7) cl M_merge.m G_merge (hr.mono (by decide)) M_merge.b .nil pass0 (pa_cons (pe_join pe_str (pv 2)) (pa_cons (pe_join pe_str (pv 3)) (pa_cons (pe_join pe_str (pv 4)) (pa_cons (pv 12) pa_nil))))) (pv 13) (nomark _))
        (pss_one (ps_ret pe_bl))
        pss_nil)
      (pss_cons (ps_set (i := 14) sc_law.nd rfl (Or.inl rfl) (pe_tup pa_nil))
      (pss_cons (ps_for PassesOwn.never rfl (pi_tup (pv 5)) (pg_name (i := 15) sc_law.nd rfl (by first | exact Or.inl rfl | exact Or.inr rfl))
        (pss_one (ps_set (i := 14) sc_law.nd rfl (Or.inl rfl) (pe_op op_catA (pv 14) (pe_ifExp (pt_cmpR op_eq (pe_ix ix_tup (pv 15) pe_int (fun _ _ => rfl)) pe_str (nomark _)) (pe_ix ix_tup (pv 15) pe_int (fun _ _ => rfl)) (pe_call G__law_lines (hr.mono (by decide)) rfl D__law_lines.m D__law_lines.F.kp D__law_lines.b .nil pass0 (pa_cons (pv 1) (pa_cons pe_int pa_nil))))))))
      (pss_cons (ps_if (pt_cmpR op_eq (pe_call G__law_draw (hr.mono (by decide)) rfl D__law_draw.m D__law_draw.F.kp D__law_draw.b .nil pass0 (pa_cons (pv 1) (pa_cons pe_int pa_nil))) pe_int (nomark _))
        (pss_one (ps_set (i := 14) sc_law.nd rfl (Or.inl rfl) (pe_op op_catA (pe_slice sl_tupA (pv 14) po_none (po_some (pe_call G__law_draw (hr.mono (by decide)) rfl D__law_draw.m D__law_draw.F.kp D__law_draw.b .nil pass0 (pa_cons (pv 1) (pa_cons (pe_op op_add (pe_callB call_len_seq (by rfl) T0.z_len PySem.boot_len (pa_cons (pv 14) pa_nil)) pe_int) pa_nil))))) (pe_tup (pa_cons pe_str pa_nil)))))
        pss_nil)
      (pss_cons (ps_set (i := 16) sc_law.nd rfl (Or.inl rfl) (pe_call G__law_between (hr.mono (by decide)) rfl D__law_between.m D__law_between.F.kp D__law_between.b .nil pass0 (pa_cons (pv 5) (pa_cons (pv 14) pa_nil))))
      (pss_cons (ps_set (i := 17) sc_law.nd rfl (Or.inl rfl) (pe_meth (pv 7) cl M_learn_from.m G_learn_from (hr.mono (by decide)) M_learn_from.b .nil pass0 (pa_cons (pv 5) (pa_cons (pe_join pe_str (pv 14)) pa_nil))))
      (pss_cons (ps_if (pt_cmpR op_ne (pv 17) (pe_ifExp (pt_cmpR op_isN (pv 16) pe_non (nomark _)) pe_non (pe_callB call_len_seq (by rfl) T0.z_len PySem.boot_len (pa_cons (pv 16) pa_nil))) (nomark _))
        (pss_one (ps_ret pe_bl))
        pss_nil)
      (pss_cons (ps_for PassesOwn.never rfl (pi_list (pe_ifExp (pt_cmpR op_notN (pv 16) pe_non (nomark _)) (pv 16) (pe_lst pa_nil))) (pg_tup rfl (pgs_cons (pg_name (i := 9) sc_law.nd rfl (by first | exact Or.inl rfl | exact Or.inr rfl)) (pgs_cons (pg_name (i := 18) sc_law.nd rfl (Or.inl rfl)) pgs_nil)))
        (pss_one (ps_dput hu (pv 8) (pe_call G__law_key (hr.mono (by decide)) rfl D__law_key.m D__law_key.F.kp D__law_key.b .nil pass0 (pa_cons (pv 9) pa_nil)) (pv 18) rfl)))
      (pss_cons (ps_if (PW.pt (pw_or (pt_cmpR (op_neD hr.units) (pe_meth0 (pv 7) cl M_keys_known.m G_keys_known (hr.mono (by decide)) M_keys_known.b .nil pass0 ) (pe_callB (call_sortedD rfl) (by rfl) z_sorted (by decide +kernel) (pa_cons (pv 8) pa_nil)) (nomark _)) (pw_or1 (pt_truth (pe_callB (cr_any rfl) (by rfl) z_any (by decide +kernel) (pa_cons (pe_lc (own := [("clash", 9)]) (g := gName 9) (tt := tYes) rfl sc_law.nd (pi_list (pv 6)) (blkOk_by (own := [("clash", 9)]) (N := ["script", "state", "base", "one", "two", "parts", "clashes", "memory", "known", "clash", "turned", "left", "names", "due", "lines", "part", "rows", "told", "settled", "error"]) (sc := defScope s_law) (by decide +kernel)) (fun _ _ _ _ _ => (pg_name (i := 9) sc_law.nd rfl (by first | exact Or.inl rfl | exact Or.inr rfl))) (fun _ _ _ _ _ => pts_nil) (fun _ _ _ _ _ => (pe_cmpR (op_neDQ (K := K) rfl hr.units) (pe_meth (pv 7) cl M_told.m G_told (hr.mono (by decide)) M_told.b .nil pass0 (pa_cons (pv 9) pa_nil)) (pe_dget1 hu (pv 8) (pe_call G__law_key (hr.mono (by decide)) rfl D__law_key.m D__law_key.F.kp D__law_key.b .nil pass0 (pa_cons (pv 9) pa_nil)) ⟨by rfl, by rfl, by rfl, by rfl⟩) (nomark _)))) pa_nil)) (by intro _; rfl)))))
        (pss_one (ps_ret pe_bl))
        pss_nil)
      (pss_cons (ps_for PassesOwn.never rfl (pi_list (pe_slice sl_list (pv 6) po_none (po_some pe_int))) (pg_name (i := 9) sc_law.nd rfl (by first | exact Or.inl rfl | exact Or.inr rfl))
        (pss_one (ps_if (PW.pt (pw_or (pt_cmpR op_ne (pe_meth (pv 7) cl M_forget.m G_forget (hr.mono (by decide)) M_forget.b .nil pass_no (pa_cons (pe_call G__law_key (hr.mono (by decide)) rfl D__law_key.m D__law_key.F.kp D__law_key.b .nil pass0 (pa_cons (pv 9) pa_nil)) pa_nil)) (pe_cmp (pc_din hu (pe_call G__law_key (hr.mono (by decide)) rfl D__law_key.m D__law_key.F.kp D__law_key.b .nil pass0 (pa_cons (pv 9) pa_nil)) (pv 8))) (nomark _)) (pw_or (pt_cmpR op_notN (pe_meth (pv 7) cl M_told.m G_told (hr.mono (by decide)) M_told.b .nil pass0 (pa_cons (pv 9) pa_nil)) pe_non (nomark _)) (pw_or1 (pt_cmpR op_isnot_bl (pe_meth (pv 7) cl M_forget.m G_forget (hr.mono (by decide)) M_forget.b .nil pass_no (pa_cons (pe_call G__law_key (hr.mono (by decide)) rfl D__law_key.m D__law_key.F.kp D__law_key.b .nil pass0 (pa_cons (pv 9) pa_nil)) pa_nil)) pe_bl (nomark _))))))
          (pss_one (ps_ret pe_bl))
          pss_nil)))
      (pss_cons (L2N.ps_try_as (i := 19) (tb := fun W => tDrop (tMethE CM "forget" (spForget K CM CI Pn) (WE W) (tVar 7) (tCons (tC (.str "x")) tNil))) (ts := t_xx CI) (Wout := fun _ _ _ _ => False) rfl rfl sc_law.nd rfl rfl ⟨rfl, by decide, Or.inl T.gC⟩ takesN0
        (fun W pn xe tk _ => pss_one (ps_expr (by exact (pe_methE (pv 7) cl M_forget.m G_forget (hr.mono (by decide)) M_forget.b (fun σ => L2N.passAt tk σ) (pa_cons pe_str pa_nil)))))
        (fun a oe cls d pn hz hf => pss_one (ps_ret (by exact (pe_cmpR op_eq (pe_xf (xfC_of T) T.noN hz.zc hf (pv 19)) pe_str (nomark _))))))
      (pss_one (ps_ret pe_bl))))))))))))))))))))))))))))), ?_⟩
    refine ⟨_, rfl, a, _, rfl, .inl hA, fun sc hsc => ⟨by show 4 ≤ sizeLine; decide, fun st hst => ?_⟩⟩
    have ssc := same_new (o := .lst (ns.map V.int)) hsc
    have sst := same_new (o := .lst [.int 0, .int 0, .ref sc, .int 1]) hst
    obtain ⟨H1, e1⟩ : ∃ H1, H1 = upd (upd H sc (.lst (ns.map V.int))) st (.lst [.int 0, .int 0, .ref sc, .int 1]) := ⟨_, rfl⟩
    rw [← e1]
    rw [← e1] at sst
    have nsc : sc ≠ st := by
      intro e
      rw [e, upd_same] at hst
      cases hst
    have hS1 : StAt K H1 st sc ns := ⟨⟨0, 0, 1, by rw [e1, upd_same], Int.le_refl _⟩, sst _ _ upd_same, nsc⟩
    have tab1 : GxR.TabG H1 Pn := tab_same tab (ssc.trans sst)
    refine ⟨_, rfl, st, sc, ns, 8, rfl, hS1, by decide, by decide, fun H2 t0 bs sv2 hS2 ht0 hL0 hl0 => ?_⟩
    have tab2 := tab_sv tab1 hS1 sv2
    have hB2 : SqT K H2 t0 (bs.map V.str) := .inl (.inl ht0)
    refine ⟨_, rfl, _, rfl, st, sc, t0, ns, bs, rfl, hS2, hB2, hL0, by omega, fun H3 t1 one sv3 hS3 hO3 hL1 hl1 => ?_⟩
    have tab3 := tab_sv tab2 hS2 sv3
    have hB3 := hS2.tk sv3 _ _ hB2
    refine ⟨_, rfl, _, rfl, st, sc, t0, ns, bs, rfl, hS3, hB3, hL0, by omega, fun H4 t2 two sv4 hS4 hT4 hL2 hl2 => ?_⟩
    have tab4 := tab_sv tab3 hS3 sv4
    have hB4 := hS3.tk sv4 _ _ hB3
    have hO4 := hS3.tk sv4 _ _ hO3
    have l0 : bs.length ≤ 8 := by omega
    have ok0 : OkL bs := lns_ok hL0
    have ok1 : OkL one := lns_ok hL1
    have ok2 : OkL two := lns_ok hL2
    obtain ⟨ps, eps⟩ : ∃ ps, ps = partsOf bs one two := ⟨_, rfl⟩
    obtain ⟨pk, ck⟩ : PO 17000 ps ∧ cntC ps ≤ 18 := by rw [eps]; exact parts_ok hL0 hL1 hL2 l0 hl1 hl2
    have lps := pk.len
    -- parts
    refine ⟨_, rfl, _, rfl, _, rfl, t0, t1, t2, bs, one, two, rfl, hB4, hO4, hT4, by omega, by omega, by omega, ok0, ok1, ok2, fun H5 v5 s5 d5 => ?_⟩
    have d5 : Dp K H5 v5 (partsD ps) := by rw [eps]; exact d5
    obtain ⟨pp, wp, rfl, hpp, dpp⟩ := of_tupD d5
    have lwp : wp.length = ps.length := by rw [dpAll_len dpp, List.length_map]
    obtain ⟨cs, ecs⟩ : ∃ cs, cs = ps.filter fun p => !isS p := ⟨_, rfl⟩
    have lcs : cs.length ≤ 18 := by rw [ecs]; exact ck
    -- clashes
    refine ⟨_, rfl, pp, rfl, ⟨_, hpp⟩, fun pc hpc => ?_⟩
    refine lc_tup (xs := wp) (fun t H' => ∃ ys, H' pc = some (.lst ys) ∧ Same H5 H' ∧ DpAll K H' ys (((ps.take t).filter fun p => !isS p).map partD)) ⟨[], upd_same, same_new hpc, .nil⟩ (fun t H' _ h => by obtain ⟨ys, h1, h2, h3⟩ := h; exact h2.seqT hpp) ?_ ?_
    · rintro t x H8 hx ⟨ys, hys, s8, hd8⟩
      have ht : t < ps.length := by rw [← lwp]; exact (List.getElem?_eq_some_iff.mp hx).1
      obtain ⟨p, hp⟩ : ∃ p, p = ps[t] := ⟨_, rfl⟩
      have hrt : ps[t]? = some p := by rw [List.getElem?_eq_getElem ht, hp]
      obtain ⟨v, hv1, hv2⟩ := dpAll_at (parts_keep (TK.same s8) dpp) (k := t) (d := partD p) (by rw [List.getElem?_map, hrt]; rfl)
      obtain rfl : v = x := Option.some.inj (hv1.symm.trans hx)
      obtain ⟨z, r, rfl, hz⟩ := of_part hv2
      have etk : ps.take (t + 1) = ps.take t ++ [p] := by rw [List.take_succ, hrt]; rfl
      have lys : ys.length ≤ 1000 := by
        have q := List.length_filter_le (fun p => !isS p) (ps.take t)
        rw [List.length_take] at q
        rw [dpAll_len hd8, List.length_map]
        omega
      refine ⟨rfl, _, rfl, z, _, _, _, rfl, rfl, hz, at_head, rfl, _, rfl, ?_⟩
      refine ite2 (fun e => ?_) (fun e => ?_)
      · rw [tag_clash] at e
        refine ⟨_, rfl, ys, hys, Nat.lt_of_le_of_lt lys (by decide), ys ++ [.ref z], upd_same, same_mut s8 hpc, ?_⟩
        rw [etk, List.filter_append, List.filter_cons_of_pos (p := fun p => !isS p) e, List.map_append]
        exact dpAll_app (parts_keep (TK.lst hys) hd8) (dpAll_one (dp_keep (TK.lst hys) _ _ (imm_part _) hv2))
      · rw [tag_clash] at e
        refine ⟨ys, hys, s8, ?_⟩
        rw [etk, List.filter_append, List.filter_cons_of_neg (p := fun p => !isS p) e, List.filter_nil, List.append_nil]
        exact hd8
    rintro H6 ⟨ws, hws, s6, hd6⟩
    rw [lwp, List.take_length, ← ecs] at hd6
    have npc : pc ≠ st := fun e => by
      obtain ⟨l, hl⟩ := hS4.some
      have q := s5 _ _ hl
      rw [← e, hpc] at q
      cases q
    have lws : ws.length = cs.length := by rw [dpAll_len hd6, List.length_map]
    have hcs : ∀ p ∈ cs, p ∈ ps ∧ ∃ b o t, p = .clash b o t := fun p hp => by
      rw [ecs] at hp
      obtain ⟨h1, h2⟩ := List.mem_filter.mp hp
      refine ⟨h1, ?_⟩
      cases p with
      | same ls => cases h2
      | clash b o t => exact ⟨b, o, t, rfl⟩
    -- memory
    intro am dx nam ndx nex
    have z1 := same_new (o := .own am) ndx
    have z2 := same_mut (o := .ins CM dx []) z1 nam
    refine ⟨am, dx, rfl, upd_same, fun ad had => ⟨rfl, ?_⟩⟩
    have z3 := z2.trans (same_new (o := .dK []) had)
    have z4 := same_mut (o := .ins CM dx [("kept", .ref ad)]) z3 nam
    have nad : ad ≠ am := by
      intro e
      rw [e, upd_same] at had
      cases had
    obtain ⟨H7, e7⟩ : ∃ H7, H7 = upd (upd (upd (upd H6 dx (.own am)) am (.ins CM dx [])) ad (.dK [])) am (.ins CM dx [("kept", .ref ad)]) := ⟨_, rfl⟩
    rw [← e7] at z4 ⊢
    have hM7 : MemAt K H7 CM am ad [] := ⟨⟨dx, by rw [e7, upd_same]⟩, [], by rw [e7, upd_ne nad, upd_same], trivial⟩
    -- known
    intro kd hkd
    obtain ⟨H8, e8⟩ : ∃ H8, H8 = upd H7 kd (.dK []) := ⟨_, rfl⟩
    rw [← e8]
    have s78 : Same H7 H8 := by rw [e8]; exact same_new hkd
    have nak : ad ≠ kd := by
      intro e
      obtain ⟨kv, h1, _⟩ := hM7.kd
      rw [e, hkd] at h1
      cases h1
    have s58 : Same H5 H8 := s6.trans (z4.trans s78)
    have s68 : Same H6 H8 := z4.trans s78
    have hpp8 := s58.seqT hpp
    have dpp8 := parts_keep (TK.same s58) dpp
    have L8 : LH K CM Pn st sc ns t0 t1 t2 bs one two pp pc ps cs ws am ad kd [] [] H8 := by
      obtain ⟨dx', hi⟩ := hM7.ins
      refine ⟨npc, (hS4.sv s5).sv s58, tab_same (tab_same tab4 s5) s58, s58.seqT (s5.seqT hB4), s58.seqT (s5.seqT hO4), s58.seqT (s5.seqT hT4), dp_keep (TK.same s58) _ _ (imm_parts ps) d5, s68 _ _ hws, parts_keep (TK.same s68) hd6, ⟨⟨dx', s78 _ _ hi⟩, hM7.kd.same s78⟩, ⟨[], by rw [e8, upd_same], trivial⟩, nak⟩
    have imp := imm_parts ps
    have setN : tidyF (ps.map (setM [])) = ps := by rw [set_none, pk.nf]
    -- settle, nothing known
    try dsimp only [gName]
    refine cut (fun σ' H' => σ' = [some (.ref a), some (.ref st), some (.ref t0), some (.ref t1), some (.ref t2), some (.ref pp), some (.ref pc), some (.ref am), some (.ref kd), none, none, none, none, none, none, none, none, none, none, none] ∧ Same H8 H') (fun nx hn => ?_) ?_
    · obtain ⟨dx8, hi8⟩ := L8.mem.ins
      refine ⟨_, rfl, am, dx8, _, rfl, hi8, rfl, ?_⟩
      refine ⟨_, rfl, _, rfl, _, rfl, t0, t1, t2, bs, one, two, rfl, L8.b, L8.o, L8.t, by omega, by omega, by omega, ok0, ok1, ok2, fun G1 v1 g1 d1 => ?_⟩
      have d1 : Dp K G1 v1 (partsD ps) := by rw [eps]; exact d1
      obtain ⟨p1, w1, rfl, _, _⟩ := of_tupD d1
      refine ⟨am, ad, p1, [], ps, rfl, (L8.same g1).mem, d1, by omega, pk.sm (by decide), by rw [set_none]; exact fun q hq => Nat.le_trans (pk.pl q hq) (by decide), fun G2 v2 g2 d2 => ?_⟩
      rw [setN] at d2
      refine ⟨_, rfl, ?_⟩
      refine ne_same d2 ((L8.same g1).same g2).p (okD_parts pk.ok) (by decide) ⟨_, rfl, ?_⟩
      refine ite2 (fun e => absurd e Bool.false_ne_true) (fun _ => ?_)
      exact hn _ _ ⟨rfl, g1.trans g2⟩
    rintro σ9 H9 ⟨rfl, s9⟩
    have L9 := L8.same s9
    have hpp9 := s9.seqT hpp8
    have dpp9 := parts_keep (TK.same s9) dpp8
    -- each clash
    refine ⟨_, rfl, pc, rfl, ⟨_, SqL.of L9.c⟩, ?_⟩
    refine for_it (walk_list (xs := ws)) (fun c σ H' => ∃ (m : Mem) (x9 : Option V), σ = [some (.ref a), some (.ref st), some (.ref t0), some (.ref t1), some (.ref t2), some (.ref pp), some (.ref pc), some (.ref am), some (.ref kd), x9, none, none, none, none, none, none, none, none, none, none] ∧ LH K CM Pn st sc ns t0 t1 t2 bs one two pp pc ps cs ws am ad kd m m H' ∧ MemOk m ∧ MemSm m ∧ m.length ≤ c ∧ TK K H9 H') ?_ (fun c σ H' _ h => ?_) ?_ ?_
    · exact ⟨[], none, rfl, L9, .nil, .nil, Nat.le_refl _, TK.refl _ _⟩
    · obtain ⟨m, x9, _, h1, _⟩ := h
      exact SqL.of h1.c
    · rintro c x σ H5o H5 hc ⟨m, x9, rfl, Lc, mo, ms, ml, tkc⟩ ⟨rfl, hx⟩
      have hcf : c < cs.length := by rw [← lws]; exact hc
      obtain ⟨p, hp⟩ : ∃ p, p = cs[c] := ⟨_, rfl⟩
      have hf : cs[c]? = some p := by rw [List.getElem?_eq_getElem hcf, hp]
      obtain ⟨hpm, b, o, t, rfl⟩ := hcs p (List.mem_of_getElem? hf)
      obtain ⟨l1, l2, l3⟩ := pk.sm (by decide) _ hpm
      obtain ⟨v, hv1, dz⟩ := dpAll_at Lc.cd (k := c) (d := partD (.clash b o t)) (by rw [List.getElem?_map, hf]; rfl)
      obtain rfl : v = x := Option.some.inj (hv1.symm.trans hx)
      obtain ⟨z, x1, x2, x3, rfl, hz, h1, h2, h3⟩ := of_clash dz
      have iz := imm_part (.clash b o t)
      refine cut (fun σ' H' => σ' = [some (.ref a), some (.ref st), some (.ref t0), some (.ref t1), some (.ref t2), some (.ref pp), some (.ref pc), some (.ref am), some (.ref kd), some (.ref z), none, none, none, none, none, none, none, none, none, none] ∧ Same H5 H') (fun nx hn => ?_) ?_
      · refine ⟨_, rfl, z, b, o, t, rfl, dz, l1, l2, l3, fun G1 g1 => ?_⟩
        refine ⟨_, rfl, z, b, o, t, rfl, dp_keep (TK.same g1) _ _ iz dz, l1, l2, l3, fun G2 g2 => ?_⟩
        refine ⟨rfl, _, rfl, ?_⟩
        refine ite2 (fun e => by simp at e) (fun _ => ?_)
        have g12 := g1.trans g2
        have hz2 := g12.seqT hz
        refine ⟨_, rfl, z, _, _, _, rfl, rfl, hz2, rfl, _, rfl, z, _, _, _, rfl, rfl, hz2, rfl, _, rfl, z, _, _, _, rfl, rfl, hz2, rfl, by show 4 ≤ sizeLine; decide, fun q hq => ?_⟩
        have gq := same_new (o := .tup [.str "clash", .ref x1, .ref x3, .ref x2]) hq
        have g13 := g12.trans gq
        have dq : Dp K _ (.ref q) (partD (.clash b t o)) := dp_clash (.inl (.inl upd_same)) (g13.seqT h1) (g13.seqT h3) (g13.seqT h2)
        refine ⟨q, b, t, o, rfl, dq, l1, l3, l2, fun G4 g4 => ?_⟩
        have g14 := g13.trans g4
        refine ⟨_, rfl, z, b, o, t, rfl, dp_keep (TK.same g14) _ _ iz dz, l1, l2, l3, fun G5 g5 => ?_⟩
        have g15 := g14.trans g5
        rw [key_swap]
        refine ⟨rfl, _, rfl, ?_⟩
        refine ite2 (fun e => by simp at e) (fun _ => ?_)
        have L5 := Lc.same g15
        obtain ⟨dx5, hi5⟩ := L5.mem.ins
        refine ⟨_, rfl, am, dx5, _, rfl, hi5, rfl, _, rfl, am, ad, z, m, b, o, t, rfl, L5.mem, dp_keep (TK.same g15) _ _ iz dz, l1, l2, l3, fun G6 v6 g6 hv6 => ?_⟩
        have d6 := told_dp hv6
        have g16 := g15.trans g6
        obtain ⟨kvs, hk, hkl⟩ := (L5.same g6).kn
        refine ⟨_, rfl, kd, rfl, .inl ⟨kvs, .inl hk⟩, _, rfl, z, b, o, t, rfl, dp_keep (TK.same g16) _ _ iz dz, l1, l2, l3, fun G7 g7 => ?_⟩
        refine ⟨_, .inl ⟨kvs, Sum.inr (keyF b o t), .inl (g7 _ _ hk), rfl, rfl⟩, ?_⟩
        refine ne_same (dp_keep (TK.same g7) _ _ (imm_opt _) d6) (val_dp (hkl.tk (TK.same g7)) _) (okD_opt mo _) (by decide) ⟨_, rfl, ?_⟩
        refine ite2 (fun e => absurd e Bool.false_ne_true) (fun _ => ?_)
        exact hn _ _ ⟨rfl, g16.trans g7⟩
      rintro σ6 H6 ⟨rfl, s6⟩
      have L6 := Lc.same s6
      have dz6 := dp_keep (TK.same s6) _ _ iz dz
      refine ⟨_, rfl, st, sc, ns, 3, rfl, L6.st, by decide, by decide, fun d s0 pz s3 hd0 hd1 hpz => ?_⟩
      obtain ⟨H7, e7⟩ : ∃ H7, H7 = upd H6 st (.lst (stL s0 pz sc s3)) := ⟨_, rfl⟩
      rw [← e7]
      have sv7 : Sv st H6 H7 := by rw [e7]; exact Sv.at_
      have L7 := L6.draw (L6.st.to sv7 (by rw [e7, upd_same]) hpz) sv7
      have t7 := L6.st.tk sv7
      have dz7 := dp_keep t7 _ _ iz dz6
      refine ⟨_, _, rfl, rfl, _, rfl, ?_⟩
      refine ite2 (fun _ => ?_) (fun _ => ?_)
      · refine ⟨_, rfl, st, sc, ns, 3, rfl, L7.st, by decide, by decide, fun H8 tl ls sv8 hS8 htl hLl hll => ?_⟩
        have L8 := L7.draw hS8 sv8
        have t8 := L7.st.tk sv8
        have dz8 := dp_keep t8 _ _ iz dz7
        refine ⟨_, rfl, _, rfl, z, b, o, t, rfl, dz8, l1, l2, l3, fun H9' s9' => ?_⟩
        have L9' := L8.same s9'
        have hl9 : SqT K H9' tl (ls.map V.str) := s9'.seqT (.inl (.inl htl))
        obtain ⟨kvs, hk, hkl⟩ := L9'.kn
        have lk : kvs.length ≤ 1000 := by rw [hkl.len]; omega
        obtain ⟨svk, kdk⟩ := kd_put (s := keyF b o t) hk hkl hl9
        refine ⟨kd, _, rfl, .inl ⟨kvs, Sum.inr (keyF b o t), hk, rfl, Nat.lt_of_le_of_lt lk (by decide), rfl⟩, ?_⟩
        obtain ⟨Ha, ea⟩ : ∃ Ha, Ha = upd H9' kd (.dK (putK kvs (Sum.inr (keyF b o t) : Key) (.ref tl))) := ⟨_, rfl⟩
        rw [← ea] at svk kdk ⊢
        have La := L9'.put svk kdk
        have ta : TK K H9' Ha := tk_svd hk svk
        have dza := dp_keep ta _ _ iz (dp_keep (TK.same s9') _ _ iz dz8)
        obtain ⟨dxa, hia⟩ := La.mem.ins
        obtain ⟨kva, hka, hkla⟩ := La.kn
        refine ⟨_, rfl, am, dxa, _, rfl, hia, rfl, _, rfl, _, rfl, _, rfl, z, b, o, t, rfl, dza, l1, l2, l3, fun Hb sb => ?_⟩
        have Lb := La.same sb
        have dzb := dp_keep (TK.same sb) _ _ iz dza
        rcases (hkla.tk (TK.same sb)).val (keyF b o t) with ⟨e1, e2⟩ | ⟨pl, ls', e1, e2, hpl⟩
        · rw [look_put, if_pos rfl] at e2
          cases e2
        rw [look_put, if_pos rfl] at e2
        obtain rfl : ls = ls' := Option.some.inj e2
        refine ⟨kd, .ref pl, rfl, .inl ⟨kva, Sum.inr (keyF b o t), .inl (sb _ _ hka), rfl, e1.symm⟩, ?_⟩
        refine ⟨am, ad, z, pl, m, b, o, t, ls, rfl, Lb.mem, by omega, dzb, hpl, l1, l2, l3, fun Hc svc tc mc => ?_⟩
        have Lc2 := Lb.learn svc tc mc
        have dzc := dp_keep tc _ _ iz dzb
        refine ⟨_, rfl, z, b, o, t, rfl, dzc, l1, l2, l3, fun Hd sd => ?_⟩
        refine ⟨rfl, _, rfl, ?_⟩
        refine ite2 (fun e => by simp at e) (fun _ => ?_)
        refine ⟨putM m (keyF b o t) ls, some (.ref z), rfl, Lc2.same sd, mo.put (key_ok ..) hLl, ms.put (by omega), Nat.le_trans (put_len ..) (Nat.succ_le_succ ml), ?_⟩
        exact tkc.trans ((TK.same s6).trans (t7.trans (t8.trans ((TK.same s9').trans (ta.trans ((TK.same sb).trans (tc.trans (TK.same sd))))))))
      · exact ⟨m, some (.ref z), rfl, L7, mo, ms, Nat.le_succ_of_le ml, tkc.trans ((TK.same s6).trans t7)⟩
    rintro σ10 H10 ⟨m, x9, rfl, L10, mo, ms, ml, tk10⟩
    rw [lws] at ml
    have hpp10 := tk10 _ _ hpp9
    have dpp10 := parts_keep tk10 dpp9
    have pset := PO.set mo ms pk
    -- keys, settle
    try dsimp only [gName]
    refine cut (fun σ' H' => σ' = [some (.ref a), some (.ref st), some (.ref t0), some (.ref t1), some (.ref t2), some (.ref pp), some (.ref pc), some (.ref am), some (.ref kd), x9, none, none, none, none, none, none, none, none, none, none] ∧ Same H10 H') (fun nx hn => ?_) ?_
    · obtain ⟨dx0, hi0⟩ := L10.mem.ins
      refine ⟨_, rfl, am, dx0, _, rfl, hi0, rfl, am, ad, m, rfl, L10.mem, by omega, fun G1 q1 ys1 g1 pm1 so1 hq1 => ?_⟩
      have LG1 := L10.same g1
      obtain ⟨kvs, hk, hkl⟩ := LG1.kn
      refine ⟨_, rfl, kd, kvs, m.map (·.1), rfl, .inl hk, hkl.keys, by rw [List.length_map]; omega, fun ys2 q2 pm2 so2 hq2 => ?_⟩
      obtain ⟨ey, oky⟩ := keys_same mo pm1 so1 pm2 so2
      have g2 := same_new (o := .lst (ys2.map V.str)) hq2
      refine ne_same (keysD_list (g2 _ _ hq1)) (by rw [ey]; exact keysD_list upd_same) (okD_listS oky) (by decide) ⟨_, rfl, ?_⟩
      refine ite2 (fun e => absurd e Bool.false_ne_true) (fun _ => ?_)
      have LG2 := LG1.same g2
      obtain ⟨dx2, hi2⟩ := LG2.mem.ins
      refine ⟨_, rfl, am, dx2, _, rfl, hi2, rfl, ?_⟩
      refine ⟨_, rfl, _, rfl, _, rfl, t0, t1, t2, bs, one, two, rfl, LG2.b, LG2.o, LG2.t, by omega, by omega, by omega, ok0, ok1, ok2, fun G3 v3 g3 d3 => ?_⟩
      have d3 : Dp K G3 v3 (partsD ps) := by rw [eps]; exact d3
      obtain ⟨p3, w3, rfl, _, _⟩ := of_tupD d3
      have LG3 := LG2.same g3
      refine ⟨am, ad, p3, m, ps, rfl, LG3.mem, d3, by omega, pk.sm (by decide), pset.2, fun G4 v4 g4 d4 => ?_⟩
      have LG4 := LG3.same g4
      refine ⟨_, rfl, _, rfl, pp, kd, m, ps, rfl, LG4.kn, LG4.p, by omega, pk.sm (by decide), pset.2, fun G5 v5 g5 d5' => ?_⟩
      refine ne_same (dp_keep (TK.same g5) _ _ (imm_parts _) d4) d5' (okD_parts pset.1.ok) (by decide) ⟨_, rfl, ?_⟩
      refine ite2 (fun e => absurd e Bool.false_ne_true) (fun _ => ?_)
      exact hn _ _ ⟨rfl, g1.trans (g2.trans (g3.trans (g4.trans g5)))⟩
    rintro σ11 H11 ⟨rfl, s11⟩
    have L11 := L10.same s11
    -- turned
    obtain ⟨pt, ept⟩ : ∃ pt, pt = partsOf bs two one := ⟨_, rfl⟩
    obtain ⟨tk', _⟩ : PO 17000 pt ∧ cntC pt ≤ 18 := by rw [ept]; exact parts_ok hL0 hL2 hL1 l0 hl2 hl1
    have lpt := tk'.len
    have tset := PO.set mo ms tk'
    refine ⟨_, rfl, _, rfl, _, rfl, t0, t2, t1, bs, two, one, rfl, L11.b, L11.t, L11.o, by omega, by omega, by omega, ok0, ok2, ok1, fun H12 v12 s12 d12 => ?_⟩
    have d12 : Dp K H12 v12 (partsD pt) := by rw [ept]; exact d12
    obtain ⟨qt, wt, rfl, _, _⟩ := of_tupD d12
    have L12 := L11.same s12
    try dsimp only [gName]
    refine cut (fun σ' H' => σ' = [some (.ref a), some (.ref st), some (.ref t0), some (.ref t1), some (.ref t2), some (.ref pp), some (.ref pc), some (.ref am), some (.ref kd), x9, some (.ref qt), none, none, none, none, none, none, none, none, none] ∧ Same H12 H') (fun nx hn => ?_) ?_
    · obtain ⟨dx0, hi0⟩ := L12.mem.ins
      refine ⟨_, rfl, am, dx0, _, rfl, hi0, rfl, _, rfl, am, ad, qt, m, pt, rfl, L12.mem, d12, by omega, tk'.sm (by decide), tset.2, fun G4 v4 g4 d4 => ?_⟩
      have LG4 := L12.same g4
      refine ⟨_, rfl, _, rfl, qt, kd, m, pt, rfl, LG4.kn, dp_keep (TK.same g4) _ _ (imm_parts _) d12, by omega, tk'.sm (by decide), tset.2, fun G5 v5 g5 d5' => ?_⟩
      refine ne_same (dp_keep (TK.same g5) _ _ (imm_parts _) d4) d5' (okD_parts tset.1.ok) (by decide) ⟨_, rfl, ?_⟩
      refine ite2 (fun e => absurd e Bool.false_ne_true) (fun _ => ?_)
      exact hn _ _ ⟨rfl, g4.trans g5⟩
    rintro σ13 H13 ⟨rfl, s13⟩
    have L13 := L12.same s13
    -- left
    obtain ⟨left, elf⟩ : ∃ left, left = tidyF (ps.map (setM m)) := ⟨_, rfl⟩
    have lk : PO 17111 left := by rw [elf]; exact pset.1
    have lll := lk.len
    refine ⟨_, rfl, _, rfl, pp, kd, m, ps, rfl, L13.kn, L13.p, by omega, pk.sm (by decide), pset.2, fun H14 v14 s14 d14 => ?_⟩
    rw [← elf] at d14
    obtain ⟨pl, wl, rfl, hpl, dpl⟩ := of_tupD d14
    have lwl : wl.length = left.length := by rw [dpAll_len dpl, List.length_map]
    have L14 := L13.same s14
    -- names
    refine ⟨by show 2 ≤ sizeLine; decide, fun nm hnm => ?_⟩
    have s15 := same_new (o := .tup [.str "l", .str "r"]) hnm
    obtain ⟨H15, e15⟩ : ∃ H15, H15 = upd H14 nm (.tup [.str "l", .str "r"]) := ⟨_, rfl⟩
    rw [← e15] at s15 ⊢
    have hnm15 : SqT K H15 nm [.str "l", .str "r"] := .inl (.inl (by rw [e15, upd_same]))
    have L15 := L14.same s15
    -- due
    have msum := PO.mkd lk (by decide)
    have plk : ∀ p ∈ left, plP p ≤ 20000 := fun p hp => Nat.le_trans (lk.pl p hp) (by decide)
    refine ⟨⟨_, rfl⟩, _, rfl, _, rfl, pl, nm, left, nmL, nmR, rfl, dp_keep (TK.same s15) _ _ (imm_parts _) d14, hnm15, by decide +kernel, by decide +kernel, by omega, plk, lk.shP, fun H16 pm s16 hpm => ?_⟩
    have L16 := L15.same s16
    have s1416 := s15.trans s16
    have hpl16 := s1416.seqT hpl
    have dpl16 := parts_keep (TK.same s1416) dpl
    refine ⟨"", pm, mkd nmL nmR [] left, rfl, rfl, .inr hpm, msum, ?_⟩
    refine ⟨_, rfl, pl, rfl, ⟨_, hpl16⟩, fun D hD => ?_⟩
    refine lc_tup (xs := wl) (fun t H' => ∃ ys, H' D = some (.lst ys) ∧ Same H16 H' ∧ ys.length = cntC (left.take t)) ⟨[], upd_same, same_new hD, rfl⟩ (fun t H' _ h => by obtain ⟨ys, h1, h2, h3⟩ := h; exact h2.seqT hpl16) ?_ ?_
    · rintro t x H8 hx ⟨ys, hys, s8, hly⟩
      have ht : t < left.length := by rw [← lwl]; exact (List.getElem?_eq_some_iff.mp hx).1
      obtain ⟨p, hp⟩ : ∃ p, p = left[t] := ⟨_, rfl⟩
      have hrt : left[t]? = some p := by rw [List.getElem?_eq_getElem ht, hp]
      obtain ⟨v, hv1, hv2⟩ := dpAll_at (parts_keep (TK.same s8) dpl16) (k := t) (d := partD p) (by rw [List.getElem?_map, hrt]; rfl)
      obtain rfl : v = x := Option.some.inj (hv1.symm.trans hx)
      obtain ⟨z, r, rfl, hz⟩ := of_part hv2
      have etk : left.take (t + 1) = left.take t ++ [p] := by rw [List.take_succ, hrt]; rfl
      have lc : cntC (left.take t) ≤ 1000 := by
        have q := List.length_filter_le (fun p => !isS p) (left.take t)
        rw [List.length_take] at q
        unfold cntC
        omega
      refine ⟨rfl, _, rfl, z, _, _, _, rfl, rfl, hz, at_head, rfl, _, rfl, ?_⟩
      refine ite2 (fun e => ?_) (fun e => ?_)
      · rw [tag_clash] at e
        refine ⟨_, rfl, ys, hys, Nat.lt_of_le_of_lt (show ys.length ≤ 1000 by omega) (by decide), ys ++ [.ref z], upd_same, same_mut s8 hD, ?_⟩
        unfold cntC at hly ⊢
        rw [etk, List.filter_append, List.filter_cons_of_pos (p := fun p => !isS p) e, List.length_append, List.length_append, hly]
        rfl
      · rw [tag_clash] at e
        refine ⟨ys, hys, s8, ?_⟩
        unfold cntC at hly ⊢
        rw [etk, List.filter_append, List.filter_cons_of_neg (p := fun p => !isS p) e, List.filter_nil, List.append_nil, hly]
    rintro H17 ⟨ys, hys, s17, hly⟩
    rw [lwl, List.take_length] at hly
    refine ⟨D, ys, rfl, .inl (SqL.of hys), by show 2 ≤ sizeLine; decide, fun du hdu => ?_⟩
    rw [hly]
    obtain ⟨J, eJ⟩ : ∃ J, J = Txt.join ("" : Str) (mkd nmL nmR [] left) := ⟨_, rfl⟩
    rw [← eJ]
    obtain ⟨H18, e18⟩ : ∃ H18, H18 = upd H17 du (.tup [.str J, .int ((cntC left : Nat) : Int)]) := ⟨_, rfl⟩
    have s18 : Same H17 H18 := by rw [e18]; exact same_new hdu
    have hdu18 : SqT K H18 du [.str J, .int ((cntC left : Nat) : Int)] := .inl (.inl (by rw [e18, upd_same]))
    rw [← e18]
    have L18 := (L16.same s17).same s18
    have dD : ∀ {H : Hp} {q : Addr}, SqT K H q [.str J, .int ((cntC left : Nat) : Int)] → Dp K H (.ref q) (.tuple [.str J, .int ((cntC left : Nat) : Int)]) := fun h => .tup h (.cons (.str _) (.cons (.int _) .nil))
    have okJ : PyData.strOk J = true := by rw [eJ]; exact okJoin lk.mkd_ok
    have okDD : OkD 1 (.tuple [.str J, .int ((cntC left : Nat) : Int)]) := by
      refine ⟨?_, ?_⟩
      · show (PyData.strOk J && (true && true)) = true
        rw [okJ]; rfl
      · simp [PyData.depth, PyData.depthAll]
    have jlen : ∀ {ls : List Str}, Lns ls → ls.length ≤ 20000 → (ls.map (·.length)).sum ≤ 40000 := fun h l => by have := lns_sum h; omega
    have jl : ∀ {ls : List Str}, Lns ls → ls.length ≤ 20000 → (Txt.join "" ls).length ≤ 10000000 := fun h l => by rw [joinE_len]; have := jlen h l; omega
    have jb : ∀ {ls : List Str}, Lns ls → ls.length ≤ 20000 → (ls.map (·.length)).sum + ls.length * 0 ≤ 16777216 := fun h l => by have := jlen h l; omega
    try dsimp only [gName]
    refine cut (fun σ' H' => σ' = [some (.ref a), some (.ref st), some (.ref t0), some (.ref t1), some (.ref t2), some (.ref pp), some (.ref pc), some (.ref am), some (.ref kd), x9, some (.ref qt), some (.ref pl), some (.ref nm), some (.ref du), none, none, none, none, none, none] ∧ Same H18 H') (fun nx hn => ?_) ?_
    · obtain ⟨dx0, hi0⟩ := L18.mem.ins
      have hnm18 := (s16.trans (s17.trans s18)).seqT hnm15
      refine ⟨_, rfl, am, dx0, _, rfl, hi0, rfl, ?_⟩
      refine ⟨⟨_, rfl⟩, _, rfl, "", t0, bs, rfl, rfl, .inr L18.b, jb hL0 (by omega), ?_⟩
      refine ⟨⟨_, rfl⟩, _, rfl, "", t1, one, rfl, rfl, .inr L18.o, jb hL1 (by omega), ?_⟩
      refine ⟨⟨_, rfl⟩, _, rfl, "", t2, two, rfl, rfl, .inr L18.t, jb hL2 (by omega), ?_⟩
      refine ⟨_, rfl, am, ad, nm, Txt.join "" bs, Txt.join "" one, Txt.join "" two, m, nmL, nmR, bs, one, two, left, rfl, L18.mem, hnm18, by decide +kernel, by decide +kernel, jl hL0 (by omega), jl hL1 (by omega), jl hL2 (by omega), lns_lines hL0, lns_lines hL1, lns_lines hL2, by omega, by omega, by omega, ok0, ok1, ok2, by rw [← eps]; omega, by rw [← eps]; exact pk.sm (by decide), by rw [← eps]; exact pset.2, by rw [← eps]; exact elf, by omega, plk, lk.shP, by have := msum; omega, fun G1 q1 g1 hq1 => ?_⟩
      rw [← eJ] at hq1
      refine ⟨_, rfl, ?_⟩
      refine ne_same (dD hq1) (dD (g1.seqT hdu18)) okDD (by decide) ⟨_, rfl, ?_⟩
      refine ite2 (fun e => absurd e Bool.false_ne_true) (fun _ => ?_)
      exact hn _ _ ⟨rfl, g1⟩
    rintro σ19 H19 ⟨rfl, s19⟩
    have L19 := L18.same s19
    have t9_19 : TK K H10 H19 := TK.same (s11.trans (s12.trans (s13.trans (s14.trans (s1416.trans (s17.trans (s18.trans s19)))))))
    have hpp19 := t9_19 _ _ hpp10
    have dpp19 := parts_keep t9_19 dpp10
    -- lines
    refine ⟨by show 0 ≤ sizeLine; decide, fun q0 hq0 => ?_⟩
    have s20 := same_new (o := .tup []) hq0
    obtain ⟨H20, e20⟩ : ∃ H20, H20 = upd H19 q0 (.tup []) := ⟨_, rfl⟩
    have hq20 : SqT K H20 q0 (([] : List Str).map V.str) := .inl (.inl (by rw [e20, upd_same]; rfl))
    rw [← e20] at s20 ⊢
    have L20 := L19.same s20
    have hpp20 := s20.seqT hpp19
    have dpp20 := parts_keep (TK.same s20) dpp19
    refine ⟨_, rfl, pp, rfl, ⟨_, hpp20⟩, ?_⟩
    refine for_it (walk_tup (xs := wp)) (fun c σ H' => ∃ (q : Addr) (ls : List Str) (x15 : Option V), σ = [some (.ref a), some (.ref st), some (.ref t0), some (.ref t1), some (.ref t2), some (.ref pp), some (.ref pc), some (.ref am), some (.ref kd), x9, some (.ref qt), some (.ref pl), some (.ref nm), some (.ref du), some (.ref q), x15, none, none, none, none] ∧ LH K CM Pn st sc ns t0 t1 t2 bs one two pp pc ps cs ws am ad kd m m H' ∧ TK K H20 H' ∧ SqT K H' q (ls.map V.str) ∧ Lns ls ∧ ls.length ≤ tot (ps.take c) + 3 * c) ?_ (fun c σ H' _ h => ?_) ?_ ?_
    · exact ⟨q0, [], none, rfl, L20, TK.refl _ _, hq20, lns_nil, Nat.zero_le _⟩
    · obtain ⟨q, ls, x15, _, _, h3, _⟩ := h
      exact h3 _ _ hpp20
    · rintro c x σ H5o H5 hc ⟨q, ls, x15, rfl, Lc, tkc, hq, hls, lls⟩ ⟨rfl, hx⟩
      have hcf : c < ps.length := by rw [← lwp]; exact hc
      obtain ⟨p, hp⟩ : ∃ p, p = ps[c] := ⟨_, rfl⟩
      have hf : ps[c]? = some p := by rw [List.getElem?_eq_getElem hcf, hp]
      have hpm := List.mem_of_getElem? hf
      obtain ⟨v, hv1, hv2⟩ := dpAll_at (parts_keep tkc dpp20) (k := c) (d := partD p) (by rw [List.getElem?_map, hf]; rfl)
      obtain rfl : v = x := Option.some.inj (hv1.symm.trans hx)
      have etk : ps.take (c + 1) = ps.take c ++ [p] := by rw [List.take_succ, hf]; rfl
      have lt1 : tot (ps.take c) ≤ 17000 := by
        have q1 := pk.tot
        rw [← List.take_append_drop c ps, tot_app] at q1
        omega
      obtain ⟨z, r, rfl, hz⟩ := of_part hv2
      refine ⟨_, rfl, _, rfl, z, _, _, _, rfl, rfl, hz, at_head, rfl, _, rfl, ?_⟩
      cases p with
      | same lp =>
        obtain ⟨z', y, ez, hz2, hy⟩ := of_same hv2
        cases ez
        rw [tag_same]
        refine ite2 (fun _ => ?_) (fun e => absurd rfl e)
        refine ⟨_, rfl, z, _, _, _, rfl, rfl, hz2, rfl, ?_⟩
        have llp : lp.length ≤ 17000 := by
          have q1 := pk.tot
          have q2 := mem_tot hpm
          have q3 : totP (.same lp) = lp.length := rfl
          omega
        refine cat_linesB hq hy (by omega) fun H6 u s6 hu => ?_
        refine ⟨u, ls ++ lp, _, rfl, Lc.same s6, tkc.trans (TK.same s6), hu, hls.app (pk.all _ hpm), ?_⟩
        rw [etk, tot_app, tot_one, List.length_append]
        show _ ≤ _ + lp.length + _
        omega
      | clash b o t =>
        refine ite2 (fun e => by rw [tag_same] at e; cases e) (fun _ => ?_)
        refine ⟨_, rfl, st, sc, ns, 3, rfl, Lc.st, by decide, by decide, fun H6 tl l6 sv6 hS6 htl hLl hll => ?_⟩
        have L6 := Lc.draw hS6 sv6
        have t6 := Lc.st.tk sv6
        refine cat_linesB (t6 _ _ hq) (.inl (.inl htl)) (by omega) fun H7 u s7 hu => ?_
        refine ⟨u, ls ++ l6, _, rfl, L6.same s7, tkc.trans (t6.trans (TK.same s7)), hu, hls.app hLl, ?_⟩
        rw [etk, tot_app, tot_one, List.length_append]
        omega
    rintro σ21 H21 ⟨q, ls, x15, rfl, L21, tk21, hq, hls, lls⟩
    rw [lwp, List.take_length] at lls
    have ltk := pk.tot
    -- if _law_draw(state, 3) == 0
    try dsimp only [gName]
    refine cut (fun σ' H' => ∃ (q : Addr) (ls : List Str), σ' = [some (.ref a), some (.ref st), some (.ref t0), some (.ref t1), some (.ref t2), some (.ref pp), some (.ref pc), some (.ref am), some (.ref kd), x9, some (.ref qt), some (.ref pl), some (.ref nm), some (.ref du), some (.ref q), x15, none, none, none, none] ∧ LH K CM Pn st sc ns t0 t1 t2 bs one two pp pc ps cs ws am ad kd m m H' ∧ SqT K H' q (ls.map V.str) ∧ Lns ls ∧ ls.length ≤ 18000) (fun nx hn => ?_) ?_
    · refine ⟨_, rfl, st, sc, ns, 3, rfl, L21.st, by decide, by decide, fun d s0 pz s3 hd0 hd1 hpz => ?_⟩
      obtain ⟨H7, e7⟩ : ∃ H7, H7 = upd H21 st (.lst (stL s0 pz sc s3)) := ⟨_, rfl⟩
      rw [← e7]
      have sv7 : Sv st H21 H7 := by rw [e7]; exact Sv.at_
      have L7 := L21.draw (L21.st.to sv7 (by rw [e7, upd_same]) hpz) sv7
      have hq7 := L21.st.tk sv7 _ _ hq
      refine ⟨rfl, _, rfl, ?_⟩
      refine ite2 (fun _ => ?_) (fun _ => ?_)
      · refine ⟨_, rfl, ?_⟩
        dsimp only [tNoPart]
        refine ⟨_, rfl, _, rfl, q, _, rfl, .inr hq7, _, _, rfl, rfl, st, sc, ns, _, rfl, L7.st, ?_, ?_, fun d1 s0' pz' s3' hd10 hd11 hpz' => ?_⟩
        · rw [List.length_map]; omega
        · rw [List.length_map]; show ((ls.length : Int) + 1) < 1000000000; omega
        obtain ⟨n1, rfl⟩ : ∃ n1 : Nat, d1 = (n1 : Int) := ⟨d1.toNat, by omega⟩
        obtain ⟨H8, e8⟩ : ∃ H8, H8 = upd H7 st (.lst (stL s0' pz' sc s3')) := ⟨_, rfl⟩
        rw [← e8]
        have sv8 : Sv st H7 H8 := by rw [e8]; exact Sv.at_
        have L8' := L7.draw (L7.st.to sv8 (by rw [e8, upd_same]) hpz') sv8
        have hq8 := L7.st.tk sv8 _ _ hq7
        refine ⟨_, rfl, sl_linesTo hq8 fun H9' u1 s9' hu1 => ?_⟩
        refine ⟨by show 1 ≤ sizeLine; decide, fun u2 hu2 => ?_⟩
        have sq := same_new (o := .tup [.str "q\n"]) hu2
        refine cat_linesB (ys := ["q\n"]) (sq.seqT hu1) (.inl (.inl upd_same)) (by rw [List.length_take]; show min n1 ls.length + 1 ≤ _; omega) fun H10' u3 s10' hu3 => ?_
        refine hn _ _ ⟨u3, ls.take n1 ++ [("q\n" : Str)], rfl, ((L8'.same s9').same sq).same s10', hu3, Lns.app (fun y hy => hls y (List.mem_of_mem_take hy)) (.one ⟨113, by decide, by decide, by decide +kernel⟩), ?_⟩
        rw [List.length_append, List.length_take]
        show min n1 ls.length + 1 ≤ _
        omega
      · exact hn _ _ ⟨q, ls, rfl, L7, hq7, hls, by omega⟩
    rintro σ22 H22 ⟨qL, ls, rfl, L22, hqL, hls, lls⟩
    have okls : OkL ls := lns_ok hls
    have pl4 : ∀ p ∈ ps, plP p ≤ 40000 := fun p hp => Nat.le_trans (pk.pl p hp) (by decide)
    obtain ⟨bw, ebw⟩ : ∃ bw, bw = betweenB ls ps := ⟨_, rfl⟩
    -- rows
    refine cut (fun σ' H' => ∃ vR : V, σ' = [some (.ref a), some (.ref st), some (.ref t0), some (.ref t1), some (.ref t2), some (.ref pp), some (.ref pc), some (.ref am), some (.ref kd), x9, some (.ref qt), some (.ref pl), some (.ref nm), some (.ref du), some (.ref qL), x15, some (vR), none, none, none] ∧ Same H22 H' ∧ ((bw = none ∧ vR = .non) ∨ ∃ rs p ws', bw = some rs ∧ vR = .ref p ∧ H' p = some (.lst ws') ∧ DpAll K H' ws' (rs.map prD))) (fun nx hn => ?_) ?_
    · refine ⟨_, rfl, _, rfl, pp, qL, ps, ls, rfl, L22.p, hqL, okls, pk.ok, by omega, by omega, pl4, fun hb G1 g1 => ?_, fun rs hb G1 p1 w1 g1 hp1 hd1 => ?_⟩
      · exact hn _ _ ⟨_, rfl, g1, .inl ⟨ebw.trans hb, rfl⟩⟩
      · exact hn _ _ ⟨_, rfl, g1, .inr ⟨rs, p1, w1, ebw.trans hb, rfl, hp1, hd1⟩⟩
    rintro σ23 H23 ⟨vR, rfl, s23, hR⟩
    have L23 := L22.same s23
    have hqL23 := s23.seqT hqL
    -- told
    obtain ⟨m1, em1⟩ : ∃ m1, m1 = (match bw with | none => m | some rs => learnAll m rs) := ⟨_, rfl⟩
    try dsimp only [gName]
    refine cut (fun σ' H' => ∃ vT : V, σ' = [some (.ref a), some (.ref st), some (.ref t0), some (.ref t1), some (.ref t2), some (.ref pp), some (.ref pc), some (.ref am), some (.ref kd), x9, some (.ref qt), some (.ref pl), some (.ref nm), some (.ref du), some (.ref qL), x15, some (vR), some (vT), none, none] ∧ LH K CM Pn st sc ns t0 t1 t2 bs one two pp pc ps cs ws am ad kd m1 m H' ∧ ((bw = none ∧ vR = .non ∧ vT = .non) ∨ ∃ rs p ws', bw = some rs ∧ vR = .ref p ∧ vT = .int ((rs.length : Nat) : Int) ∧ H' p = some (.lst ws') ∧ DpAll K H' ws' (rs.map prD))) (fun nx hn => ?_) ?_
    · obtain ⟨dx0, hi0⟩ := L23.mem.ins
      refine ⟨_, rfl, am, dx0, _, rfl, hi0, rfl, _, rfl, ⟨_, rfl⟩, _, rfl, "", qL, ls, rfl, rfl, .inr hqL23, jb hls (by omega), ?_⟩
      refine ⟨am, ad, pp, Txt.join "" ls, m, ps, ls, rfl, L23.mem, by omega, L23.p, jl hls (by omega), lns_lines hls, okls, pk.ok, pk.sm (by decide), by omega, by omega, pl4, fun hb G1 g1 => ?_, fun rs hb G1 sv1 tk1 mm1 => ?_⟩
      · rw [← ebw] at hb
        rcases hR with ⟨e1, e2⟩ | ⟨rs, p, w1, e1, _⟩
        · refine hn _ _ ⟨_, rfl, ?_, .inl ⟨e1, e2, rfl⟩⟩
          rw [em1, e1]
          exact L23.same g1
        · rw [hb] at e1; cases e1
      · rw [← ebw] at hb
        rcases hR with ⟨e1, e2⟩ | ⟨rs', p, w1, e1, e2, hp, hd⟩
        · rw [hb] at e1; cases e1
        · rw [hb] at e1
          obtain rfl : rs = rs' := Option.some.inj e1
          obtain ⟨kvm, hkm, _⟩ := L23.mem.kd
          refine hn _ _ ⟨_, rfl, ?_, .inr ⟨rs, p, w1, hb, e2, rfl, kl_svd hkm sv1 _ _ hp, prs_keep tk1 hd⟩⟩
          rw [em1, hb]
          exact L23.learn sv1 tk1 mm1
    rintro σ24 H24 ⟨vT, rfl, L24, hT⟩
    try dsimp only [gName]
    refine cut (fun σ' H' => σ' = [some (.ref a), some (.ref st), some (.ref t0), some (.ref t1), some (.ref t2), some (.ref pp), some (.ref pc), some (.ref am), some (.ref kd), x9, some (.ref qt), some (.ref pl), some (.ref nm), some (.ref du), some (.ref qL), x15, some (vR), some (vT), none, none] ∧ Same H24 H') (fun nx hn => ?_) ?_
    · rcases hT with ⟨eb, rfl, rfl⟩ | ⟨rs, p, w1, eb, rfl, rfl, hp, hd⟩
      · refine ⟨_, rfl, _, rfl, rfl, _, rfl, ?_⟩
        refine ite2 (fun _ => ?_) (fun e => absurd (decide_eq_true rfl) e)
        refine ⟨rfl, _, rfl, ?_⟩
        refine ite2 (fun e => by simp at e) (fun _ => ?_)
        exact hn _ _ ⟨rfl, fun _ _ e => e⟩
      · refine ⟨_, rfl, _, rfl, rfl, _, rfl, ?_⟩
        refine ite2 (fun e => nomatch (of_decide_eq_true e)) (fun _ => ?_)
        refine ⟨_, rfl, p, w1, rfl, .inl (SqL.of hp), ?_⟩
        have lw1 : w1.length = rs.length := by rw [dpAll_len hd, List.length_map]
        rw [lw1]
        refine ⟨rfl, _, rfl, ?_⟩
        refine ite2 (fun e => by simp at e) (fun _ => ?_)
        exact hn _ _ ⟨rfl, fun _ _ e => e⟩
    rintro σ25 H25 ⟨rfl, s25⟩
    have L25 := L24.same s25
    have lm0 : m.length ≤ 18 := by omega
    have lm1 : m1.length ≤ 56 := by
      rw [em1]
      cases e : bw with
      | none => show m.length ≤ 56; omega
      | some rs =>
        show (learnAll m rs).length ≤ 56
        have q1 := learn_len rs m
        have q2 := (between_in (ebw.symm.trans e)).2
        omega
    have mo1 : MemOk m1 := by
      rw [em1]
      cases e : bw with
      | none => exact mo
      | some rs => exact mo.learn fun x hx y hy => hls y (between_sub (ebw.symm.trans e) x hx y hy)
    -- the law learns
    refine cut (fun σ' H' => ∃ x9' x18, σ' = [some (.ref a), some (.ref st), some (.ref t0), some (.ref t1), some (.ref t2), some (.ref pp), some (.ref pc), some (.ref am), some (.ref kd), x9', some (.ref qt), some (.ref pl), some (.ref nm), some (.ref du), some (.ref qL), x15, some (vR), some (vT), x18, none] ∧ LH K CM Pn st sc ns t0 t1 t2 bs one two pp pc ps cs ws am ad kd m1 m1 H') (fun nx hn => ?_) ?_
    · rcases hT with ⟨eb, rfl, rfl⟩ | ⟨rs, p, w1, eb, rfl, rfl, hp, hd⟩
      · have em : m1 = m := by rw [em1, eb]
        refine ⟨_, rfl, rfl, _, rfl, ?_⟩
        refine ite2 (fun e => by simp at e) (fun _ => ?_)
        refine ⟨by show 0 ≤ sizeLine; decide, fun l hl => ?_⟩
        have sl := same_new (o := .lst []) hl
        refine ⟨l, rfl, ⟨[], SqL.of upd_same⟩, ?_⟩
        refine for_it (walk_list (xs := [])) (fun c σ H' => σ = [some (.ref a), some (.ref st), some (.ref t0), some (.ref t1), some (.ref t2), some (.ref pp), some (.ref pc), some (.ref am), some (.ref kd), x9, some (.ref qt), some (.ref pl), some (.ref nm), some (.ref du), some (.ref qL), x15, some (.non), some (.non), none, none] ∧ H' = upd H25 l (.lst [])) ?_ (fun c σ H' _ h => ?_) ?_ ?_
        · exact ⟨rfl, rfl⟩
        · obtain ⟨_, rfl⟩ := h
          exact SqL.of upd_same
        · rintro c x σ H5o H5 hc
          cases hc
        · rintro σ H5 ⟨rfl, rfl⟩
          exact hn _ _ ⟨_, _, rfl, by have q := L25.same sl; rw [em] at q ⊢; exact q⟩
      · have em : m1 = learnAll m rs := by rw [em1, eb]
        obtain ⟨hin, hrl⟩ := between_in (ebw.symm.trans eb)
        have hp25 := s25 _ _ hp
        have hd25 := prs_keep (TK.same s25) hd
        have lw1 : w1.length = rs.length := by rw [dpAll_len hd, List.length_map]
        refine ⟨_, rfl, rfl, _, rfl, ?_⟩
        refine ite2 (fun _ => ?_) (fun e => absurd (by simp) e)
        refine ⟨_, rfl, p, rfl, ⟨_, SqL.of hp25⟩, ?_⟩
        refine for_it (walk_list (xs := w1)) (fun c σ H' => ∃ x9' x18, σ = [some (.ref a), some (.ref st), some (.ref t0), some (.ref t1), some (.ref t2), some (.ref pp), some (.ref pc), some (.ref am), some (.ref kd), x9', some (.ref qt), some (.ref pl), some (.ref nm), some (.ref du), some (.ref qL), x15, some (.ref p), some (.int ((rs.length : Nat) : Int)), x18, none] ∧ LH K CM Pn st sc ns t0 t1 t2 bs one two pp pc ps cs ws am ad kd m1 (learnAll m (rs.take c)) H' ∧ TK K H25 H' ∧ H' p = some (.lst w1)) ?_ (fun c σ H' _ h => ?_) ?_ ?_
        · exact ⟨_, _, rfl, L25, TK.refl _ _, hp25⟩
        · obtain ⟨_, _, _, _, _, h⟩ := h
          exact SqL.of h
        · rintro c x σ H5o H5 hc ⟨x9', x18, rfl, Lc, tkc, hpc'⟩ ⟨rfl, hx⟩
          have hcf : c < rs.length := by rw [← lw1]; exact hc
          obtain ⟨r, hr'⟩ : ∃ r, r = rs[c] := ⟨_, rfl⟩
          have hf : rs[c]? = some r := by rw [List.getElem?_eq_getElem hcf, hr']
          obtain ⟨hrm, hrc⟩ := hin r (List.mem_of_getElem? hf)
          obtain ⟨v, hv1, hv2⟩ := dpAll_at (prs_keep tkc hd25) (k := c) (d := prD r) (by rw [List.getElem?_map, hf]; rfl)
          obtain rfl : v = x := Option.some.inj (hv1.symm.trans hx)
          obtain ⟨pr, lsr⟩ := r
          cases pr with
          | same _ => cases hrc
          | clash b o t =>
            obtain ⟨T', us, rfl, hT', hds⟩ := of_tupD hv2
            cases hds with
            | cons d1 hds =>
              cases hds with
              | cons d2 hds =>
                cases hds
                obtain ⟨y, rfl, hy⟩ := of_lines d2
                obtain ⟨zc, x1, x2, x3, rfl, _⟩ := of_clash d1
                obtain ⟨l1, l2, l3⟩ := pk.sm (by decide) _ hrm
                have elr : learnAll m (rs.take (c + 1)) = putM (learnAll m (rs.take c)) (keyF b o t) lsr := by
                  have etk : rs.take (c + 1) = rs.take c ++ [(.clash b o t, lsr)] := by rw [List.take_succ, hf]; rfl
                  rw [etk, learnAll_snoc]
                  rfl
                have lml : (learnAll m (rs.take c)).length ≤ 1000 := by
                  have q := learn_len (rs.take c) m
                  rw [List.length_take] at q
                  omega
                refine ⟨T', _, rfl, hT', rfl, _, _, rfl, _, _, rfl, rfl, ?_⟩
                refine ⟨_, rfl, _, rfl, _, rfl, zc, b, o, t, rfl, d1, l1, l2, l3, fun H6 s6 => ?_⟩
                have L6 := Lc.same s6
                obtain ⟨kvs, hk, hkl⟩ := L6.kn
                have lk : kvs.length ≤ 1000 := by rw [hkl.len]; exact lml
                obtain ⟨svk, kdk⟩ := kd_put (s := keyF b o t) hk hkl (s6.seqT hy)
                have tk6 : TK K H6 _ := tk_svd hk svk
                refine ⟨kd, _, rfl, .inl ⟨kvs, Sum.inr (keyF b o t), hk, rfl, Nat.lt_of_le_of_lt lk (by decide), rfl⟩, ?_⟩
                refine ⟨_, _, rfl, ?_, tkc.trans ((TK.same s6).trans tk6), kl_svd hk svk _ _ (s6 _ _ hpc')⟩
                rw [elr]
                exact L6.put svk kdk
        · rintro σ H5 ⟨x9', x18, rfl, Lc, _, _⟩
          rw [lw1, List.take_length, ← em] at Lc
          exact hn _ _ ⟨_, _, rfl, Lc⟩
    rintro σ26 H26 ⟨x9', x18, rfl, L26⟩
    -- keys, what is told
    refine cut (fun σ' H' => σ' = [some (.ref a), some (.ref st), some (.ref t0), some (.ref t1), some (.ref t2), some (.ref pp), some (.ref pc), some (.ref am), some (.ref kd), x9', some (.ref qt), some (.ref pl), some (.ref nm), some (.ref du), some (.ref qL), x15, some (vR), some (vT), x18, none] ∧ Same H26 H') (fun nx hn => ?_) ?_
    · obtain ⟨dx0, hi0⟩ := L26.mem.ins
      refine ⟨_, rfl, am, dx0, _, rfl, hi0, rfl, am, ad, m1, rfl, L26.mem, by omega, fun G1 q1 ys1 g1 pm1 so1 hq1 => ?_⟩
      have LG1 := L26.same g1
      obtain ⟨kvs, hk, hkl⟩ := LG1.kn
      refine ⟨_, rfl, kd, kvs, m1.map (·.1), rfl, .inl hk, hkl.keys, by rw [List.length_map]; omega, fun ys2 q2 pm2 so2 hq2 => ?_⟩
      obtain ⟨ey, oky⟩ := keys_same mo1 pm1 so1 pm2 so2
      have g2 := same_new (o := .lst (ys2.map V.str)) hq2
      refine ne_same (keysD_list (g2 _ _ hq1)) (by rw [ey]; exact keysD_list upd_same) (okD_listS oky) (by decide) ⟨_, rfl, ?_⟩
      refine ite2 (fun e => absurd e Bool.false_ne_true) (fun _ => ?_)
      have LG2 := LG1.same g2
      obtain ⟨G2, eG2⟩ : ∃ G2, G2 = upd G1 q2 (.lst (ys2.map V.str)) := ⟨_, rfl⟩
      rw [← eG2] at LG2 g2 ⊢
      refine ⟨_, rfl, pc, rfl, ⟨_, SqL.of LG2.c⟩, fun D hD => ?_⟩
      refine lc_list (xs := ws) (fun t H' => H' D = some (.lst ((List.replicate t false).map V.bl)) ∧ Same G2 H') ⟨upd_same, same_new hD⟩ (fun t H' _ h => SqL.of (h.2 _ _ LG2.c)) ?_ ?_
      · rintro c x H8 hx ⟨hys, s8⟩
        have L8 := LG2.same s8
        have hcf : c < cs.length := by rw [← lws]; exact (List.getElem?_eq_some_iff.mp hx).1
        obtain ⟨p, hp⟩ : ∃ p, p = cs[c] := ⟨_, rfl⟩
        have hf : cs[c]? = some p := by rw [List.getElem?_eq_getElem hcf, hp]
        obtain ⟨hpm, b, o, t, rfl⟩ := hcs p (List.mem_of_getElem? hf)
        obtain ⟨l1, l2, l3⟩ := pk.sm (by decide) _ hpm
        obtain ⟨v, hv1, dz⟩ := dpAll_at L8.cd (k := c) (d := partD (.clash b o t)) (by rw [List.getElem?_map, hf]; rfl)
        obtain rfl : v = x := Option.some.inj (hv1.symm.trans hx)
        obtain ⟨z, x1, x2, x3, rfl, hz, h1, h2, h3⟩ := of_clash dz
        have iz := imm_part (.clash b o t)
        obtain ⟨dx8, hi8⟩ := L8.mem.ins
        refine ⟨rfl, _, rfl, am, dx8, _, rfl, hi8, rfl, _, rfl, am, ad, z, m1, b, o, t, rfl, L8.mem, dz, l1, l2, l3, fun G6 v6 g6 hv6 => ?_⟩
        have d6 := told_dp hv6
        obtain ⟨kvs, hk, hkl⟩ := (L8.same g6).kn
        refine ⟨_, rfl, kd, rfl, .inl ⟨kvs, .inl hk⟩, _, rfl, z, b, o, t, rfl, dp_keep (TK.same g6) _ _ iz dz, l1, l2, l3, fun G7 g7 => ?_⟩
        refine ⟨_, .inl ⟨kvs, Sum.inr (keyF b o t), .inl (g7 _ _ hk), rfl, rfl⟩, ?_⟩
        refine ne_same (dp_keep (TK.same g7) _ _ (imm_opt _) d6) (val_dp (hkl.tk (TK.same g7)) _) (okD_opt mo1 _) (by decide) ?_
        have g67 := g6.trans g7
        refine ⟨_, g67 _ _ hys, ?_, ?_, same_mut (s8.trans g67) hD⟩
        · rw [List.length_map, List.length_replicate]
          exact Nat.lt_of_le_of_lt (show c ≤ 1000 by omega) (by decide)
        · rw [upd_same, List.replicate_succ', List.map_append]
          rfl
      · rintro H8 ⟨hys, s8⟩
        refine ⟨D, List.replicate ws.length false, rfl, SqL.of hys, _, rfl, ?_⟩
        refine ite2 (fun e => ?_) (fun _ => ?_)
        · obtain ⟨x, hx, hx2⟩ := List.any_eq_true.mp e
          rw [List.eq_of_mem_replicate hx] at hx2
          cases hx2
        · exact hn _ _ ⟨rfl, g1.trans (g2.trans s8)⟩
    rintro σ27 H27 ⟨rfl, s27⟩
    have L27 := L26.same s27
    -- forget
    refine cut (fun σ' H' => ∃ (x9'' : Option V) (m2 : Mem), σ' = [some (.ref a), some (.ref st), some (.ref t0), some (.ref t1), some (.ref t2), some (.ref pp), some (.ref pc), some (.ref am), some (.ref kd), x9'', some (.ref qt), some (.ref pl), some (.ref nm), some (.ref du), some (.ref qL), x15, some (vR), some (vT), x18, none] ∧ LH K CM Pn st sc ns t0 t1 t2 bs one two pp pc ps cs ws am ad kd m2 m1 H') (fun nx hn => ?_) ?_
    · refine ⟨_, rfl, ?_⟩
      dsimp only [tNoPart]
      refine ⟨1, rfl, pc, ws, rfl, SqL.of L27.c, fun sl hsl => ?_⟩
      rw [show cutV ws none (some 1) = ws.take 1 from cutV_to ws 1]
      have g1 := same_new (o := .lst (ws.take 1)) hsl
      obtain ⟨G1, eG1⟩ : ∃ G1, G1 = upd H27 sl (.lst (ws.take 1)) := ⟨_, rfl⟩
      rw [← eG1] at g1 ⊢
      have L28 := L27.same g1
      have hsl1 : G1 sl = some (.lst (ws.take 1)) := by rw [eG1, upd_same]
      refine ⟨sl, rfl, ⟨_, SqL.of hsl1⟩, ?_⟩
      refine for_it (D := { nx := nx, rt := Q }) (walk_list (xs := ws.take 1)) (fun c σ H' => ∃ (x9'' : Option V) (m2 : Mem), σ = [some (.ref a), some (.ref st), some (.ref t0), some (.ref t1), some (.ref t2), some (.ref pp), some (.ref pc), some (.ref am), some (.ref kd), x9'', some (.ref qt), some (.ref pl), some (.ref nm), some (.ref du), some (.ref qL), x15, some (vR), some (vT), x18, none] ∧ LH K CM Pn st sc ns t0 t1 t2 bs one two pp pc ps cs ws am ad kd m2 m1 H' ∧ H' sl = some (.lst (ws.take 1)) ∧ (c = 0 → m2 = m1)) ?_ (fun c σ H' _ h => ?_) ?_ ?_
      · exact ⟨_, _, rfl, L28, hsl1, fun _ => rfl⟩
      · obtain ⟨_, _, _, _, h, _⟩ := h
        exact SqL.of h
      · rintro c x σ H5o H5 hc ⟨x9'', m2, rfl, Lc, hsc, hm2⟩ ⟨rfl, hx⟩
        have hc1 : c = 0 := by
          have := List.length_take_le 1 ws
          omega
        obtain rfl := hm2 hc1
        have hxw : ws[c]? = some x := by rw [List.getElem?_take] at hx; split at hx <;> first | exact hx | cases hx
        have hcf : c < cs.length := by rw [← lws]; exact (List.getElem?_eq_some_iff.mp hxw).1
        obtain ⟨p, hp⟩ : ∃ p, p = cs[c] := ⟨_, rfl⟩
        have hf : cs[c]? = some p := by rw [List.getElem?_eq_getElem hcf, hp]
        obtain ⟨hpm, b, o, t, rfl⟩ := hcs p (List.mem_of_getElem? hf)
        obtain ⟨l1, l2, l3⟩ := pk.sm (by decide) _ hpm
        obtain ⟨v, hv1, dz⟩ := dpAll_at Lc.cd (k := c) (d := partD (.clash b o t)) (by rw [List.getElem?_map, hf]; rfl)
        obtain rfl : v = x := Option.some.inj (hv1.symm.trans hxw)
        obtain ⟨z, x1, x2, x3, rfl, hz, h1, h2, h3⟩ := of_clash dz
        have iz := imm_part (.clash b o t)
        have lkey : (keyF b o t).length ≤ 10000000 := by
          have q : (keyF b o t).length = 16 := name_len _
          omega
        obtain ⟨dx8, hi8⟩ := Lc.mem.ins
        refine ⟨_, rfl, am, dx8, _, rfl, hi8, rfl, _, rfl, z, b, o, t, rfl, dz, l1, l2, l3, fun G2 g2 => ?_⟩
        have L2' := Lc.same g2
        refine ⟨am, ad, keyF b o t, m2, rfl, lkey, L2'.mem, L2'.tab, fun e => absurd ((name_true _).symm.trans e) (by decide), fun _ G3 s3 t3 tb3 mm3 => ?_⟩
        have L3 := L2'.forget s3 t3 tb3 mm3
        have dz3 := dp_keep t3 _ _ iz (dp_keep (TK.same g2) _ _ iz dz)
        refine ⟨_, rfl, z, b, o, t, rfl, dz3, l1, l2, l3, fun G4 g4 => ?_⟩
        have L4 := L3.same g4
        have dz4 := dp_keep (TK.same g4) _ _ iz dz3
        obtain ⟨kvs, hk, hkl⟩ := L4.kn
        refine ⟨_, rfl, kd, _, rfl, .inl ⟨kvs, Sum.inr (keyF b o t), .inl hk, rfl, rfl⟩, ?_⟩
        rw [has_val hkl]
        refine ⟨rfl, _, rfl, ?_⟩
        refine ite2 (fun e => by simp at e) (fun _ => ?_)
        obtain ⟨dx4, hi4⟩ := L4.mem.ins
        refine ⟨_, rfl, am, dx4, _, rfl, hi4, rfl, _, rfl, am, ad, z, dropM m2 (keyF b o t), b, o, t, rfl, L4.mem, dz4, l1, l2, l3, fun G5 v5 g5 hv5 => ?_⟩
        have L5 := L4.same g5
        have dz5 := dp_keep (TK.same g5) _ _ iz dz4
        rcases hv5 with ⟨_, rfl⟩ | ⟨_, _, e, _⟩
        rotate_left
        · rw [look_drop] at e
          cases e
        refine ⟨rfl, _, rfl, ?_⟩
        refine ite2 (fun e => by simp at e) (fun _ => ?_)
        obtain ⟨dx5, hi5⟩ := L5.mem.ins
        refine ⟨_, rfl, am, dx5, _, rfl, hi5, rfl, _, rfl, z, b, o, t, rfl, dz5, l1, l2, l3, fun G6 g6 => ?_⟩
        have L6 := L5.same g6
        refine ⟨am, ad, keyF b o t, _, rfl, lkey, L6.mem, L6.tab, fun e => absurd ((name_true _).symm.trans e) (by decide), fun _ G7 s7 t7 tb7 mm7 => ?_⟩
        have L7 := L6.forget s7 t7 tb7 mm7
        rw [has_drop]
        refine ⟨_, _, rfl, rfl, _, rfl, ?_⟩
        refine ite2 (fun e => by simp at e) (fun _ => ?_)
        refine ⟨_, _, rfl, L7, L6.kl s7 _ _ (g6 _ _ (g5 _ _ (g4 _ _ (L2'.kl s3 _ _ (g2 _ _ hsc))))), fun h => by cases h⟩
      · rintro σ H5 ⟨x9'', m2, rfl, Lc, _, _⟩
        exact hn _ _ ⟨_, _, rfl, Lc⟩
    rintro σ28 H28 ⟨x9'', m2, rfl, L28⟩
    -- try
    obtain ⟨dx0, hi0⟩ := L28.mem.ins
    refine ⟨_, rfl, am, dx0, _, rfl, hi0, rfl, am, ad, ("x" : Str), m2, rfl, by decide +kernel, L28.mem, L28.tab, fun _ G1 d hd => ?_, fun e => absurd e (by decide +kernel)⟩
    refine ⟨true, T.te, fun _ x hx => ?_, fun q => Bool.noConfusion q⟩
    refine ⟨_, rfl, rfl, rfl, d, _, .str "x", rfl, hd, rfl, rfl, ?_⟩
    exact k _
end
end VK
end

section
set_option Elab.async false
set_option linter.all false
set_option maxRecDepth 100000
set_option maxHeartbeats 8000000
namespace LamX
open PySem PySem.Spec PyProof.Rows L2
/-- as walk_ofTs; the head's facts of the table of the def nmI are given to F -/
theorem walk_ofTsP {l : PySem.W.OpenLaw} {n k : Nat} {q : Program} {loose : List Str} {XP : (Str → Option Value) → Heap → Prop} {YP : World → Heap → Prop} {d : DefRec} {K : Params → PySem.W.Frag} {CX : World → CXT} {x nmI : Str}
    (hn : l.most = some n) (hn2 : n ≤ sizeLine) (hdf : d.params.defaults = []) (hr : Room k callerA) (hrec : ((recsOf q).find? fun e => e.name == nmI).isSome = true) (hY : ∀ (w : World) (h : Heap), YP w h → (K w.params).In h)
    (F : ∀ (w : World) (mg : Str → Option Value) (fa : Addr) (h : Heap), YP w h → (K w.params).In h → h.Ns mainGlobals mg → mg d.name = some (.ref fa) →
      (∀ c P : Addr, PySem.W.tabIn (K w.params) nmI = some (c, P) → PySem.W.CodeHd h c P ∧ h.get? P = some { cls := .none, data := .fields #[] }) → LawAtS l w (K w.params) (CX w) k n x mg fa h)
    (hCX : ∀ (w : World) (H : Hp) (s : Shared) (e : Value) (s' : Shared), CX w [] H s (fun _ _ _ => False) e s' → False) :
    PySem.W.WalkO q loose XP YP l.row.toRowW d [] (fun f vs => PySem.call f vs) := by
  refine Att.attach_callB hn hdf fun w s₀ s₁ mg mb fa o pm cd doc a vs ns G Y ho hd hcd hmg hobj hints hlen hbits hg => ?_
  have KX := hY w _ Y
  obtain ⟨dI, hdI⟩ := Option.isSome_iff_exists.mp hrec
  obtain ⟨fd, cs, sp, hT, nT, C, hb, hsp, hF⟩ := F w mg fa _ Y KX G.T.g hmg fun c P e => PySem.W.tab_of G.T KX hdI e
  exact law_callTs KX G.T.g G.T.b G.T.builtins G.T.nolimit hg hT nT C G.T.bmain hobj hints (Nat.le_trans hlen hn2) hr hF hb (fun H hH hS => hsp H a ns hlen hbits hH hS) fun H e s' => hCX w H s₁ e s'
end LamX
namespace VK
open PySem L2
/-- an error of the class at S is what «except S» names -/
theorem exm_selfK {K : PySem.W.Frag} {S : Addr} (h1 : PySem.W.subIn K (.ref S) (.type "BaseException") = some true) (h2 : PySem.W.isClsIn K S = true) (h3 : PySem.W.typeIn K (.ref S) = some (.type "type")) (h4 : PySem.W.subIn K (.ref S) (.ref S) = some true) :
    PySem.W.exmOne K (.ref S) (.ref S) = some true := by
  have e1 : (PySem.W.subIn K (.ref S) (.type "BaseException") == some true) = true := by rw [h1] <;> rfl
  have e2 : ((PySem.W.clsIn K S).isSome && PySem.W.typeIn K (.ref S) == some (.type "type")) = true := by
    have h2' : (PySem.W.clsIn K S).isSome = true := h2
    rw [h2', h3] <;> rfl
  show (if (PySem.W.subIn K (.ref S) (.type "BaseException") == some true) = true then (if ((PySem.W.clsIn K S).isSome && PySem.W.typeIn K (.ref S) == some (.type "type")) = true then PySem.W.subIn K (.ref S) (.ref S) else none) else none) = some true
  rw [if_pos e1, if_pos e2]
  exact h4
theorem tabB_of {base : Heap} {mg : Str → Option Value} {c P : Addr} (h : LamX.TabB base mg c P) : GxR.TabB base mg c P := ⟨h.code, h.bm, h.gP⟩
theorem funC_mk {K : PySem.W.Frag} {x qual : Str} {st : Stmt} {f c : Addr} {oc : Value} {od an : Option Addr} {osl : Array (Option Value)} {kV doc pm ct : Value} (l : K.lookup f = some ⟨oc, od, .func (PySem.W.fnOf x qual (defArgs st) (defBody st) (defScope st) .none kV doc pm an (.ref c) ct), osl⟩)
    (h : PySem.W.codeIn K (.ref c) qual = true) (k : PySem.W.keepIn K (.ref f) = true) : FunC K x qual st f c (PySem.W.fnOf x qual (defArgs st) (defBody st) (defScope st) .none kV doc pm an (.ref c) ct) := ⟨⟨oc, od, kV, doc, pm, an, ct, osl, rfl, l, h⟩, k⟩
theorem tabIn_mk {K : PySem.W.Frag} {x qual : Str} {st : Stmt} {f c Pt : Addr} {oc oc2 : Value} {od an od2 : Option Addr} {osl osl2 : Array (Option Value)} {kV doc pm ct : Value} {vs : Array Value} (a : PySem.W.nsIn K mainGlobals x = some (some (.ref f)))
    (l : K.lookup f = some ⟨oc, od, .func (PySem.W.fnOf x qual (defArgs st) (defBody st) (defScope st) .none kV doc pm an (.ref c) ct), osl⟩) (l2 : K.lookup c = some ⟨oc2, od2, .fields vs, osl2⟩) (e : vs[11]? = some (.ref Pt)) : PySem.W.tabIn K x = some (c, Pt) := by
  unfold PySem.W.tabIn
  rw [a]
  dsimp only
  rw [l]
  dsimp only [PySem.W.fnOf]
  rw [l2]
  dsimp only
  rw [e]
theorem all_mk {l : PySem.W.OpenLaw} {w : World} {K : PySem.W.Frag} {h : Heap} {mg : Str → Option Value} {fa C CM cI Pt CC fI f_0 f_1 f_2 f_3 f_4 f_5 f_6 f_7 f_8 f_9 f_10 f_11 f_12 f_13 f_14 f_15 f_16 f_17 f_18 f_19 f_20 f_21 f_22 f_23 f_24 f_25 f_26 f_27 f_28 f_29 f_30 f_31 f_32 f_33 f_34 f_35 f_m0 f_m1 f_m2 f_m3 f_m4 f_m5 f_m6 f_m7 : Addr} (X : K.In h) (G : h.Ns mainGlobals mg) (hfa : mg "law" = some (.ref fa))
    {od_0 an_0 od_1 an_1 od_2 an_2 od_3 an_3 od_4 an_4 od_5 an_5 od_6 an_6 od_7 an_7 od_8 an_8 od_9 an_9 od_10 an_10 od_11 an_11 od_12 an_12 od_13 an_13 od_14 an_14 od_15 an_15 od_16 an_16 od_17 an_17 od_18 an_18 od_19 an_19 od_20 an_20 od_21 an_21 od_22 an_22 od_23 an_23 od_24 an_24 od_25 an_25 od_26 an_26 od_27 an_27 od_28 an_28 od_29 an_29 od_30 an_30 od_31 an_31 od_32 an_32 od_33 an_33 od_34 an_34 od_35 an_35 od_m0 an_m0 od_m1 an_m1 od_m2 an_m2 od_m3 an_m3 od_m4 an_m4 od_m5 an_m5 od_m6 an_m6 od_m7 an_m7 odI : Option Addr} {sl_0 sl_1 sl_2 sl_3 sl_4 sl_5 sl_6 sl_7 sl_8 sl_9 sl_10 sl_11 sl_12 sl_13 sl_14 sl_15 sl_16 sl_17 sl_18 sl_19 sl_20 sl_21 sl_22 sl_23 sl_24 sl_25 sl_26 sl_27 sl_28 sl_29 sl_30 sl_31 sl_32 sl_33 sl_34 sl_35 sl_m0 sl_m1 sl_m2 sl_m3 sl_m4 sl_m5 sl_m6 sl_m7 slI : Array (Option Value)} {oc_0 kV_0 dc_0 pm_0 ct_0 cd_0 oc_1 kV_1 dc_1 pm_1 ct_1 cd_1 oc_2 kV_2 dc_2 pm_2 ct_2 cd_2 oc_3 kV_3 dc_3 pm_3 ct_3 cd_3 oc_4 kV_4 dc_4 pm_4 ct_4 cd_4 oc_5 kV_5 dc_5 pm_5 ct_5 cd_5 oc_6 kV_6 dc_6 pm_6 ct_6 cd_6 oc_7 kV_7 dc_7 pm_7 ct_7 cd_7 oc_8 kV_8 dc_8 pm_8 ct_8 cd_8 oc_9 kV_9 dc_9 pm_9 ct_9 cd_9 oc_10 kV_10 dc_10 pm_10 ct_10 cd_10 oc_11 kV_11 dc_11 pm_11 ct_11 cd_11 oc_12 kV_12 dc_12 pm_12 ct_12 cd_12 oc_13 kV_13 dc_13 pm_13 ct_13 oc_14 kV_14 dc_14 pm_14 ct_14 cd_14 oc_15 kV_15 dc_15 pm_15 ct_15 cd_15 oc_16 kV_16 dc_16 pm_16 ct_16 cd_16 oc_17 kV_17 dc_17 pm_17 ct_17 cd_17 oc_18 kV_18 dc_18 pm_18 ct_18 cd_18 oc_19 kV_19 dc_19 pm_19 ct_19 cd_19 oc_20 kV_20 dc_20 pm_20 ct_20 cd_20 oc_21 kV_21 dc_21 pm_21 ct_21 cd_21 oc_22 kV_22 dc_22 pm_22 ct_22 cd_22 oc_23 kV_23 dc_23 pm_23 ct_23 cd_23 oc_24 kV_24 dc_24 pm_24 ct_24 cd_24 oc_25 kV_25 dc_25 pm_25 ct_25 cd_25 oc_26 kV_26 dc_26 pm_26 ct_26 cd_26 oc_27 kV_27 dc_27 pm_27 ct_27 cd_27 oc_28 kV_28 dc_28 pm_28 ct_28 cd_28 oc_29 kV_29 dc_29 pm_29 ct_29 cd_29 oc_30 kV_30 dc_30 pm_30 ct_30 cd_30 oc_31 kV_31 dc_31 pm_31 ct_31 cd_31 oc_32 kV_32 dc_32 pm_32 ct_32 cd_32 oc_33 kV_33 dc_33 pm_33 ct_33 cd_33 oc_34 kV_34 dc_34 pm_34 ct_34 cd_34 oc_35 kV_35 dc_35 pm_35 ct_35 cd_35 oc_m0 kV_m0 dc_m0 pm_m0 ct_m0 cd_m0 oc_m1 kV_m1 dc_m1 pm_m1 ct_m1 cd_m1 oc_m2 kV_m2 dc_m2 pm_m2 ct_m2 cd_m2 oc_m3 kV_m3 dc_m3 pm_m3 ct_m3 cd_m3 oc_m4 kV_m4 dc_m4 pm_m4 ct_m4 cd_m4 oc_m5 kV_m5 dc_m5 pm_m5 ct_m5 cd_m5 oc_m6 kV_m6 dc_m6 pm_m6 ct_m6 cd_m6 oc_m7 kV_m7 dc_m7 pm_m7 ct_m7 cd_m7 ocI : Value}
    {vsI : Array Value}
    (a_0 : PySem.W.nsIn K mainGlobals "lines_of" = some (some (.ref f_0))) (l_0 : K.lookup f_0 = some ⟨oc_0, od_0, .func (PySem.W.fnOf "lines_of" "lines_of" (defArgs s_lines_of) (defBody s_lines_of) (defScope s_lines_of) .none kV_0 dc_0 pm_0 an_0 cd_0 ct_0), sl_0⟩) (c_0 : PySem.W.codeIn K cd_0 "lines_of" = true) (k_0 : PySem.W.keepIn K (.ref f_0) = true)
    (a_1 : PySem.W.nsIn K mainGlobals "text_from" = some (some (.ref f_1))) (l_1 : K.lookup f_1 = some ⟨oc_1, od_1, .func (PySem.W.fnOf "text_from" "text_from" (defArgs s_text_from) (defBody s_text_from) (defScope s_text_from) .none kV_1 dc_1 pm_1 an_1 cd_1 ct_1), sl_1⟩) (c_1 : PySem.W.codeIn K cd_1 "text_from" = true) (k_1 : PySem.W.keepIn K (.ref f_1) = true)
    (a_2 : PySem.W.nsIn K mainGlobals "common_table" = some (some (.ref f_2))) (l_2 : K.lookup f_2 = some ⟨oc_2, od_2, .func (PySem.W.fnOf "common_table" "common_table" (defArgs s_common_table) (defBody s_common_table) (defScope s_common_table) .none kV_2 dc_2 pm_2 an_2 cd_2 ct_2), sl_2⟩) (c_2 : PySem.W.codeIn K cd_2 "common_table" = true) (k_2 : PySem.W.keepIn K (.ref f_2) = true)
    (a_3 : PySem.W.nsIn K mainGlobals "kept_pairs" = some (some (.ref f_3))) (l_3 : K.lookup f_3 = some ⟨oc_3, od_3, .func (PySem.W.fnOf "kept_pairs" "kept_pairs" (defArgs s_kept_pairs) (defBody s_kept_pairs) (defScope s_kept_pairs) .none kV_3 dc_3 pm_3 an_3 cd_3 ct_3), sl_3⟩) (c_3 : PySem.W.codeIn K cd_3 "kept_pairs" = true) (k_3 : PySem.W.keepIn K (.ref f_3) = true)
    (a_4 : PySem.W.nsIn K mainGlobals "next_pair" = some (some (.ref f_4))) (l_4 : K.lookup f_4 = some ⟨oc_4, od_4, .func (PySem.W.fnOf "next_pair" "next_pair" (defArgs s_next_pair) (defBody s_next_pair) (defScope s_next_pair) .none kV_4 dc_4 pm_4 an_4 cd_4 ct_4), sl_4⟩) (c_4 : PySem.W.codeIn K cd_4 "next_pair" = true) (k_4 : PySem.W.keepIn K (.ref f_4) = true)
    (a_5 : PySem.W.nsIn K mainGlobals "hunks_of" = some (some (.ref f_5))) (l_5 : K.lookup f_5 = some ⟨oc_5, od_5, .func (PySem.W.fnOf "hunks_of" "hunks_of" (defArgs s_hunks_of) (defBody s_hunks_of) (defScope s_hunks_of) .none kV_5 dc_5 pm_5 an_5 cd_5 ct_5), sl_5⟩) (c_5 : PySem.W.codeIn K cd_5 "hunks_of" = true) (k_5 : PySem.W.keepIn K (.ref f_5) = true)
    (a_6 : PySem.W.nsIn K mainGlobals "spans_between" = some (some (.ref f_6))) (l_6 : K.lookup f_6 = some ⟨oc_6, od_6, .func (PySem.W.fnOf "spans_between" "spans_between" (defArgs s_spans_between) (defBody s_spans_between) (defScope s_spans_between) .none kV_6 dc_6 pm_6 an_6 cd_6 ct_6), sl_6⟩) (c_6 : PySem.W.codeIn K cd_6 "spans_between" = true) (k_6 : PySem.W.keepIn K (.ref f_6) = true)
    (a_7 : PySem.W.nsIn K mainGlobals "within" = some (some (.ref f_7))) (l_7 : K.lookup f_7 = some ⟨oc_7, od_7, .func (PySem.W.fnOf "within" "within" (defArgs s_within) (defBody s_within) (defScope s_within) .none kV_7 dc_7 pm_7 an_7 cd_7 ct_7), sl_7⟩) (c_7 : PySem.W.codeIn K cd_7 "within" = true) (k_7 : PySem.W.keepIn K (.ref f_7) = true)
    (a_8 : PySem.W.nsIn K mainGlobals "rewritten" = some (some (.ref f_8))) (l_8 : K.lookup f_8 = some ⟨oc_8, od_8, .func (PySem.W.fnOf "rewritten" "rewritten" (defArgs s_rewritten) (defBody s_rewritten) (defScope s_rewritten) .none kV_8 dc_8 pm_8 an_8 cd_8 ct_8), sl_8⟩) (c_8 : PySem.W.codeIn K cd_8 "rewritten" = true) (k_8 : PySem.W.keepIn K (.ref f_8) = true)
    (a_9 : PySem.W.nsIn K mainGlobals "merged_parts" = some (some (.ref f_9))) (l_9 : K.lookup f_9 = some ⟨oc_9, od_9, .func (PySem.W.fnOf "merged_parts" "merged_parts" (defArgs s_merged_parts) (defBody s_merged_parts) (defScope s_merged_parts) .none kV_9 dc_9 pm_9 an_9 cd_9 ct_9), sl_9⟩) (c_9 : PySem.W.codeIn K cd_9 "merged_parts" = true) (k_9 : PySem.W.keepIn K (.ref f_9) = true)
    (a_10 : PySem.W.nsIn K mainGlobals "add_same" = some (some (.ref f_10))) (l_10 : K.lookup f_10 = some ⟨oc_10, od_10, .func (PySem.W.fnOf "add_same" "add_same" (defArgs s_add_same) (defBody s_add_same) (defScope s_add_same) .none kV_10 dc_10 pm_10 an_10 cd_10 ct_10), sl_10⟩) (c_10 : PySem.W.codeIn K cd_10 "add_same" = true) (k_10 : PySem.W.keepIn K (.ref f_10) = true)
    (a_11 : PySem.W.nsIn K mainGlobals "ended" = some (some (.ref f_11))) (l_11 : K.lookup f_11 = some ⟨oc_11, od_11, .func (PySem.W.fnOf "ended" "ended" (defArgs s_ended) (defBody s_ended) (defScope s_ended) .none kV_11 dc_11 pm_11 an_11 cd_11 ct_11), sl_11⟩) (c_11 : PySem.W.codeIn K cd_11 "ended" = true) (k_11 : PySem.W.keepIn K (.ref f_11) = true)
    (a_12 : PySem.W.nsIn K mainGlobals "marked_lines" = some (some (.ref f_12))) (l_12 : K.lookup f_12 = some ⟨oc_12, od_12, .func (PySem.W.fnOf "marked_lines" "marked_lines" (defArgs s_marked_lines) (defBody s_marked_lines) (defScope s_marked_lines) .none kV_12 dc_12 pm_12 an_12 cd_12 ct_12), sl_12⟩) (c_12 : PySem.W.codeIn K cd_12 "marked_lines" = true) (k_12 : PySem.W.keepIn K (.ref f_12) = true)
    (a_13 : PySem.W.nsIn K mainGlobals "is_name" = some (some (.ref f_13))) (l_13 : K.lookup f_13 = some ⟨oc_13, od_13, .func (PySem.W.fnOf "is_name" "is_name" (defArgs s_is_name) (defBody s_is_name) (defScope s_is_name) .none kV_13 dc_13 pm_13 an_13 (.ref cI) ct_13), sl_13⟩) (c_13 : PySem.W.codeIn K (.ref cI) "is_name" = true) (k_13 : PySem.W.keepIn K (.ref f_13) = true)
    (a_14 : PySem.W.nsIn K mainGlobals "sum_of" = some (some (.ref f_14))) (l_14 : K.lookup f_14 = some ⟨oc_14, od_14, .func (PySem.W.fnOf "sum_of" "sum_of" (defArgs s_sum_of) (defBody s_sum_of) (defScope s_sum_of) .none kV_14 dc_14 pm_14 an_14 cd_14 ct_14), sl_14⟩) (c_14 : PySem.W.codeIn K cd_14 "sum_of" = true) (k_14 : PySem.W.keepIn K (.ref f_14) = true)
    (a_15 : PySem.W.nsIn K mainGlobals "name_of" = some (some (.ref f_15))) (l_15 : K.lookup f_15 = some ⟨oc_15, od_15, .func (PySem.W.fnOf "name_of" "name_of" (defArgs s_name_of) (defBody s_name_of) (defScope s_name_of) .none kV_15 dc_15 pm_15 an_15 cd_15 ct_15), sl_15⟩) (c_15 : PySem.W.codeIn K cd_15 "name_of" = true) (k_15 : PySem.W.keepIn K (.ref f_15) = true)
    (a_16 : PySem.W.nsIn K mainGlobals "signs_of" = some (some (.ref f_16))) (l_16 : K.lookup f_16 = some ⟨oc_16, od_16, .func (PySem.W.fnOf "signs_of" "signs_of" (defArgs s_signs_of) (defBody s_signs_of) (defScope s_signs_of) .none kV_16 dc_16 pm_16 an_16 cd_16 ct_16), sl_16⟩) (c_16 : PySem.W.codeIn K cd_16 "signs_of" = true) (k_16 : PySem.W.keepIn K (.ref f_16) = true)
    (a_17 : PySem.W.nsIn K mainGlobals "clash_key" = some (some (.ref f_17))) (l_17 : K.lookup f_17 = some ⟨oc_17, od_17, .func (PySem.W.fnOf "clash_key" "clash_key" (defArgs s_clash_key) (defBody s_clash_key) (defScope s_clash_key) .none kV_17 dc_17 pm_17 an_17 cd_17 ct_17), sl_17⟩) (c_17 : PySem.W.codeIn K cd_17 "clash_key" = true) (k_17 : PySem.W.keepIn K (.ref f_17) = true)
    (a_18 : PySem.W.nsIn K mainGlobals "settled_between" = some (some (.ref f_18))) (l_18 : K.lookup f_18 = some ⟨oc_18, od_18, .func (PySem.W.fnOf "settled_between" "settled_between" (defArgs s_settled_between) (defBody s_settled_between) (defScope s_settled_between) .none kV_18 dc_18 pm_18 an_18 cd_18 ct_18), sl_18⟩) (c_18 : PySem.W.codeIn K cd_18 "settled_between" = true) (k_18 : PySem.W.keepIn K (.ref f_18) = true)
    (a_19 : PySem.W.nsIn K mainGlobals "place_behind" = some (some (.ref f_19))) (l_19 : K.lookup f_19 = some ⟨oc_19, od_19, .func (PySem.W.fnOf "place_behind" "place_behind" (defArgs s_place_behind) (defBody s_place_behind) (defScope s_place_behind) .none kV_19 dc_19 pm_19 an_19 cd_19 ct_19), sl_19⟩) (c_19 : PySem.W.codeIn K cd_19 "place_behind" = true) (k_19 : PySem.W.keepIn K (.ref f_19) = true)
    (a_20 : PySem.W.nsIn K mainGlobals "_law_draw" = some (some (.ref f_20))) (l_20 : K.lookup f_20 = some ⟨oc_20, od_20, .func (PySem.W.fnOf "_law_draw" "_law_draw" (defArgs s__law_draw) (defBody s__law_draw) (defScope s__law_draw) .none kV_20 dc_20 pm_20 an_20 cd_20 ct_20), sl_20⟩) (c_20 : PySem.W.codeIn K cd_20 "_law_draw" = true) (k_20 : PySem.W.keepIn K (.ref f_20) = true)
    (a_21 : PySem.W.nsIn K mainGlobals "_law_name" = some (some (.ref f_21))) (l_21 : K.lookup f_21 = some ⟨oc_21, od_21, .func (PySem.W.fnOf "_law_name" "_law_name" (defArgs s__law_name) (defBody s__law_name) (defScope s__law_name) .none kV_21 dc_21 pm_21 an_21 cd_21 ct_21), sl_21⟩) (c_21 : PySem.W.codeIn K cd_21 "_law_name" = true) (k_21 : PySem.W.keepIn K (.ref f_21) = true)
    (a_22 : PySem.W.nsIn K mainGlobals "_law_lines" = some (some (.ref f_22))) (l_22 : K.lookup f_22 = some ⟨oc_22, od_22, .func (PySem.W.fnOf "_law_lines" "_law_lines" (defArgs s__law_lines) (defBody s__law_lines) (defScope s__law_lines) .none kV_22 dc_22 pm_22 an_22 cd_22 ct_22), sl_22⟩) (c_22 : PySem.W.codeIn K cd_22 "_law_lines" = true) (k_22 : PySem.W.keepIn K (.ref f_22) = true)
    (a_23 : PySem.W.nsIn K mainGlobals "_law_table" = some (some (.ref f_23))) (l_23 : K.lookup f_23 = some ⟨oc_23, od_23, .func (PySem.W.fnOf "_law_table" "_law_table" (defArgs s__law_table) (defBody s__law_table) (defScope s__law_table) .none kV_23 dc_23 pm_23 an_23 cd_23 ct_23), sl_23⟩) (c_23 : PySem.W.codeIn K cd_23 "_law_table" = true) (k_23 : PySem.W.keepIn K (.ref f_23) = true)
    (a_24 : PySem.W.nsIn K mainGlobals "_law_pairs" = some (some (.ref f_24))) (l_24 : K.lookup f_24 = some ⟨oc_24, od_24, .func (PySem.W.fnOf "_law_pairs" "_law_pairs" (defArgs s__law_pairs) (defBody s__law_pairs) (defScope s__law_pairs) .none kV_24 dc_24 pm_24 an_24 cd_24 ct_24), sl_24⟩) (c_24 : PySem.W.codeIn K cd_24 "_law_pairs" = true) (k_24 : PySem.W.keepIn K (.ref f_24) = true)
    (a_25 : PySem.W.nsIn K mainGlobals "_law_hunks" = some (some (.ref f_25))) (l_25 : K.lookup f_25 = some ⟨oc_25, od_25, .func (PySem.W.fnOf "_law_hunks" "_law_hunks" (defArgs s__law_hunks) (defBody s__law_hunks) (defScope s__law_hunks) .none kV_25 dc_25 pm_25 an_25 cd_25 ct_25), sl_25⟩) (c_25 : PySem.W.codeIn K cd_25 "_law_hunks" = true) (k_25 : PySem.W.keepIn K (.ref f_25) = true)
    (a_26 : PySem.W.nsIn K mainGlobals "_law_apply" = some (some (.ref f_26))) (l_26 : K.lookup f_26 = some ⟨oc_26, od_26, .func (PySem.W.fnOf "_law_apply" "_law_apply" (defArgs s__law_apply) (defBody s__law_apply) (defScope s__law_apply) .none kV_26 dc_26 pm_26 an_26 cd_26 ct_26), sl_26⟩) (c_26 : PySem.W.codeIn K cd_26 "_law_apply" = true) (k_26 : PySem.W.keepIn K (.ref f_26) = true)
    (a_27 : PySem.W.nsIn K mainGlobals "_law_parts" = some (some (.ref f_27))) (l_27 : K.lookup f_27 = some ⟨oc_27, od_27, .func (PySem.W.fnOf "_law_parts" "_law_parts" (defArgs s__law_parts) (defBody s__law_parts) (defScope s__law_parts) .none kV_27 dc_27 pm_27 an_27 cd_27 ct_27), sl_27⟩) (c_27 : PySem.W.codeIn K cd_27 "_law_parts" = true) (k_27 : PySem.W.keepIn K (.ref f_27) = true)
    (a_28 : PySem.W.nsIn K mainGlobals "_law_tidy" = some (some (.ref f_28))) (l_28 : K.lookup f_28 = some ⟨oc_28, od_28, .func (PySem.W.fnOf "_law_tidy" "_law_tidy" (defArgs s__law_tidy) (defBody s__law_tidy) (defScope s__law_tidy) .none kV_28 dc_28 pm_28 an_28 cd_28 ct_28), sl_28⟩) (c_28 : PySem.W.codeIn K cd_28 "_law_tidy" = true) (k_28 : PySem.W.keepIn K (.ref f_28) = true)
    (a_29 : PySem.W.nsIn K mainGlobals "_law_ended" = some (some (.ref f_29))) (l_29 : K.lookup f_29 = some ⟨oc_29, od_29, .func (PySem.W.fnOf "_law_ended" "_law_ended" (defArgs s__law_ended) (defBody s__law_ended) (defScope s__law_ended) .none kV_29 dc_29 pm_29 an_29 cd_29 ct_29), sl_29⟩) (c_29 : PySem.W.codeIn K cd_29 "_law_ended" = true) (k_29 : PySem.W.keepIn K (.ref f_29) = true)
    (a_30 : PySem.W.nsIn K mainGlobals "_law_marked" = some (some (.ref f_30))) (l_30 : K.lookup f_30 = some ⟨oc_30, od_30, .func (PySem.W.fnOf "_law_marked" "_law_marked" (defArgs s__law_marked) (defBody s__law_marked) (defScope s__law_marked) .none kV_30 dc_30 pm_30 an_30 cd_30 ct_30), sl_30⟩) (c_30 : PySem.W.codeIn K cd_30 "_law_marked" = true) (k_30 : PySem.W.keepIn K (.ref f_30) = true)
    (a_31 : PySem.W.nsIn K mainGlobals "_law_varied" = some (some (.ref f_31))) (l_31 : K.lookup f_31 = some ⟨oc_31, od_31, .func (PySem.W.fnOf "_law_varied" "_law_varied" (defArgs s__law_varied) (defBody s__law_varied) (defScope s__law_varied) .none kV_31 dc_31 pm_31 an_31 cd_31 ct_31), sl_31⟩) (c_31 : PySem.W.codeIn K cd_31 "_law_varied" = true) (k_31 : PySem.W.keepIn K (.ref f_31) = true)
    (a_32 : PySem.W.nsIn K mainGlobals "_law_key" = some (some (.ref f_32))) (l_32 : K.lookup f_32 = some ⟨oc_32, od_32, .func (PySem.W.fnOf "_law_key" "_law_key" (defArgs s__law_key) (defBody s__law_key) (defScope s__law_key) .none kV_32 dc_32 pm_32 an_32 cd_32 ct_32), sl_32⟩) (c_32 : PySem.W.codeIn K cd_32 "_law_key" = true) (k_32 : PySem.W.keepIn K (.ref f_32) = true)
    (a_33 : PySem.W.nsIn K mainGlobals "_law_settled" = some (some (.ref f_33))) (l_33 : K.lookup f_33 = some ⟨oc_33, od_33, .func (PySem.W.fnOf "_law_settled" "_law_settled" (defArgs s__law_settled) (defBody s__law_settled) (defScope s__law_settled) .none kV_33 dc_33 pm_33 an_33 cd_33 ct_33), sl_33⟩) (c_33 : PySem.W.codeIn K cd_33 "_law_settled" = true) (k_33 : PySem.W.keepIn K (.ref f_33) = true)
    (a_34 : PySem.W.nsIn K mainGlobals "_law_between" = some (some (.ref f_34))) (l_34 : K.lookup f_34 = some ⟨oc_34, od_34, .func (PySem.W.fnOf "_law_between" "_law_between" (defArgs s__law_between) (defBody s__law_between) (defScope s__law_between) .none kV_34 dc_34 pm_34 an_34 cd_34 ct_34), sl_34⟩) (c_34 : PySem.W.codeIn K cd_34 "_law_between" = true) (k_34 : PySem.W.keepIn K (.ref f_34) = true)
    (a_35 : PySem.W.nsIn K mainGlobals "law" = some (some (.ref f_35))) (l_35 : K.lookup f_35 = some ⟨oc_35, od_35, .func (PySem.W.fnOf "law" "law" (defArgs s_law) (defBody s_law) (defScope s_law) .none kV_35 dc_35 pm_35 an_35 cd_35 ct_35), sl_35⟩) (c_35 : PySem.W.codeIn K cd_35 "law" = true) (k_35 : PySem.W.keepIn K (.ref f_35) = true)
    (gMem : PySem.W.nsIn K mainGlobals "Memory" = some (some (.ref CM))) (pgM : PySem.W.plainGet K CM Str.empty = true) (hdM : PySem.W.hasDictIn K CM = true) (poM : PySem.W.plainOver K CM = true) (saM : PySem.W.findIn K (.ref CM) "__setattr__" = some (some (.builtin "object.__setattr__"))) (mkM : PySem.W.makesIn K CM = true) (kcM : PySem.W.keepIn K (.ref CM) = true) (nkM : PySem.W.findIn K (.ref CM) "kept" = some none)
    (a_m0 : PySem.W.findIn K (.ref CM) "__init__" = some (some (.ref f_m0))) (i_m0 : PySem.W.isFn K (.ref f_m0) = true) (l_m0 : K.lookup f_m0 = some ⟨oc_m0, od_m0, .func (PySem.W.fnOf "__init__" "Memory.__init__" (defArgs s_Memory___init__) (defBody s_Memory___init__) (defScope s_Memory___init__) .none kV_m0 dc_m0 pm_m0 an_m0 cd_m0 ct_m0), sl_m0⟩) (c_m0 : PySem.W.codeIn K cd_m0 "Memory.__init__" = true) (k_m0 : PySem.W.keepIn K (.ref f_m0) = true)
    (a_m1 : PySem.W.findIn K (.ref CM) "learn" = some (some (.ref f_m1))) (i_m1 : PySem.W.isFn K (.ref f_m1) = true) (l_m1 : K.lookup f_m1 = some ⟨oc_m1, od_m1, .func (PySem.W.fnOf "learn" "Memory.learn" (defArgs s_Memory_learn) (defBody s_Memory_learn) (defScope s_Memory_learn) .none kV_m1 dc_m1 pm_m1 an_m1 cd_m1 ct_m1), sl_m1⟩) (c_m1 : PySem.W.codeIn K cd_m1 "Memory.learn" = true) (k_m1 : PySem.W.keepIn K (.ref f_m1) = true)
    (a_m2 : PySem.W.findIn K (.ref CM) "told" = some (some (.ref f_m2))) (i_m2 : PySem.W.isFn K (.ref f_m2) = true) (l_m2 : K.lookup f_m2 = some ⟨oc_m2, od_m2, .func (PySem.W.fnOf "told" "Memory.told" (defArgs s_Memory_told) (defBody s_Memory_told) (defScope s_Memory_told) .none kV_m2 dc_m2 pm_m2 an_m2 cd_m2 ct_m2), sl_m2⟩) (c_m2 : PySem.W.codeIn K cd_m2 "Memory.told" = true) (k_m2 : PySem.W.keepIn K (.ref f_m2) = true)
    (a_m3 : PySem.W.findIn K (.ref CM) "forget" = some (some (.ref f_m3))) (i_m3 : PySem.W.isFn K (.ref f_m3) = true) (l_m3 : K.lookup f_m3 = some ⟨oc_m3, od_m3, .func (PySem.W.fnOf "forget" "Memory.forget" (defArgs s_Memory_forget) (defBody s_Memory_forget) (defScope s_Memory_forget) .none kV_m3 dc_m3 pm_m3 an_m3 cd_m3 ct_m3), sl_m3⟩) (c_m3 : PySem.W.codeIn K cd_m3 "Memory.forget" = true) (k_m3 : PySem.W.keepIn K (.ref f_m3) = true)
    (a_m4 : PySem.W.findIn K (.ref CM) "keys_known" = some (some (.ref f_m4))) (i_m4 : PySem.W.isFn K (.ref f_m4) = true) (l_m4 : K.lookup f_m4 = some ⟨oc_m4, od_m4, .func (PySem.W.fnOf "keys_known" "Memory.keys_known" (defArgs s_Memory_keys_known) (defBody s_Memory_keys_known) (defScope s_Memory_keys_known) .none kV_m4 dc_m4 pm_m4 an_m4 cd_m4 ct_m4), sl_m4⟩) (c_m4 : PySem.W.codeIn K cd_m4 "Memory.keys_known" = true) (k_m4 : PySem.W.keepIn K (.ref f_m4) = true)
    (a_m5 : PySem.W.findIn K (.ref CM) "settle" = some (some (.ref f_m5))) (i_m5 : PySem.W.isFn K (.ref f_m5) = true) (l_m5 : K.lookup f_m5 = some ⟨oc_m5, od_m5, .func (PySem.W.fnOf "settle" "Memory.settle" (defArgs s_Memory_settle) (defBody s_Memory_settle) (defScope s_Memory_settle) .none kV_m5 dc_m5 pm_m5 an_m5 cd_m5 ct_m5), sl_m5⟩) (c_m5 : PySem.W.codeIn K cd_m5 "Memory.settle" = true) (k_m5 : PySem.W.keepIn K (.ref f_m5) = true)
    (a_m6 : PySem.W.findIn K (.ref CM) "learn_from" = some (some (.ref f_m6))) (i_m6 : PySem.W.isFn K (.ref f_m6) = true) (l_m6 : K.lookup f_m6 = some ⟨oc_m6, od_m6, .func (PySem.W.fnOf "learn_from" "Memory.learn_from" (defArgs s_Memory_learn_from) (defBody s_Memory_learn_from) (defScope s_Memory_learn_from) .none kV_m6 dc_m6 pm_m6 an_m6 cd_m6 ct_m6), sl_m6⟩) (c_m6 : PySem.W.codeIn K cd_m6 "Memory.learn_from" = true) (k_m6 : PySem.W.keepIn K (.ref f_m6) = true)
    (a_m7 : PySem.W.findIn K (.ref CM) "merge" = some (some (.ref f_m7))) (i_m7 : PySem.W.isFn K (.ref f_m7) = true) (l_m7 : K.lookup f_m7 = some ⟨oc_m7, od_m7, .func (PySem.W.fnOf "merge" "Memory.merge" (defArgs s_Memory_merge) (defBody s_Memory_merge) (defScope s_Memory_merge) .none kV_m7 dc_m7 pm_m7 an_m7 cd_m7 ct_m7), sl_m7⟩) (c_m7 : PySem.W.codeIn K cd_m7 "Memory.merge" = true) (k_m7 : PySem.W.keepIn K (.ref f_m7) = true)
    {t1 t2 t3 t4 t5 : Tok} (gPRIME : PySem.W.nsIn K mainGlobals "PRIME" = some (some (.int 2305843009213693951 t1))) (gFACTOR : PySem.W.nsIn K mainGlobals "FACTOR" = some (some (.int 1000003 t2))) (gSTART : PySem.W.nsIn K mainGlobals "START" = some (some (.int 7 t3))) (gSIGNS : PySem.W.nsIn K mainGlobals "SIGNS" = some (some (.str "0123456789abcdef" t4))) (gLONG : PySem.W.nsIn K mainGlobals "LONG" = some (some (.int 16 t5)))
    (gC : PySem.W.nsIn K mainGlobals "TooLarge" = some (some (.ref C))) (xC : PySem.W.excIn K C [.type "ValueError", .type "Exception", .type "BaseException", .type "object"] "ValueError.__new__" = true) (kC : PySem.W.keepIn K (.ref C) = true) (sC : PySem.W.subIn K (.ref C) (.type "BaseException") = some true) (tC : PySem.W.typeIn K (.ref C) = some (.type "type"))
    {tM : Tok} (gM : PySem.W.nsIn K mainGlobals "MOST_PLACES" = some (some (.int 40000 tM)))
    (lI : K.lookup cI = some ⟨ocI, odI, .fields vsI, slI⟩) (eI : vsI[11]? = some (.ref Pt)) (nI : K.lookup Pt = none)
    {nmC qC : Str} {NC : Addr} {bsC bmC : List Value} {snC : List Str} {subC : List Value} {abC : Bool} {colC : Option Bool} {ddC : Option Addr} {m0 m1 m2 m3 m5 : Option Value}
    {ocF dcF pmF ctF cclF clF : Value} {odF anF cddF cldF : Option Addr} {slF ccsF cslF : Array (Option Value)} {vsF : Array Value} {fileF : Str} {tfF : Tok} {aCd aCc : Addr}
    (gX : PySem.W.nsIn K mainGlobals "InvalidName" = some (some (.ref CC)))
    (xX : K.lookup CC = some (PySem.excClassObj nmC qC CC NC bsC bmC true snC subC abC colC ddC m0 m1 m2 m3 m5 "ValueError.__new__")) (rX : PySem.HandSPX.refsVE bmC = true)
    (saX : PySem.W.findIn K (.ref CC) "__setattr__" = some (some (.builtin "object.__setattr__"))) (gaX : PySem.W.findIn K (.ref CC) "__getattribute__" = some (some (.builtin "BaseException.__getattribute__"))) (ggX : PySem.W.findIn K (.ref CC) "__getattr__" = some none) (nbX : PySem.W.findIn K (.ref CC) "name" = some none)
    (inX : PySem.W.findIn K (.ref CC) "__init__" = some (some (.ref fI))) (tiX : PySem.W.typeIn K (.ref fI) = some (.type "function")) (kX : PySem.W.keepIn K (.ref CC) = true) (eX : PySem.W.subIn K (.ref CC) (.type "BaseException") = some true) (vX : PySem.W.subIn K (.ref CC) (.type "ValueError") = some true) (sX : PySem.W.subIn K (.ref CC) (.ref CC) = some true)
    (tX : PySem.W.typeIn K (.ref CC) = some (.type "type")) (hX : PySem.W.hasDictIn K CC = true) (iX : PySem.W.isClsIn K CC = true) (z_super : PySem.W.nsIn K mainGlobals "super" = some none) (tpX : PySem.W.nsIn K cStatics "thirdparty.any" = some none)
    (alX : PySem.W.ks_superIn K CC CC "__init__" = some (some (.builtin "ValueError.__init__"))) (htX : (l.prog.main.scope.names.lookup ("super" : Str)).isSome = false)
    (lF : K.lookup fI = some ⟨ocF, odF, .func (PySem.W.fnX "__init__" "InvalidName.__init__" PySem.CfX.iA PySem.CfX.iB PySem.CfX.iS [("__class__", aCc)] .none .none dcF pmF anF (.ref aCd) ctF), slF⟩) (cF : PySem.W.codeIn K (.ref aCd) "InvalidName.__init__" = true)
    (lG : K.lookup aCd = some ⟨cclF, cddF, .fields vsF, ccsF⟩) (eG : vsF[2]? = some (.str fileF tfF)) (fG : ((l.prog.main.file : Str) == fileF) = true)
    (lH : K.lookup aCc = some ⟨clF, cldF, .cell (some (.ref CC)), cslF⟩)
    (z_len : PySem.W.nsIn K mainGlobals "len" = some none) (z_int : PySem.W.nsIn K mainGlobals "int" = some none) (z_range : PySem.W.nsIn K mainGlobals "range" = some none) (z_tuple : PySem.W.nsIn K mainGlobals "tuple" = some none) (z_list : PySem.W.nsIn K mainGlobals "list" = some none) (z_min : PySem.W.nsIn K mainGlobals "min" = some none) (z_max : PySem.W.nsIn K mainGlobals "max" = some none) (z_enumerate : PySem.W.nsIn K mainGlobals "enumerate" = some none) (z_sorted : PySem.W.nsIn K mainGlobals "sorted" = some none) (z_all : PySem.W.nsIn K mainGlobals "all" = some none) (z_any : PySem.W.nsIn K mainGlobals "any" = some none) (z_ord : PySem.W.nsIn K mainGlobals "ord" = some none) (z_str : PySem.W.nsIn K mainGlobals "str" = some none) (z_isinstance : PySem.W.nsIn K mainGlobals "isinstance" = some none)
    (tab : ∀ c P : Addr, PySem.W.tabIn K "is_name" = some (c, P) → PySem.W.CodeHd h c P ∧ h.get? P = some { cls := .none, data := .fields #[] }) : LamX.LawAtS l w K CX0 7 63 "script" mg fa h := by
  have e := hfa.symm.trans (PySem.W.mg_of X G a_35)
  cases e
  obtain ⟨hC, hT⟩ := tab cI Pt (tabIn_mk (st := s_is_name) a_13 l_13 lI eI)
  have T0 : Txt0 mg := ⟨PySem.W.mg_none_of X G z_len, PySem.W.mg_none_of X G z_int, PySem.W.mg_none_of X G z_range, PySem.W.mg_none_of X G z_tuple, PySem.W.mg_none_of X G z_list, PySem.W.mg_none_of X G z_min, PySem.W.mg_none_of X G z_max, PySem.W.mg_none_of X G z_enumerate⟩
  have T : PySem.CfX.CfTxt l.prog K mg CC fI :=
    { gC := PySem.W.mg_of X G gX, cls := ⟨nmC, qC, NC, bsC, bmC, snC, subC, abC, colC, ddC, m0, m1, m2, m3, m5, xX, rX⟩, sa := saX, ga := gaX, gg := ggX, noN := nbX, iC := inX, tC := tiX, kC := kX, exC := eX, hB := vX, hCC := sX, tyC := tX, hdC := hX, te := exm_selfK eX iX tX sX, sup := PySem.W.mg_none_of X G z_super, tp := tpX, along := alX, htop := htX,
      fn := ⟨_, _, _, _, _, _, _, _, _, lF, cF, ⟨_, _, _, _, _, _, lG, eG, fG⟩, ⟨_, _, _, lH⟩⟩ }
  have F_0 := fun_mk (st := s_lines_of) l_0 c_0 k_0
  have D_0 : Df K mg "lines_of" s_lines_of ["text"] f_0 _ := ⟨F_0, PySem.W.mg_of X G a_0, F_0.binds fun _ _ _ _ _ _ us hl => match us, hl with | [_], _ => rfl⟩
  have F_1 := fun_mk (st := s_text_from) l_1 c_1 k_1
  have D_1 : Df K mg "text_from" s_text_from ["lines"] f_1 _ := ⟨F_1, PySem.W.mg_of X G a_1, F_1.binds fun _ _ _ _ _ _ us hl => match us, hl with | [_], _ => rfl⟩
  have F_2 := fun_mk (st := s_common_table) l_2 c_2 k_2
  have D_2 : Df K mg "common_table" s_common_table ["one", "two"] f_2 _ := ⟨F_2, PySem.W.mg_of X G a_2, F_2.binds fun _ _ _ _ _ _ us hl => match us, hl with | [_, _], _ => rfl⟩
  have F_3 := fun_mk (st := s_kept_pairs) l_3 c_3 k_3
  have D_3 : Df K mg "kept_pairs" s_kept_pairs ["one", "two"] f_3 _ := ⟨F_3, PySem.W.mg_of X G a_3, F_3.binds fun _ _ _ _ _ _ us hl => match us, hl with | [_, _], _ => rfl⟩
  have F_4 := fun_mk (st := s_next_pair) l_4 c_4 k_4
  have D_4 : Df K mg "next_pair" s_next_pair ["one", "two", "table", "place"] f_4 _ := ⟨F_4, PySem.W.mg_of X G a_4, F_4.binds fun _ _ _ _ _ _ us hl => match us, hl with | [_, _, _, _], _ => rfl⟩
  have F_5 := fun_mk (st := s_hunks_of) l_5 c_5 k_5
  have D_5 : Df K mg "hunks_of" s_hunks_of ["one", "two"] f_5 _ := ⟨F_5, PySem.W.mg_of X G a_5, F_5.binds fun _ _ _ _ _ _ us hl => match us, hl with | [_, _], _ => rfl⟩
  have F_6 := fun_mk (st := s_spans_between) l_6 c_6 k_6
  have D_6 : Df K mg "spans_between" s_spans_between ["one", "two"] f_6 _ := ⟨F_6, PySem.W.mg_of X G a_6, F_6.binds fun _ _ _ _ _ _ us hl => match us, hl with | [_, _], _ => rfl⟩
  have F_7 := fun_mk (st := s_within) l_7 c_7 k_7
  have D_7 : Df K mg "within" s_within ["patch", "low", "high"] f_7 _ := ⟨F_7, PySem.W.mg_of X G a_7, F_7.binds fun _ _ _ _ _ _ us hl => match us, hl with | [_, _, _], _ => rfl⟩
  have F_8 := fun_mk (st := s_rewritten) l_8 c_8 k_8
  have D_8 : Df K mg "rewritten" s_rewritten ["lines", "low", "hunks"] f_8 _ := ⟨F_8, PySem.W.mg_of X G a_8, F_8.binds fun _ _ _ _ _ _ us hl => match us, hl with | [_, _, _], _ => rfl⟩
  have F_9 := fun_mk (st := s_merged_parts) l_9 c_9 k_9
  have D_9 : Df K mg "merged_parts" s_merged_parts ["base", "one", "two"] f_9 _ := ⟨F_9, PySem.W.mg_of X G a_9, F_9.binds fun _ _ _ _ _ _ us hl => match us, hl with | [_, _, _], _ => rfl⟩
  have F_10 := fun_mk (st := s_add_same) l_10 c_10 k_10
  have D_10 : Df K mg "add_same" s_add_same ["found", "lines"] f_10 _ := ⟨F_10, PySem.W.mg_of X G a_10, F_10.binds fun _ _ _ _ _ _ us hl => match us, hl with | [_, _], _ => rfl⟩
  have F_11 := fun_mk (st := s_ended) l_11 c_11 k_11
  have D_11 : Df K mg "ended" s_ended ["lines"] f_11 _ := ⟨F_11, PySem.W.mg_of X G a_11, F_11.binds fun _ _ _ _ _ _ us hl => match us, hl with | [_], _ => rfl⟩
  have F_12 := fun_mk (st := s_marked_lines) l_12 c_12 k_12
  have D_12 : Df K mg "marked_lines" s_marked_lines ["parts", "names"] f_12 _ := ⟨F_12, PySem.W.mg_of X G a_12, F_12.binds fun _ _ _ _ _ _ us hl => match us, hl with | [_, _], _ => rfl⟩
  have F_13 := funC_mk (st := s_is_name) l_13 c_13 k_13
  have F_14 := fun_mk (st := s_sum_of) l_14 c_14 k_14
  have D_14 : Df K mg "sum_of" s_sum_of ["text"] f_14 _ := ⟨F_14, PySem.W.mg_of X G a_14, F_14.binds fun _ _ _ _ _ _ us hl => match us, hl with | [_], _ => rfl⟩
  have F_15 := fun_mk (st := s_name_of) l_15 c_15 k_15
  have D_15 : Df K mg "name_of" s_name_of ["text"] f_15 _ := ⟨F_15, PySem.W.mg_of X G a_15, F_15.binds fun _ _ _ _ _ _ us hl => match us, hl with | [_], _ => rfl⟩
  have F_16 := fun_mk (st := s_signs_of) l_16 c_16 k_16
  have D_16 : Df K mg "signs_of" s_signs_of ["number"] f_16 _ := ⟨F_16, PySem.W.mg_of X G a_16, F_16.binds fun _ _ _ _ _ _ us hl => match us, hl with | [_], _ => rfl⟩
  have F_17 := fun_mk (st := s_clash_key) l_17 c_17 k_17
  have D_17 : Df K mg "clash_key" s_clash_key ["clash"] f_17 _ := ⟨F_17, PySem.W.mg_of X G a_17, F_17.binds fun _ _ _ _ _ _ us hl => match us, hl with | [_], _ => rfl⟩
  have F_18 := fun_mk (st := s_settled_between) l_18 c_18 k_18
  have D_18 : Df K mg "settled_between" s_settled_between ["parts", "lines"] f_18 _ := ⟨F_18, PySem.W.mg_of X G a_18, F_18.binds fun _ _ _ _ _ _ us hl => match us, hl with | [_, _], _ => rfl⟩
  have F_19 := fun_mk (st := s_place_behind) l_19 c_19 k_19
  have D_19 : Df K mg "place_behind" s_place_behind ["lines", "part", "here", "at_once", "last"] f_19 _ := ⟨F_19, PySem.W.mg_of X G a_19, F_19.binds fun _ _ _ _ _ _ us hl => match us, hl with | [_, _, _, _, _], _ => rfl⟩
  have F_20 := fun_mk (st := s__law_draw) l_20 c_20 k_20
  have D_20 : Df K mg "_law_draw" s__law_draw ["state", "limit"] f_20 _ := ⟨F_20, PySem.W.mg_of X G a_20, F_20.binds fun _ _ _ _ _ _ us hl => match us, hl with | [_, _], _ => rfl⟩
  have F_21 := fun_mk (st := s__law_name) l_21 c_21 k_21
  have D_21 : Df K mg "_law_name" s__law_name ["text"] f_21 _ := ⟨F_21, PySem.W.mg_of X G a_21, F_21.binds fun _ _ _ _ _ _ us hl => match us, hl with | [_], _ => rfl⟩
  have F_22 := fun_mk (st := s__law_lines) l_22 c_22 k_22
  have D_22 : Df K mg "_law_lines" s__law_lines ["state", "many"] f_22 _ := ⟨F_22, PySem.W.mg_of X G a_22, F_22.binds fun _ _ _ _ _ _ us hl => match us, hl with | [_, _], _ => rfl⟩
  have F_23 := fun_mk (st := s__law_table) l_23 c_23 k_23
  have D_23 : Df K mg "_law_table" s__law_table ["one", "two"] f_23 _ := ⟨F_23, PySem.W.mg_of X G a_23, F_23.binds fun _ _ _ _ _ _ us hl => match us, hl with | [_, _], _ => rfl⟩
  have F_24 := fun_mk (st := s__law_pairs) l_24 c_24 k_24
  have D_24 : Df K mg "_law_pairs" s__law_pairs ["one", "two"] f_24 _ := ⟨F_24, PySem.W.mg_of X G a_24, F_24.binds fun _ _ _ _ _ _ us hl => match us, hl with | [_, _], _ => rfl⟩
  have F_25 := fun_mk (st := s__law_hunks) l_25 c_25 k_25
  have D_25 : Df K mg "_law_hunks" s__law_hunks ["one", "two"] f_25 _ := ⟨F_25, PySem.W.mg_of X G a_25, F_25.binds fun _ _ _ _ _ _ us hl => match us, hl with | [_, _], _ => rfl⟩
  have F_26 := fun_mk (st := s__law_apply) l_26 c_26 k_26
  have D_26 : Df K mg "_law_apply" s__law_apply ["lines", "patch"] f_26 _ := ⟨F_26, PySem.W.mg_of X G a_26, F_26.binds fun _ _ _ _ _ _ us hl => match us, hl with | [_, _], _ => rfl⟩
  have F_27 := fun_mk (st := s__law_parts) l_27 c_27 k_27
  have D_27 : Df K mg "_law_parts" s__law_parts ["base", "one", "two"] f_27 _ := ⟨F_27, PySem.W.mg_of X G a_27, F_27.binds fun _ _ _ _ _ _ us hl => match us, hl with | [_, _, _], _ => rfl⟩
  have F_28 := fun_mk (st := s__law_tidy) l_28 c_28 k_28
  have D_28 : Df K mg "_law_tidy" s__law_tidy ["parts"] f_28 _ := ⟨F_28, PySem.W.mg_of X G a_28, F_28.binds fun _ _ _ _ _ _ us hl => match us, hl with | [_], _ => rfl⟩
  have F_29 := fun_mk (st := s__law_ended) l_29 c_29 k_29
  have D_29 : Df K mg "_law_ended" s__law_ended ["lines"] f_29 _ := ⟨F_29, PySem.W.mg_of X G a_29, F_29.binds fun _ _ _ _ _ _ us hl => match us, hl with | [_], _ => rfl⟩
  have F_30 := fun_mk (st := s__law_marked) l_30 c_30 k_30
  have D_30 : Df K mg "_law_marked" s__law_marked ["parts", "names"] f_30 _ := ⟨F_30, PySem.W.mg_of X G a_30, F_30.binds fun _ _ _ _ _ _ us hl => match us, hl with | [_, _], _ => rfl⟩
  have F_31 := fun_mk (st := s__law_varied) l_31 c_31 k_31
  have D_31 : Df K mg "_law_varied" s__law_varied ["state", "lines"] f_31 _ := ⟨F_31, PySem.W.mg_of X G a_31, F_31.binds fun _ _ _ _ _ _ us hl => match us, hl with | [_, _], _ => rfl⟩
  have F_32 := fun_mk (st := s__law_key) l_32 c_32 k_32
  have D_32 : Df K mg "_law_key" s__law_key ["clash"] f_32 _ := ⟨F_32, PySem.W.mg_of X G a_32, F_32.binds fun _ _ _ _ _ _ us hl => match us, hl with | [_], _ => rfl⟩
  have F_33 := fun_mk (st := s__law_settled) l_33 c_33 k_33
  have D_33 : Df K mg "_law_settled" s__law_settled ["parts", "known"] f_33 _ := ⟨F_33, PySem.W.mg_of X G a_33, F_33.binds fun _ _ _ _ _ _ us hl => match us, hl with | [_, _], _ => rfl⟩
  have F_34 := fun_mk (st := s__law_between) l_34 c_34 k_34
  have D_34 : Df K mg "_law_between" s__law_between ["parts", "lines"] f_34 _ := ⟨F_34, PySem.W.mg_of X G a_34, F_34.binds fun _ _ _ _ _ _ us hl => match us, hl with | [_, _], _ => rfl⟩
  have F_35 := fun_mk (st := s_law) l_35 c_35 k_35
  have F_m0 := fun_mk (st := s_Memory___init__) l_m0 c_m0 k_m0
  have bInit : Binds K _ ["self"] [] := F_m0.binds fun _ _ _ _ _ _ us hl => match us, hl with | [_], _ => rfl
  have F_m1 := fun_mk (st := s_Memory_learn) l_m1 c_m1 k_m1
  have M_m1 : MtD K CM "learn" "Memory.learn" s_Memory_learn ["self", "clash", "lines"] f_m1 _ := ⟨F_m1, ⟨a_m1, i_m1, k_m1⟩, F_m1.binds fun _ _ _ _ _ _ us hl => match us, hl with | [_, _, _], _ => rfl⟩
  have F_m2 := fun_mk (st := s_Memory_told) l_m2 c_m2 k_m2
  have M_m2 : MtD K CM "told" "Memory.told" s_Memory_told ["self", "clash"] f_m2 _ := ⟨F_m2, ⟨a_m2, i_m2, k_m2⟩, F_m2.binds fun _ _ _ _ _ _ us hl => match us, hl with | [_, _], _ => rfl⟩
  have F_m3 := fun_mk (st := s_Memory_forget) l_m3 c_m3 k_m3
  have M_m3 : MtD K CM "forget" "Memory.forget" s_Memory_forget ["self", "key"] f_m3 _ := ⟨F_m3, ⟨a_m3, i_m3, k_m3⟩, F_m3.binds fun _ _ _ _ _ _ us hl => match us, hl with | [_, _], _ => rfl⟩
  have F_m4 := fun_mk (st := s_Memory_keys_known) l_m4 c_m4 k_m4
  have M_m4 : MtD K CM "keys_known" "Memory.keys_known" s_Memory_keys_known ["self"] f_m4 _ := ⟨F_m4, ⟨a_m4, i_m4, k_m4⟩, F_m4.binds fun _ _ _ _ _ _ us hl => match us, hl with | [_], _ => rfl⟩
  have F_m5 := fun_mk (st := s_Memory_settle) l_m5 c_m5 k_m5
  have M_m5 : MtD K CM "settle" "Memory.settle" s_Memory_settle ["self", "parts"] f_m5 _ := ⟨F_m5, ⟨a_m5, i_m5, k_m5⟩, F_m5.binds fun _ _ _ _ _ _ us hl => match us, hl with | [_, _], _ => rfl⟩
  have F_m6 := fun_mk (st := s_Memory_learn_from) l_m6 c_m6 k_m6
  have M_m6 : MtD K CM "learn_from" "Memory.learn_from" s_Memory_learn_from ["self", "parts", "text"] f_m6 _ := ⟨F_m6, ⟨a_m6, i_m6, k_m6⟩, F_m6.binds fun _ _ _ _ _ _ us hl => match us, hl with | [_, _, _], _ => rfl⟩
  have F_m7 := fun_mk (st := s_Memory_merge) l_m7 c_m7 k_m7
  have M_m7 : MtD K CM "merge" "Memory.merge" s_Memory_merge ["self", "base", "one", "two", "names"] f_m7 _ := ⟨F_m7, ⟨a_m7, i_m7, k_m7⟩, F_m7.binds fun _ _ _ _ _ _ us hl => match us, hl with | [_, _, _, _, _], _ => rfl⟩
  have N : VK.NC mg t1 t2 t3 t4 t5 := ⟨PySem.W.mg_of X G gPRIME, PySem.W.mg_of X G gFACTOR, PySem.W.mg_of X G gSTART, PySem.W.mg_of X G gSIGNS, PySem.W.mg_of X G gLONG, PySem.W.mg_none_of X G z_ord, PySem.W.mg_none_of X G z_str⟩
  have D_13 : DfC K mg "is_name" s_is_name ["value"] f_13 cI _ := ⟨F_13, PySem.W.mg_of X G a_13, .all fun us hl => match us, hl with | [_], _ => rfl⟩
  refine ⟨_, [(cI, Pt)], spLaw K Pt, fun p hp => ?_, fun p hp => ?_, fun p hp => ?_, fun s u => .of_eq (fd := PySem.W.fnOf "law" "law" (defArgs s_law) (defBody s_law) (defScope s_law) .none kV_35 dc_35 pm_35 an_35 cd_35 ct_35) rfl, fun H a ns hl hb hH hS => ⟨a, ns, rfl, hS, ⟨#[], hH (cI, Pt) (List.mem_singleton.mpr rfl), trivial⟩, fun _ => rfl⟩, fun base hK hg hTB => ?_⟩
  · rw [List.mem_singleton.mp hp]
    exact hT
  · rw [List.mem_singleton.mp hp]
    exact nI
  · rw [List.mem_singleton.mp hp]
    exact hC
  · exact ok_law F_35 T0 N (PySem.W.mg_none_of X G z_sorted) (PySem.W.mg_none_of X G z_all) (PySem.W.mg_none_of X G z_any) (PySem.W.mg_none_of X G z_isinstance) ⟨PySem.W.mg_of X G gC, xC, kC, sC, tC⟩ (PySem.W.mg_of X G gM) T (tabB_of (hTB (cI, Pt) (List.mem_singleton.mpr rfl)))
      D_0 D_1 D_2 D_3 D_4 D_5 D_6 D_7 D_8 D_9 D_10 D_11 D_12 D_13 D_14 D_15 D_16 D_17 D_18 D_19 D_20 D_21 D_22 D_23 D_24 D_25 D_26 D_27 D_28 D_29 D_30 D_31 D_32 D_33 D_34 M_m1 M_m2 M_m3 M_m4 M_m5 M_m6 M_m7 F_m0 bInit ⟨mkM, a_m0, i_m0, kcM⟩ (PySem.W.mg_of X G gMem) ⟨pgM, hdM, poM, saM⟩ nkM
end VK
end

section
set_option Elab.async false
set_option linter.all false
set_option maxRecDepth 100000
open PySem PySem.W PyProof.Rows
set_option maxHeartbeats 0 in
theorem PySem.Challenge.cw_versionkept_k16_clashes_that_are_remembe_holds : PySem.Challenge.rw_versionkept_k16_clashes_that_are_remembe.Holds := by
  w_on; o_law; k_head; (case hw => w_witness2)
  k_fill
  refine LamX.walk_ofTsP (l := PySem.Challenge.rw_versionkept_k16_clashes_that_are_remembe) (n := 63) (k := 7) (x := "script") (nmI := "is_name") (CX := fun _ => L2.CX0) rfl (by decide) rfl ⟨rfl, by decide, by decide⟩ (by rfl) (fun w h Y => PySem.W.kIn_of Y) ?F (fun _ _ _ _ _ z => z)
  case F =>
    intro w mg fa h Y KX G hmg tab
    refine' VK.all_mk KX G hmg ?a_0 ?l_0 ?c_0 ?k_0 ?a_1 ?l_1 ?c_1 ?k_1 ?a_2 ?l_2 ?c_2 ?k_2 ?a_3 ?l_3 ?c_3 ?k_3 ?a_4 ?l_4 ?c_4 ?k_4 ?a_5 ?l_5 ?c_5 ?k_5 ?a_6 ?l_6 ?c_6 ?k_6 ?a_7 ?l_7 ?c_7 ?k_7 ?a_8 ?l_8 ?c_8 ?k_8 ?a_9 ?l_9 ?c_9 ?k_9 ?a_10 ?l_10 ?c_10 ?k_10 ?a_11 ?l_11 ?c_11 ?k_11 ?a_12 ?l_12 ?c_12 ?k_12 ?a_13 ?l_13 ?c_13 ?k_13 ?a_14 ?l_14 ?c_14 ?k_14 ?a_15 ?l_15 ?c_15 ?k_15 ?a_16 ?l_16 ?c_16 ?k_16 ?a_17 ?l_17 ?c_17 ?k_17 ?a_18 ?l_18 ?c_18 ?k_18 ?a_19 ?l_19 ?c_19 ?k_19 ?a_20 ?l_20 ?c_20 ?k_20 ?a_21 ?l_21 ?c_21 ?k_21 ?a_22 ?l_22 ?c_22 ?k_22 ?a_23 ?l_23 ?c_23 ?k_23 ?a_24 ?l_24 ?c_24 ?k_24 ?a_25 ?l_25 ?c_25 ?k_25 ?a_26 ?l_26 ?c_26 ?k_26 ?a_27 ?l_27 ?c_27 ?k_27 ?a_28 ?l_28 ?c_28 ?k_28 ?a_29 ?l_29 ?c_29 ?k_29 ?a_30 ?l_30 ?c_30 ?k_30 ?a_31 ?l_31 ?c_31 ?k_31 ?a_32 ?l_32 ?c_32 ?k_32 ?a_33 ?l_33 ?c_33 ?k_33 ?a_34 ?l_34 ?c_34 ?k_34 ?a_35 ?l_35 ?c_35 ?k_35 ?gMem ?pgM ?hdM ?poM ?saM ?mkM ?kcM ?nkM ?a_m0 ?i_m0 ?l_m0 ?c_m0 ?k_m0 ?a_m1 ?i_m1 ?l_m1 ?c_m1 ?k_m1 ?a_m2 ?i_m2 ?l_m2 ?c_m2 ?k_m2 ?a_m3 ?i_m3 ?l_m3 ?c_m3 ?k_m3 ?a_m4 ?i_m4 ?l_m4 ?c_m4 ?k_m4 ?a_m5 ?i_m5 ?l_m5 ?c_m5 ?k_m5 ?a_m6 ?i_m6 ?l_m6 ?c_m6 ?k_m6 ?a_m7 ?i_m7 ?l_m7 ?c_m7 ?k_m7 ?gPRIME ?gFACTOR ?gSTART ?gSIGNS ?gLONG ?gC ?xC ?kC ?sC ?tC ?gM ?lI ?eI ?nI ?gX ?xX ?rX ?saX ?gaX ?ggX ?nbX ?inX ?tiX ?kX ?eX ?vX ?sX ?tX ?hX ?iX ?z_super ?tpX ?alX ?htX ?lF ?cF ?lG ?eG ?fG ?lH ?z_len ?z_int ?z_range ?z_tuple ?z_list ?z_min ?z_max ?z_enumerate ?z_sorted ?z_all ?z_any ?z_ord ?z_str ?z_isinstance tab
    (case a_0 => first | k_is | rfl)
    (case l_0 => first | k_is | rfl)
    (case c_0 => first | k_is | rfl)
    (case k_0 => first | k_is | rfl)
    (case a_1 => first | k_is | rfl)
    (case l_1 => first | k_is | rfl)
    (case c_1 => first | k_is | rfl)
    (case k_1 => first | k_is | rfl)
    (case a_2 => first | k_is | rfl)
    (case l_2 => first | k_is | rfl)
    (case c_2 => first | k_is | rfl)
    (case k_2 => first | k_is | rfl)
    (case a_3 => first | k_is | rfl)
    (case l_3 => first | k_is | rfl)
    (case c_3 => first | k_is | rfl)
    (case k_3 => first | k_is | rfl)
    (case a_4 => first | k_is | rfl)
    (case l_4 => first | k_is | rfl)
    (case c_4 => first | k_is | rfl)
    (case k_4 => first | k_is | rfl)
    (case a_5 => first | k_is | rfl)
    (case l_5 => first | k_is | rfl)
    (case c_5 => first | k_is | rfl)
    (case k_5 => first | k_is | rfl)
    (case a_6 => first | k_is | rfl)
    (case l_6 => first | k_is | rfl)
    (case c_6 => first | k_is | rfl)
    (case k_6 => first | k_is | rfl)
    (case a_7 => first | k_is | rfl)
    (case l_7 => first | k_is | rfl)
    (case c_7 => first | k_is | rfl)
    (case k_7 => first | k_is | rfl)
    (case a_8 => first | k_is | rfl)
    (case l_8 => first | k_is | rfl)
    (case c_8 => first | k_is | rfl)
    (case k_8 => first | k_is | rfl)
    (case a_9 => first | k_is | rfl)
    (case l_9 => first | k_is | rfl)
    (case c_9 => first | k_is | rfl)
    (case k_9 => first | k_is | rfl)
    (case a_10 => first | k_is | rfl)
    (case l_10 => first | k_is | rfl)
    (case c_10 => first | k_is | rfl)
    (case k_10 => first | k_is | rfl)
    (case a_11 => first | k_is | rfl)
    (case l_11 => first | k_is | rfl)
    (case c_11 => first | k_is | rfl)
    (case k_11 => first | k_is | rfl)
    (case a_12 => first | k_is | rfl)
    (case l_12 => first | k_is | rfl)
    (case c_12 => first | k_is | rfl)
    (case k_12 => first | k_is | rfl)
    (case a_13 => first | k_is | rfl)
    (case l_13 => first | k_is | rfl)
    (case c_13 => first | k_is | rfl)
    (case k_13 => first | k_is | rfl)
    (case a_14 => first | k_is | rfl)
    (case l_14 => first | k_is | rfl)
    (case c_14 => first | k_is | rfl)
    (case k_14 => first | k_is | rfl)
    (case a_15 => first | k_is | rfl)
    (case l_15 => first | k_is | rfl)
    (case c_15 => first | k_is | rfl)
    (case k_15 => first | k_is | rfl)
    (case a_16 => first | k_is | rfl)
    (case l_16 => first | k_is | rfl)
    (case c_16 => first | k_is | rfl)
    (case k_16 => first | k_is | rfl)
    (case a_17 => first | k_is | rfl)
    (case l_17 => first | k_is | rfl)
    (case c_17 => first | k_is | rfl)
    (case k_17 => first | k_is | rfl)
    (case a_18 => first | k_is | rfl)
    (case l_18 => first | k_is | rfl)
    (case c_18 => first | k_is | rfl)
    (case k_18 => first | k_is | rfl)
    (case a_19 => first | k_is | rfl)
    (case l_19 => first | k_is | rfl)
    (case c_19 => first | k_is | rfl)
    (case k_19 => first | k_is | rfl)
    (case a_20 => first | k_is | rfl)
    (case l_20 => first | k_is | rfl)
    (case c_20 => first | k_is | rfl)
    (case k_20 => first | k_is | rfl)
    (case a_21 => first | k_is | rfl)
    (case l_21 => first | k_is | rfl)
    (case c_21 => first | k_is | rfl)
    (case k_21 => first | k_is | rfl)
    (case a_22 => first | k_is | rfl)
    (case l_22 => first | k_is | rfl)
    (case c_22 => first | k_is | rfl)
    (case k_22 => first | k_is | rfl)
    (case a_23 => first | k_is | rfl)
    (case l_23 => first | k_is | rfl)
    (case c_23 => first | k_is | rfl)
    (case k_23 => first | k_is | rfl)
    (case a_24 => first | k_is | rfl)
    (case l_24 => first | k_is | rfl)
    (case c_24 => first | k_is | rfl)
    (case k_24 => first | k_is | rfl)
    (case a_25 => first | k_is | rfl)
    (case l_25 => first | k_is | rfl)
    (case c_25 => first | k_is | rfl)
    (case k_25 => first | k_is | rfl)
    (case a_26 => first | k_is | rfl)
    (case l_26 => first | k_is | rfl)
    (case c_26 => first | k_is | rfl)
    (case k_26 => first | k_is | rfl)
    (case a_27 => first | k_is | rfl)
    (case l_27 => first | k_is | rfl)
    (case c_27 => first | k_is | rfl)
    (case k_27 => first | k_is | rfl)
    (case a_28 => first | k_is | rfl)
    (case l_28 => first | k_is | rfl)
    (case c_28 => first | k_is | rfl)
    (case k_28 => first | k_is | rfl)
    (case a_29 => first | k_is | rfl)
    (case l_29 => first | k_is | rfl)
    (case c_29 => first | k_is | rfl)
    (case k_29 => first | k_is | rfl)
    (case a_30 => first | k_is | rfl)
    (case l_30 => first | k_is | rfl)
    (case c_30 => first | k_is | rfl)
    (case k_30 => first | k_is | rfl)
    (case a_31 => first | k_is | rfl)
    (case l_31 => first | k_is | rfl)
    (case c_31 => first | k_is | rfl)
    (case k_31 => first | k_is | rfl)
    (case a_32 => first | k_is | rfl)
    (case l_32 => first | k_is | rfl)
    (case c_32 => first | k_is | rfl)
    (case k_32 => first | k_is | rfl)
    (case a_33 => first | k_is | rfl)
    (case l_33 => first | k_is | rfl)
    (case c_33 => first | k_is | rfl)
    (case k_33 => first | k_is | rfl)
    (case a_34 => first | k_is | rfl)
    (case l_34 => first | k_is | rfl)
    (case c_34 => first | k_is | rfl)
    (case k_34 => first | k_is | rfl)
    (case a_35 => first | k_is | rfl)
    (case l_35 => first | k_is | rfl)
    (case c_35 => first | k_is | rfl)
    (case k_35 => first | k_is | rfl)
    (case gMem => first | k_is | rfl)
    (case pgM => first | k_is | rfl)
    (case hdM => first | k_is | rfl)
    (case poM => first | k_is | rfl)
    (case saM => first | k_is | rfl)
    (case mkM => first | k_is | rfl)
    (case kcM => first | k_is | rfl)
    (case nkM => first | k_is | rfl)
    (case a_m0 => first | k_is | rfl)
    (case i_m0 => first | k_is | rfl)
    (case l_m0 => first | k_is | rfl)
    (case c_m0 => first | k_is | rfl)
    (case k_m0 => first | k_is | rfl)
    (case a_m1 => first | k_is | rfl)
    (case i_m1 => first | k_is | rfl)
    (case l_m1 => first | k_is | rfl)
    (case c_m1 => first | k_is | rfl)
    (case k_m1 => first | k_is | rfl)
    (case a_m2 => first | k_is | rfl)
    (case i_m2 => first | k_is | rfl)
    (case l_m2 => first | k_is | rfl)
    (case c_m2 => first | k_is | rfl)
    (case k_m2 => first | k_is | rfl)
    (case a_m3 => first | k_is | rfl)
    (case i_m3 => first | k_is | rfl)
    (case l_m3 => first | k_is | rfl)
    (case c_m3 => first | k_is | rfl)
    (case k_m3 => first | k_is | rfl)
    (case a_m4 => first | k_is | rfl)
    (case i_m4 => first | k_is | rfl)
    (case l_m4 => first | k_is | rfl)
    (case c_m4 => first | k_is | rfl)
    (case k_m4 => first | k_is | rfl)
    (case a_m5 => first | k_is | rfl)
    (case i_m5 => first | k_is | rfl)
    (case l_m5 => first | k_is | rfl)
    (case c_m5 => first | k_is | rfl)
    (case k_m5 => first | k_is | rfl)
    (case a_m6 => first | k_is | rfl)
    (case i_m6 => first | k_is | rfl)
    (case l_m6 => first | k_is | rfl)
    (case c_m6 => first | k_is | rfl)
    (case k_m6 => first | k_is | rfl)
    (case a_m7 => first | k_is | rfl)
    (case i_m7 => first | k_is | rfl)
    (case l_m7 => first | k_is | rfl)
    (case c_m7 => first | k_is | rfl)
    (case k_m7 => first | k_is | rfl)
    (case gPRIME => first | k_is | rfl)
    (case gFACTOR => first | k_is | rfl)
    (case gSTART => first | k_is | rfl)
    (case gSIGNS => first | k_is | rfl)
    (case gLONG => first | k_is | rfl)
    (case gC => first | k_is | rfl)
    (case xC => first | kernel_rfl | rfl)
    (case kC => first | k_is | rfl)
    (case sC => first | k_is | rfl)
    (case tC => first | k_is | rfl)
    (case gM => first | k_is | rfl)
    (case lI => first | k_is | rfl)
    (case eI => first | rfl | decide +kernel)
    (case nI => first | rfl | kernel_rfl)
    (case gX => first | k_is | rfl)
    (case xX => first | k_is | rfl)
    (case rX => first | rfl | decide +kernel)
    (case saX => first | k_is | rfl)
    (case gaX => first | k_is | rfl)
    (case ggX => first | k_is | rfl)
    (case nbX => first | k_is | rfl)
    (case inX => first | k_is | rfl)
    (case tiX => first | k_is | rfl)
    (case kX => first | k_is | rfl)
    (case eX => first | k_is | rfl)
    (case vX => first | k_is | rfl)
    (case sX => first | k_is | rfl)
    (case tX => first | k_is | rfl)
    (case hX => first | kernel_rfl | rfl | k_is)
    (case iX => first | kernel_rfl | rfl | k_is)
    (case z_super => first | k_is | rfl)
    (case tpX => first | k_is | rfl)
    (case alX => first | kernel_rfl | rfl | k_is)
    (case htX => first | rfl | decide +kernel)
    (case lF => first | k_is | rfl)
    (case cF => first | k_is | rfl)
    (case lG => first | k_is | rfl)
    (case eG => first | rfl | decide +kernel)
    (case fG => first | rfl | decide +kernel)
    (case lH => first | k_is | rfl)
    (case z_len => first | k_is | rfl)
    (case z_int => first | k_is | rfl)
    (case z_range => first | k_is | rfl)
    (case z_tuple => first | k_is | rfl)
    (case z_list => first | k_is | rfl)
    (case z_min => first | k_is | rfl)
    (case z_max => first | k_is | rfl)
    (case z_enumerate => first | k_is | rfl)
    (case z_sorted => first | k_is | rfl)
    (case z_all => first | k_is | rfl)
    (case z_any => first | k_is | rfl)
    (case z_ord => first | k_is | rfl)
    (case z_str => first | k_is | rfl)
    (case z_isinstance => first | k_is | rfl)
#print axioms PySem.Challenge.cw_versionkept_k16_clashes_that_are_remembe_holds
end
