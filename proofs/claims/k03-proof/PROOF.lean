import PyProof.Rows.All
import Wide.All
import OpenK.AllK
import Wide.FinOn
import HandS.ForMost
import HandS.TupAny
import HandS.TupMul
import HandS.Walk
import PySem.Challenge.RW_versionkept_k03_whole_least_scripts_of_l
import HandS.ForExc
import HandS.Small
import HandS.ExcCtx
import HandS.SuiteRaise
import HandS.Style
import HandS.Iter
import KE.GoesMore
import HandS.AnyAll
import HandS.JoinGen
import PyProof.WalksMore
import HandS.Text
import HandS.IsInst
import PyProof.SliceStr2
import PyProof.IsiPairs
import HandS.TupLe
import PyProof.MinMaxWalk
import PyProof.Rows.RowHeap
import PyProof.P3Eq
import HandS.Hot
import HandS.HotCalls
import PyProof.WalkInts
import HandS.Comp
import PyProof.EqLayable
import HandS.EndTab
import KE.KNest
section
set_option Elab.async false
set_option linter.all false
set_option maxRecDepth 100000
set_option maxHeartbeats 4000000
namespace VK
open PySem L2
def topS (i : Nat) : Stmt := PySem.Challenge.pw_versionkept_k03_whole_least_scripts_of_l.main.body.getD i (.Pass ⟨0, 0, 0, 0⟩)
/-- the drawing state: what is left of the cell, the place, the script, the mixer -/
abbrev stL (s0 p : Int) (sc : Addr) (s3 : Int) : List V := [.int s0, .int p, .ref sc, .int s3]
structure StAt (K : PySem.W.Frag) (H : Hp) (st sc : Addr) (ns : List Int) : Prop where
  at_ : ∃ s0 p s3, H st = some (.lst (stL s0 p sc s3)) ∧ 0 ≤ p
  hsc : H sc = some (.lst (ns.map V.int))
  ne : sc ≠ st
theorem rd_upd {H : Hp} {a b : Addr} {o u : HO} (h : Rd H a u) (n : a ≠ b) : Rd (upd H b o) a u := by
  rcases h with h | ⟨x, h⟩
  · exact .inl (by rw [upd_ne n]; exact h)
  · exact .inr ⟨x, by rw [upd_ne n]; exact h⟩
theorem sql_upd {K : PySem.W.Frag} {H : Hp} {a b : Addr} {o : HO} {xs : List V} (h : SqL K H a xs) (n : a ≠ b) : SqL K (upd H b o) a xs := by
  rcases h with h | h
  · exact .inl (rd_upd h n)
  · exact .inr h
theorem sqt_upd {K : PySem.W.Frag} {H : Hp} {a b : Addr} {o : HO} {xs : List V} (h : SqT K H a xs) (n : a ≠ b) : SqT K (upd H b o) a xs := by
  rcases h with h | h
  · exact .inl (rd_upd h n)
  · exact .inr h
/-- a cut: what holds behind the first of two statements -/
theorem cut {t u : TS} {D : Ends} {σ : St} {H : Hp} (C : St → Hp → Prop) (h1 : ∀ nx : St → Hp → Prop, (∀ σ' H', C σ' H' → nx σ' H') → t { D with nx := nx } σ H) (h2 : ∀ σ' H', C σ' H' → u D σ' H') : tSeq t u D σ H := h1 (u D) h2
theorem seq_c {v : V} {i : Nat} {u : TS} {D : Ends} {σ : St} {H : Hp} (h : u D (σ.set i (some v)) H) : tSeq (tAsg (tC v) (gName i)) u D σ H := h
/-! rules whose reading names the written part itself: for a comprehension's block -/
def rLenQ (K : PySem.W.Frag) : List V → Hp → VK → Prop := fun xs H Q => ∃ (p : Addr) (ys : List V), xs = [.ref p] ∧ (SqL K H p ys ∨ SqT K H p ys) ∧ Q (.int (ys.length : Int)) H
theorem call_lenQ {X : Cx} {K : PySem.W.Frag} (h : X.K = K) : CallR X (.builtin "len") (rLenQ K) := by
  subst h
  exact call_len_seq
theorem ix_listQ {X : Cx} {K : PySem.W.Frag} (h : X.K = K) : IxR X (rIxL K) := by
  subst h
  exact ix_list
theorem ix_tupQ {X : Cx} {K : PySem.W.Frag} (h : X.K = K) : IxR X (rIxT K) := by
  subst h
  exact ix_tup
/-- a def of the top -/
structure Df (K : PySem.W.Frag) (mg : Str → Option Value) (nm : Str) (st : Stmt) (ps : List Str) (f : Addr) (fd : FuncData) : Prop where
  F : Fun K nm nm st f fd
  m : mg nm = some (.ref f)
  b : Binds K fd ps []
/-- all but what stands at st is kept -/
def Sv (st : Addr) (H H' : Hp) : Prop := ∀ a o, a ≠ st → H a = some o → H' a = some o
theorem Sv.refl (st : Addr) (H : Hp) : Sv st H H := fun _ _ _ e => e
theorem Sv.trans {st : Addr} {H H1 H2 : Hp} (a : Sv st H H1) (b : Sv st H1 H2) : Sv st H H2 := fun x o n e => b x o n (a x o n e)
theorem Sv.same {st : Addr} {H H' : Hp} (h : Same H H') : Sv st H H' := fun a o _ e => h a o e
theorem Sv.at_ {st : Addr} {H : Hp} {o : HO} : Sv st H (upd H st o) := fun a x n e => by rw [upd_ne n]; exact e
theorem Sv.new {st p : Addr} {H : Hp} {o : HO} (h : H p = none) : Sv st H (upd H p o) := fun a x _ e => by rw [upd_ne (ne_of_none e h)]; exact e
/-- what was free ahead may change -/
theorem Sv.mut {st p : Addr} {H H' : Hp} {o : HO} (e : Sv st H H') (h : H p = none) : Sv st H (upd H' p o) := fun a x n q => by rw [upd_ne (ne_of_none q h)]; exact e a x n q
theorem same_new {p : Addr} {H : Hp} {o : HO} (h : H p = none) : Same H (upd H p o) := fun a x e => by rw [upd_ne (ne_of_none e h)]; exact e
theorem same_mut {p : Addr} {H H' : Hp} {o : HO} (e : Same H H') (h : H p = none) : Same H (upd H' p o) := fun a x q => by rw [upd_ne (ne_of_none q h)]; exact e a x q
theorem tOr_pure {t u : TT} {x y : Bool} {σ : St} {H : Hp} {Q : Bool → Hp → Prop} (ht : ∀ Q : Bool → Hp → Prop, Q x H → t σ H Q) (hu : ∀ Q : Bool → Hp → Prop, Q y H → u σ H Q) (h : Q (x || y) H) : tOr t u σ H Q := by
  refine ht _ ?_
  cases x with
  | true => exact h
  | false => exact hu _ (by simpa using h)
theorem tAnd_pure {t u : TT} {x y : Bool} {σ : St} {H : Hp} {Q : Bool → Hp → Prop} (ht : ∀ Q : Bool → Hp → Prop, Q x H → t σ H Q) (hu : ∀ Q : Bool → Hp → Prop, Q y H → u σ H Q) (h : Q (x && y) H) : tAnd t u σ H Q := by
  refine ht _ ?_
  cases x with
  | true => exact hu _ (by simpa using h)
  | false => exact h
theorem none_of {H H' : Hp} {a : Addr} (s : Same H H') (h : H' a = none) : H a = none := by
  rcases e : H a with _ | o
  · rfl
  · rw [s _ _ e] at h; cases h
theorem _root_.L2.Same.rdS {H H' : Hp} (s : Same H H') {a : Addr} {u : HO} (h : Rd H a u) : Rd H' a u := by
  rcases h with h | ⟨x, h⟩
  · exact .inl (s _ _ h)
  · exact .inr ⟨x, s _ _ h⟩
theorem _root_.L2.Same.seqT {K : PySem.W.Frag} {H H' : Hp} (s : Same H H') {a : Addr} {xs : List V} (h : SqT K H a xs) : SqT K H' a xs := by
  rcases h with h | h
  · exact .inl (s.rdS h)
  · exact .inr h
theorem Sv.rd {st : Addr} {H H' : Hp} (s : Sv st H H') {a : Addr} {u : HO} (h : Rd H a u) (n : a ≠ st) : Rd H' a u := by
  rcases h with h | ⟨x, h⟩
  · exact .inl (s _ _ n h)
  · exact .inr ⟨x, s _ _ n h⟩
theorem Sv.sql {K : PySem.W.Frag} {st : Addr} {H H' : Hp} (s : Sv st H H') {a : Addr} {xs : List V} (h : SqL K H a xs) (n : a ≠ st) : SqL K H' a xs := by
  rcases h with h | h
  · exact .inl (s.rd h n)
  · exact .inr h
/-- the state behind, from what it is now -/
theorem StAt.to {K : PySem.W.Frag} {H H' : Hp} {st sc : Addr} {ns : List Int} (h : StAt K H st sc ns) (s : Sv st H H') {s0 p s3 : Int} (e : H' st = some (.lst (stL s0 p sc s3))) (hp : 0 ≤ p) : StAt K H' st sc ns :=
  ⟨⟨s0, p, s3, e, hp⟩, s _ _ h.ne h.hsc, h.ne⟩
theorem StAt.sv {K : PySem.W.Frag} {H H' : Hp} {st sc : Addr} {ns : List Int} (h : StAt K H st sc ns) (s : Same H H') : StAt K H' st sc ns := by
  obtain ⟨s0, p, s3, e, hp⟩ := h.at_
  exact h.to (Sv.same s) (s _ _ e) hp
theorem StAt.some {K : PySem.W.Frag} {H : Hp} {st sc : Addr} {ns : List Int} (h : StAt K H st sc ns) : ∃ l, H st = Option.some (.lst l) := by
  obtain ⟨s0, p, s3, e, hp⟩ := h.at_
  exact ⟨_, e⟩
/-- a list of ours, apart from the state, is written -/
theorem StAt.put {K : PySem.W.Frag} {H : Hp} {st sc p : Addr} {ns : List Int} {o : HO} {l : List V} (h : StAt K H st sc ns) (hp : H p = Option.some (.lst l)) (n : p ≠ st) (n2 : p ≠ sc) : StAt K (upd H p o) st sc ns := by
  obtain ⟨s0, q, s3, e, hq⟩ := h.at_
  exact ⟨⟨s0, q, s3, by rw [upd_ne n.symm]; exact e, hq⟩, by rw [upd_ne n2.symm]; exact h.hsc, h.ne⟩
/-- a line: one sign and the end -/
def Ln (x : Str) : Prop := ∃ c : Nat, c ≠ 10 ∧ c < 256 ∧ x.cps.toList = [c, 10]
def Lns (ls : List Str) : Prop := ∀ x ∈ ls, Ln x
/-- facts of the top -/
structure Txt0 (mg : Str → Option Value) : Prop where
  z_len : mg "len" = none
  z_int : mg "int" = none
  z_range : mg "range" = none
  z_tuple : mg "tuple" = none
  z_list : mg "list" = none
  z_min : mg "min" = none
  z_max : mg "max" = none
  z_enumerate : mg "enumerate" = none
end VK
end

section
set_option Elab.async false
set_option linter.all false
set_option maxRecDepth 100000
set_option maxHeartbeats 4000000
namespace VK
open PySem L2
abbrev s__law_draw : Stmt := topS 16
theorem sc__law_draw : FnScope ["state", "limit", "position", "cell", "mixed", "digit"] ["state", "limit"] (defScope s__law_draw) := ⟨rfl, rfl, rfl, by decide +kernel, rfl, by decide +kernel, by decide +kernel⟩
def spDraw (K : PySem.W.Frag) : Sp := fun vs H Q _ => ∃ (st sc : Addr) (ns : List Int) (lim : Int), vs = [.ref st, .int lim] ∧ StAt K H st sc ns ∧ 0 < lim ∧ lim < 1000000000 ∧
  ∀ (d s0 p s3 : Int), 0 ≤ d → d < lim → 0 ≤ p → Q (.int d) (upd H st (.lst (stL s0 p sc s3)))
theorem nz1 : (2147483629 : Int) ≠ 0 := by decide
theorem nz2 : (2147483647 : Int) ≠ 0 := by decide
theorem nz3 : (2147483587 : Int) ≠ 0 := by decide
section
variable {P : Program} {w : World} {K : PySem.W.Frag} {mg : Str → Option Value} {base : Heap}
theorem ok_draw {f : Addr} {fd : FuncData} (F : Fun K "_law_draw" "_law_draw" s__law_draw f fd) (T : Txt0 mg) : FnOk P w K mg base CX0 1 f fd ["state", "limit"] (spDraw K) := by
  refine F.ok sc__law_draw (fun vs H Q E h => ?_) (fun cdv A outer s H vs Q E hr h => ?_)
  · obtain ⟨st, sc, ns, lim, rfl, _⟩ := h
    rfl
  · obtain ⟨st, sc, ns, lim, rfl, ⟨⟨s0, p, s3, hst, hp⟩, hsc, hne⟩, hl, hl2, k⟩ := h
    refine ⟨_, (pss_cons (ps_if (pt_cmpR op_lt (pe_ix ix_list (pv 0) pe_int (fun _ _ => rfl)) (pv 1) (nomark _))
        (pss_cons (ps_set (i := 2) sc__law_draw.nd rfl (Or.inl rfl) (pe_ix ix_list (pv 0) pe_int (fun _ _ => rfl)))
        (pss_cons (ps_asg (pe_op op_add (pv 2) pe_int) (pg_sub (pv 0) pe_int set_list))
        (pss_cons (ps_set (i := 3) sc__law_draw.nd rfl (Or.inl rfl) pe_int)
        (pss_cons (ps_if (pt_cmpR op_lt (pv 2) (pe_callB call_len_seq (by rfl) T.z_len PySem.boot_len (pa_cons (pe_ix ix_list (pv 0) pe_int (fun _ _ => rfl)) pa_nil)) (nomark _))
          (pss_one (ps_set (i := 3) sc__law_draw.nd rfl (Or.inl rfl) (pe_ix ix_list (pe_ix ix_list (pv 0) pe_int (fun _ _ => rfl)) (pv 2) (fun _ _ => rfl))))
          pss_nil)
        (pss_one (ps_if (pt_cmpR op_ge (pv 3) (pe_op op_pow pe_int pe_int) (nomark _))
          (pss_one (ps_asg (pv 3) (pg_sub (pv 0) pe_int set_list)))
          (pss_cons (ps_asg (pe_op op_modN (pe_callTy call_int1 (by rfl) T.z_int (by decide +kernel) (pa_cons (pe_op op_mul (pe_op op_add (pe_op op_add (pe_op op_add (pe_ix ix_list (pv 0) pe_int (fun _ _ => rfl)) (pe_op op_modN (pe_callTy call_int1 (by rfl) T.z_int (by decide +kernel) (pa_cons (pv 3) pa_nil)) pe_int)) (pv 2)) pe_int) pe_int) pa_nil)) pe_int) (pg_sub (pv 0) pe_int set_list))
          (pss_cons (ps_set (i := 4) sc__law_draw.nd rfl (Or.inl rfl) (pe_op op_modN (pe_callTy call_int1 (by rfl) T.z_int (by decide +kernel) (pa_cons (pe_op op_add (pe_op op_mul (pe_ix ix_list (pv 0) pe_int (fun _ _ => rfl)) pe_int) pe_int) pa_nil)) pe_int))
          (pss_one (ps_asg (pe_op op_add (pe_op op_mul (pv 4) pe_int) (pe_op op_modN (pe_callTy call_int1 (by rfl) T.z_int (by decide +kernel) (pa_cons (pe_op op_add (pe_op op_mul (pv 4) pe_int) (pe_ix ix_list (pv 0) pe_int (fun _ _ => rfl))) pa_nil)) pe_int)) (pg_sub (pv 0) pe_int set_list)))))))))))
        pss_nil)
      (pss_cons (ps_set (i := 5) sc__law_draw.nd rfl (Or.inl rfl) (pe_op op_modN (pe_callTy call_int1 (by rfl) T.z_int (by decide +kernel) (pa_cons (pe_ix ix_list (pv 0) pe_int (fun _ _ => rfl)) pa_nil)) (pv 1)))
      (pss_cons (ps_asg (pe_op op_fdivN (pe_ix ix_list (pv 0) pe_int (fun _ _ => rfl)) (pv 1)) (pg_sub (pv 0) pe_int set_list))
      (pss_one (ps_ret (pv 5)))))), ?_⟩
    refine cut (fun σ' H' => ∃ (a b c : Option V) (t0 tp t3 : Int), 0 ≤ tp ∧ σ' = [some (.ref st), some (.int lim), a, b, c, none] ∧ H' = upd H st (.lst (stL t0 tp sc t3))) (fun nx hn => ?_) (fun σ' H' hC => ?_)
    · -- state[0] < limit
      refine ⟨_, rfl, _, _, _, _, rfl, rfl, SqL.of hst, rfl, _, rfl, _, _, rfl, rfl, _, rfl, ?_⟩
      refine ite2 (fun _ => ?_) (fun _ => hn _ _ ⟨none, none, none, s0, p, s3, hp, rfl, ?_⟩)
      · -- position = state[1]; state[1] = position + 1; cell = 0
        refine ⟨_, rfl, _, _, _, _, rfl, rfl, SqL.of hst, rfl, ?_⟩
        refine ⟨_, rfl, _, _, rfl, rfl, _, rfl, st, _, _, 1, rfl, rfl, hst, rfl, ?_⟩
        have h1 : upd H st (.lst (List.set (stL s0 p sc s3) 1 (.int (p + 1)))) = upd H st (.lst (stL s0 (p + 1) sc s3)) := rfl
        have hsc1 : SqL K (upd H st (.lst (stL s0 (p + 1) sc s3))) sc (ns.map V.int) := SqL.of (by rw [upd_ne hne]; exact hsc)
        obtain ⟨pn, rfl⟩ : ∃ pn : Nat, p = (pn : Int) := ⟨p.toNat, by omega⟩
        dsimp only
        refine seq_c ?_
        refine cut (fun σ' H' => ∃ (c : Int), σ' = [some (.ref st), some (.int lim), some (.int (pn : Int)), some (.int c), none, none] ∧ H' = upd H st (.lst (stL s0 ((pn : Int) + 1) sc s3))) (fun nx' hn' => ?_) (fun σ' H' hC => ?_)
        · refine ⟨_, rfl, _, rfl, _, _, _, _, rfl, rfl, SqL.of upd_same, rfl, sc, _, rfl, .inl hsc1, _, _, rfl, rfl, _, rfl, ?_⟩
          refine ite2 (fun e => ?_) (fun _ => hn' _ _ ⟨0, rfl, rfl⟩)
          have e' : pn < (ns.map V.int).length := by
            have q : ((pn : Int)) < (((ns.map V.int).length : Nat) : Int) := of_decide_eq_true e
            omega
          have e2 : (ns.map V.int)[pn]? = some (V.int (ns[pn]'(by simpa using e'))) := by simp at e'; simp [e']
          refine ⟨_, rfl, _, _, _, _, rfl, rfl, SqL.of upd_same, rfl, _, rfl, sc, _, _, _, rfl, rfl, hsc1, atI_nat e2, hn' _ _ ⟨_, rfl, rfl⟩⟩
        · obtain ⟨c, rfl, rfl⟩ := hC
          -- if cell >= 10 ** 18
          refine ⟨_, rfl, _, _, rfl, rfl, ⟨by decide, by decide, by decide⟩, _, _, rfl, rfl, _, rfl, ?_⟩
          refine ite2 (fun _ => ?_) (fun _ => ?_)
          · refine ⟨_, rfl, _, rfl, st, _, _, 0, rfl, rfl, upd_same, rfl, ?_⟩
            exact hn _ _ ⟨_, _, _, c, (pn : Int) + 1, s3, by omega, rfl, upd_upd⟩
          · -- state[3] = ..
            refine ⟨_, rfl, _, _, _, _, rfl, rfl, SqL.of upd_same, rfl, _, rfl, .inl ⟨_, rfl, _, _, rfl, rfl, nz1, _, _, rfl, rfl, _, rfl, _, _, rfl, rfl, _, _, rfl, rfl, _, _, rfl, rfl, .inr (by decide), .inl ⟨_, rfl, _, _, rfl, rfl, nz2, ?_⟩⟩⟩
            refine ⟨_, rfl, st, _, _, 3, rfl, rfl, upd_same, rfl, ?_⟩
            rw [upd_upd]
            -- mixed = ..
            refine ⟨_, rfl, _, _, _, _, rfl, rfl, SqL.of upd_same, rfl, _, _, rfl, rfl, .inr (by decide), _, _, rfl, rfl, .inl ⟨_, rfl, _, _, rfl, rfl, nz1, ?_⟩⟩
            -- state[0] = ..
            refine ⟨_, rfl, _, _, rfl, rfl, .inr (by decide), _, rfl, _, _, rfl, rfl, .inr (by decide), _, rfl, _, _, _, _, rfl, rfl, SqL.of upd_same, rfl, _, _, rfl, rfl, .inl ⟨_, rfl, _, _, rfl, rfl, nz3, _, _, rfl, rfl, ?_⟩⟩
            refine ⟨_, rfl, st, _, _, 0, rfl, rfl, upd_same, rfl, ?_⟩
            exact hn _ _ ⟨_, _, _, _, (pn : Int) + 1, _, by omega, rfl, upd_upd⟩
      · funext b
        by_cases hb : b = st
        · subst hb
          rw [upd_same, hst]
        · rw [upd_ne hb]
    · obtain ⟨a, b, c, t0, tp, t3, htp, rfl, rfl⟩ := hC
      -- digit = int(state[0]) % limit
      refine ⟨_, rfl, _, _, _, _, rfl, rfl, SqL.of upd_same, rfl, .inl ⟨_, rfl, _, rfl, _, _, rfl, rfl, ?_, ?_⟩⟩
      · show lim ≠ 0
        omega
      -- state[0] = state[0] // limit
      refine ⟨_, rfl, _, _, _, _, rfl, rfl, SqL.of upd_same, rfl, _, rfl, _, _, rfl, rfl, ⟨by omega, by omega⟩, _, rfl, st, _, _, 0, rfl, rfl, upd_same, rfl, ?_⟩
      refine ⟨_, rfl, ?_⟩
      rw [upd_upd]
      exact k _ _ tp t3 (by rw [Int.fmod_eq_emod_of_nonneg _ (by omega)]; exact Int.emod_nonneg _ (by omega)) (by rw [Int.fmod_eq_emod_of_nonneg _ (by omega)]; exact Int.emod_lt_of_pos _ hl) htp
end
end VK
end

section
set_option Elab.async false
set_option linter.all false
set_option maxRecDepth 100000
set_option maxHeartbeats 4000000
namespace VK
open PySem L2
abbrev s__law_lines : Stmt := topS 17
theorem sc__law_lines : FnScope ["state", "many", "k"] ["state", "many"] (defScope s__law_lines) := ⟨rfl, rfl, rfl, by decide +kernel, rfl, by decide +kernel, by decide +kernel⟩
theorem abcd_at {d : Int} (h0 : 0 ≤ d) (h1 : d < 4) : ∃ c : Nat, (c ≠ 10 ∧ c < 256) ∧ atI ("abcd" : Str).cps.toList d = some c := by
  have h : d = 0 ∨ d = 1 ∨ d = 2 ∨ d = 3 := by omega
  rcases h with rfl | rfl | rfl | rfl
  · exact ⟨97, ⟨by decide, by decide⟩, by decide +kernel⟩
  · exact ⟨98, ⟨by decide, by decide⟩, by decide +kernel⟩
  · exact ⟨99, ⟨by decide, by decide⟩, by decide +kernel⟩
  · exact ⟨100, ⟨by decide, by decide⟩, by decide +kernel⟩
theorem ln_mk (c : Nat) (h : c ≠ 10 ∧ c < 256) : Ln ((⟨#[c]⟩ : Str) ++ ("\n" : Str)) := ⟨c, h.1, h.2, by
  show ((#[c] : Array Nat) ++ #[10]).toList = [c, 10]
  simp⟩
def spLines (K : PySem.W.Frag) : Sp := fun vs H Q _ => ∃ (st sc : Addr) (ns : List Int) (many : Int), vs = [.ref st, .int many] ∧ StAt K H st sc ns ∧ 0 ≤ many ∧ many < 100 ∧
  ∀ (H' : Hp) (t : Addr) (ls : List Str), Sv st H H' → StAt K H' st sc ns → H' t = some (.tup (ls.map V.str)) → Lns ls → (ls.length : Int) ≤ many → Q (.ref t) H'
section
variable {P : Program} {w : World} {K : PySem.W.Frag} {mg : Str → Option Value} {base : Heap}
theorem ok_lines {f fD : Addr} {fd fdD : FuncData} (F : Fun K "_law_lines" "_law_lines" s__law_lines f fd) (T : Txt0 mg) (D : Df K mg "_law_draw" s__law_draw ["state", "limit"] fD fdD) : FnOk P w K mg base CX0 2 f fd ["state", "many"] (spLines K) := by
  have GD : FnOk P w K mg base CX0 1 fD fdD ["state", "limit"] (spDraw K) := ok_draw D.F T
  refine F.ok sc__law_lines (fun vs H Q E h => ?_) (fun cdv A outer s H vs Q E hr h => ?_)
  · obtain ⟨st, sc, ns, many, rfl, _⟩ := h
    rfl
  · obtain ⟨st, sc, ns, many, rfl, hS, hm0, hm1, k⟩ := h
    refine ⟨_, (pss_one (ps_ret (pe_callTy call_tuple_of (by rfl) T.z_tuple (by decide +kernel) (pa_cons (pe_lc (own := [("k", 2)]) (g := gName 2) (tt := tYes) rfl sc__law_lines.nd (pi_range1 (by rfl) T.z_range (pa_cons (pe_call GD hr rfl D.m D.F.kp D.b .nil pass0 (pa_cons (pv 0) (pa_cons (pe_op op_add (pv 1) pe_int) pa_nil))) pa_nil)) (blkOk_by (own := [("k", 2)]) (N := ["state", "many", "k"]) (sc := defScope s__law_lines) (by decide +kernel)) (fun _ _ _ _ _ => (pg_name (i := 2) sc__law_lines.nd rfl (Or.inl rfl))) (fun _ _ _ _ _ => pts_nil) (fun _ _ _ _ _ => (pe_op op_add_str (pe_ix ix_str pe_str (pe_call GD hr rfl D.m D.F.kp D.b .nil pass0 (pa_cons (pv 0) (pa_cons pe_int pa_nil))) (fun _ _ => rfl)) pe_str))) pa_nil)))), ?_⟩
    refine ⟨_, rfl, _, rfl, _, _, rfl, rfl, st, sc, ns, _, rfl, hS, by show (0 : Int) < many + 1; omega, by show many + 1 < (1000000000 : Int); omega, fun d s0 p s3 hd0 hd1 hp => ?_⟩
    have hd1 : d < many + 1 := hd1
    refine ⟨d, rfl, by omega, by omega, fun D hD => ?_⟩
    have S1 : StAt K (upd H st (.lst (stL s0 p sc s3))) st sc ns := hS.to Sv.at_ upd_same hp
    have nDst : D ≠ st := fun e => by rw [e, upd_same] at hD; cases hD
    have hD0 : H D = none := by rw [upd_ne nDst] at hD; exact hD
    refine lc_range (lo := 0) (n := d.toNat) (fun i H' => ∃ ls : List Str, H' D = some (.lst (ls.map V.str)) ∧ ls.length = i ∧ Lns ls ∧ Sv st H H' ∧ StAt K H' st sc ns) ⟨[], upd_same, rfl, (fun _ h => nomatch h), Sv.at_.trans (Sv.new hD), S1.sv (same_new hD)⟩ ?_ ?_
    · rintro i H' hi ⟨ls, hl, hn, hL, hv, hs⟩
      refine ⟨rfl, _, rfl, st, sc, ns, 4, rfl, hs, by decide, by decide, fun d2 t0 tp t3 h0 h4 hp2 => ?_⟩
      obtain ⟨c, hc, hat⟩ := abcd_at h0 h4
      refine ⟨_, d2, c, rfl, rfl, by decide +kernel, hat, _, _, rfl, rfl, (by show (1 : Nat) + 1 ≤ sizeLine; decide), ls.map V.str, ?_, ?_, ?_⟩
      · rw [upd_ne nDst]; exact hl
      · rw [List.length_map, hn]
        exact Nat.lt_of_lt_of_le (show i < 100 by omega) (by decide)
      · have hs2 : StAt K (upd H' st (.lst (stL t0 tp sc t3))) st sc ns := hs.to Sv.at_ upd_same hp2
        have hsD : sc ≠ D := ne_of_none hS.hsc hD0
        refine ⟨ls ++ [(⟨#[c]⟩ : Str) ++ ("\n" : Str)], ?_, ?_, ?_, ?_, ?_⟩
        · rw [upd_same, List.map_append]; rfl
        · rw [List.length_append, hn]; rfl
        · intro x hx
          rcases List.mem_append.mp hx with hx | hx
          · exact hL x hx
          · rw [List.mem_singleton.mp hx]; exact ln_mk c hc
        · exact (hv.trans Sv.at_).mut hD0
        · exact hs2.put (l := ls.map V.str) (by rw [upd_ne nDst]; exact hl) nDst hsD.symm
    · rintro H' ⟨ls, hl, hn, hL, hv, hs⟩
      refine ⟨D, _, rfl, .inl ⟨SqL.of hl, fun t ht => ?_⟩⟩
      exact k _ t ls (hv.trans (Sv.new ht)) (hs.sv (same_new ht)) upd_same hL (by omega)
end
end VK
end

section
set_option Elab.async false
set_option linter.all false
set_option maxRecDepth 100000
set_option maxHeartbeats 4000000
namespace VK
open PySem PySem.Spec PyProof.Rows L2
/-- X(), an own exception class without __init__ -/
theorem pmk_own0 {X : Cx} {C : Addr} {bmB : List Value} {B newId initId : String} {x : Str} {p pos : Pos}
    (F : ExcBaseFacts B newId initId bmB) (q : PySem.W.excIn X.K C bmB newId = true) (gC : X.mg x = some (.ref C))
    (kC : PySem.W.keepIn X.K (.ref C) = true) (r : Raises X (.ref C)) (hg : Gl X x)
    (hdb : (x == ("__debug__" : Str)) = false := by decide) : L2N.PMk X (.Call (.Name x p) [] [] pos) (fun _ H Q => Q (.ref C) none H) := by
  intro pins s σ H Q I h
  refine wpAny_Call_Name_kw (ld_glob I hg gC ?_ hdb)
  refine PySem.W.callWith_K0 I.kIn kC ?_
  show wpAny _ _ (call (.ref C) []) _ _ _
  obtain ⟨bm, N, nm, qn, bs, hdct, sn, sub, ab, col, dd, k0, k1, k2, k3, k5, mN, hC, hN, hni, T⟩ := exc_obj I.kIn q
  exact wpAny_call_exc_subT F T hC hN hni (fun h' e hm => L2N.mk_of I hm r h (I.hok.gone hm.new)) (Nat.zero_le _)
/-- nothing is wished of what is raised: it is shown not to be -/
theorem pass_no {P : Program} {w : World} {X : Cx} : Passes (L2N.CX P w) X (fun _ _ _ => False) := fun _ _ _ _ _ _ _ h => by
  obtain ⟨_, _, _, _, _, _, _, _, _, _, _, _, h⟩ := h
  exact h.elim
/-- in a def that may raise: what the callee raises is what this one raises -/
theorem pass_on {P : Program} {w : World} {X : Cx} {E : XK} (hP : X.prog = P) (hw : X.w = w) (tk : L2N.Takes X (fun cls d _ H => E cls d H)) : Passes (L2N.CX P w) X E := fun pins σ H s e s' I h => by
  subst hP hw
  exact L2N.passes_call tk (fun _ _ _ _ z => z) pins σ H s e s' I h
section
variable {P : Program} {w : World} {K : PySem.W.Frag} {mg : Str → Option Value} {base : Heap}
/-- as Fun.okX, for exceptions without a context -/
theorem okXN {x qual : Str} {st : Stmt} {f : Addr} {fd : FuncData} {N ps : List Str} {k : Nat} {sp : Sp} (F : Fun K x qual st f fd) (S : FnScope N ps (defScope st)) (len : ∀ vs H Q E, sp vs H Q E → vs.length = ps.length)
    (hbody : ∀ (cdv : Value) (A : Around) (outer : List Env) (s : Shared) (H : Hp) (vs : List V) (Q : VK) (E : XK), Room k (A.deeper (PyProof.Rows.envOfC qual (defScope st) s.heap.objs.size f cdv)) → sp vs H Q E →
      ∃ t, PSs (cxOf (L2N.CX P w) P w K mg base N qual (defScope st) f cdv A outer s H E) (defBody st) t ∧ t { nx := fun _ H' => Q .non H', rt := Q } (start N vs) H) : FnOk P w K mg base (L2N.CX P w) (k + 1) f fd ps sp := by
  obtain ⟨oc, od, kV, doc, pm, an, cdv, ct, osl, rfl, lk, hcd⟩ := F.ex
  exact fn_of lk hcd S len fun A outer s H vs Q E hr hsp => hbody cdv A outer s H vs Q E hr hsp
end
/-- the class TooLarge -/
structure TL (K : PySem.W.Frag) (mg : Str → Option Value) (C : Addr) : Prop where
  g : mg "TooLarge" = some (.ref C)
  x : PySem.W.excIn K C [.type "ValueError", .type "Exception", .type "BaseException", .type "object"] "ValueError.__new__" = true
  k : PySem.W.keepIn K (.ref C) = true
  s : PySem.W.subIn K (.ref C) (.type "BaseException") = some true
  t : PySem.W.typeIn K (.ref C) = some (.type "type")
end VK
end

section
set_option Elab.async false
set_option linter.all false
set_option maxRecDepth 100000
set_option maxHeartbeats 4000000
namespace VK
open PySem L2
/-! ### the length of a longest common row -/
def lcs : List Str → List Str → Nat
  | [], _ => 0
  | _ :: _, [] => 0
  | x :: xs, y :: ys => if x = y then lcs xs ys + 1 else max (lcs xs (y :: ys)) (lcs (x :: xs) ys)
termination_by xs ys => xs.length + ys.length
decreasing_by all_goals (simp_wf <;> omega)
theorem lcs_nil (ys : List Str) : lcs [] ys = 0 := by unfold lcs; rfl
theorem lcs_nil2 (xs : List Str) : lcs xs [] = 0 := by cases xs <;> (unfold lcs; rfl)
theorem lcs_cons (x y : Str) (xs ys : List Str) : lcs (x :: xs) (y :: ys) = if x = y then lcs xs ys + 1 else max (lcs xs (y :: ys)) (lcs (x :: xs) ys) := by
  rw [lcs]
/-- the table -/
def T (one two : List Str) (i j : Nat) : Nat := lcs (one.drop i) (two.drop j)
theorem T_end1 {one two : List Str} {i j : Nat} (h : one.length ≤ i) : T one two i j = 0 := by
  unfold T
  rw [List.drop_eq_nil_of_le h, lcs_nil]
theorem T_end2 {one two : List Str} {i j : Nat} (h : two.length ≤ j) : T one two i j = 0 := by
  unfold T
  rw [List.drop_eq_nil_of_le h, lcs_nil2]
theorem T_eq {one two : List Str} {i j : Nat} {x : Str} (h1 : one[i]? = some x) (h2 : two[j]? = some x) : T one two i j = T one two (i + 1) (j + 1) + 1 := by
  obtain ⟨a1, a2⟩ := List.getElem?_eq_some_iff.mp h1
  obtain ⟨b1, b2⟩ := List.getElem?_eq_some_iff.mp h2
  unfold T
  rw [List.drop_eq_getElem_cons a1, List.drop_eq_getElem_cons b1, lcs_cons, a2, b2, if_pos rfl]
theorem T_ne {one two : List Str} {i j : Nat} {x y : Str} (h1 : one[i]? = some x) (h2 : two[j]? = some y) (n : x ≠ y) : T one two i j = max (T one two (i + 1) j) (T one two i (j + 1)) := by
  obtain ⟨a1, a2⟩ := List.getElem?_eq_some_iff.mp h1
  obtain ⟨b1, b2⟩ := List.getElem?_eq_some_iff.mp h2
  unfold T
  rw [List.drop_eq_getElem_cons a1, List.drop_eq_getElem_cons b1, lcs_cons, a2, b2, if_neg n]
theorem lcs_le1 : ∀ (xs ys : List Str), lcs xs ys ≤ xs.length
  | [], ys => by rw [lcs_nil]; exact Nat.zero_le _
  | x :: xs, [] => by rw [lcs_nil2]; exact Nat.zero_le _
  | x :: xs, y :: ys => by
    rw [lcs_cons]
    have h1 := lcs_le1 xs ys
    have h2 := lcs_le1 xs (y :: ys)
    have h3 := lcs_le1 (x :: xs) ys
    simp only [List.length_cons] at h3 ⊢
    split <;> omega
termination_by xs ys => xs.length + ys.length
decreasing_by all_goals (simp_wf <;> omega)
/-! ### rows of ints in the heap -/
def rowL (m : Nat) (g : Nat → Int) : List V := (List.range (m + 1)).map fun j => V.int (g j)
theorem rowL_len (m : Nat) (g : Nat → Int) : (rowL m g).length = m + 1 := by unfold rowL; simp
theorem rowL_at {m : Nat} {g : Nat → Int} {k : Nat} (h : k ≤ m) : (rowL m g)[k]? = some (V.int (g k)) := by
  unfold rowL
  rw [List.getElem?_map, List.getElem?_range (by omega)]
  rfl
theorem rowL_set {m : Nat} {g : Nat → Int} {k : Nat} {v : Int} (h : k ≤ m) : (rowL m g).set k (V.int v) = rowL m fun j => if j = k then v else g j := by
  apply List.ext_getElem?
  intro i
  by_cases hi : i ≤ m
  · rw [rowL_at hi, List.getElem?_set]
    by_cases e : k = i
    · subst e
      simp [rowL_len, h, Nat.lt_succ_of_le h]
    · rw [if_neg e, rowL_at hi, if_neg (fun q => e q.symm)]
  · rw [List.getElem?_eq_none (by rw [List.length_set, rowL_len]; omega), List.getElem?_eq_none (by rw [rowL_len]; omega)]
/-- a list of lists of ints -/
structure Tb (H : Hp) (t : Addr) (as : List Addr) (m : Nat) (g : Nat → Nat → Int) : Prop where
  at_ : H t = some (.lst (as.map V.ref))
  row : ∀ (i : Nat) a, as[i]? = some a → H a = some (.lst (rowL m (g i)))
  nd : ∀ (i j : Nat) a, as[i]? = some a → as[j]? = some a → i = j
  nt : ∀ (i : Nat) a, as[i]? = some a → a ≠ t
theorem Tb.put {H : Hp} {t a : Addr} {as : List Addr} {m i k : Nat} {g : Nat → Nat → Int} {v : Int} (h : Tb H t as m g) (ha : as[i]? = some a) (hk : k ≤ m) :
    Tb (upd H a (.lst ((rowL m (g i)).set k (V.int v)))) t as m (fun i' j => if i' = i ∧ j = k then v else g i' j) where
  at_ := by rw [upd_ne (h.nt i a ha).symm]; exact h.at_
  row := fun i' b hb => by
    by_cases e : i' = i
    · subst e
      have q : b = a := Option.some.inj (hb.symm.trans ha)
      subst q
      rw [upd_same, rowL_set hk]
      have q2 : (fun j => if j = k then v else g i' j) = (fun j => if i' = i' ∧ j = k then v else g i' j) := by funext j; simp
      rw [q2]
    · have q : b ≠ a := fun z => e (h.nd i' i a (z ▸ hb) ha)
      rw [upd_ne q, h.row i' b hb]
      have q2 : (fun j => g i' j) = (fun j => if i' = i ∧ j = k then v else g i' j) := by funext j; simp [e]
      rw [← q2]
  nd := h.nd
  nt := h.nt
theorem Tb.same {H H' : Hp} {t : Addr} {as : List Addr} {m : Nat} {g : Nat → Nat → Int} (h : Tb H t as m g) (s : Same H H') : Tb H' t as m g :=
  ⟨s _ _ h.at_, fun i a e => s _ _ (h.row i a e), h.nd, h.nt⟩
/-- the table of two rows of lines stands at t -/
def TabOk (H : Hp) (t : Addr) (one two : List Str) : Prop :=
  ∃ as g, as.length = one.length + 1 ∧ Tb H t as two.length g ∧ ∀ i j, i ≤ one.length → j ≤ two.length → g i j = (T one two i j : Int)
theorem TabOk.same {H H' : Hp} {t : Addr} {one two : List Str} (h : TabOk H t one two) (s : Same H H') : TabOk H' t one two := by
  obtain ⟨as, g, h1, h2, h3⟩ := h
  exact ⟨as, g, h1, h2.same s, h3⟩
/-- an entry -/
theorem TabOk.get {H : Hp} {t : Addr} {one two : List Str} (h : TabOk H t one two) {i j : Nat} (hi : i ≤ one.length) (hj : j ≤ two.length) :
    ∃ as a row, H t = some (.lst as) ∧ as[i]? = some (V.ref a) ∧ H a = some (.lst row) ∧ row[j]? = some (V.int (T one two i j : Int)) := by
  obtain ⟨as, g, h1, h2, h3⟩ := h
  have hl : i < as.length := by omega
  have ha : as[i]? = some as[i] := List.getElem?_eq_getElem hl
  refine ⟨_, as[i], _, h2.at_, by rw [List.getElem?_map, ha]; rfl, h2.row i _ ha, ?_⟩
  rw [rowL_at hj, h3 i j hi hj]
/-- .. and its rows are new -/
def TabAt (H0 H : Hp) (t : Addr) (one two : List Str) : Prop :=
  ∃ as g, as.length = one.length + 1 ∧ Tb H t as two.length g ∧ (∀ i j, i ≤ one.length → j ≤ two.length → g i j = (T one two i j : Int)) ∧ H0 t = none ∧ ∀ (i : Nat) a, as[i]? = some a → H0 a = none
theorem TabAt.ok {H0 H : Hp} {t : Addr} {one two : List Str} (h : TabAt H0 H t one two) : TabOk H t one two := by
  obtain ⟨as, g, h1, h2, h3, h4, h5⟩ := h
  exact ⟨as, g, h1, h2, h3⟩
/-- what was there ahead is no part of it -/
theorem TabAt.sv {H0 H H' : Hp} {t fo : Addr} {o : HO} {one two : List Str} (h : TabAt H0 H t one two) (ho : H0 fo = some o) (s : Sv fo H H') : TabAt H0 H' t one two := by
  obtain ⟨as, g, h1, h2, h3, h4, h5⟩ := h
  have n1 : t ≠ fo := fun e => by rw [e, ho] at h4; cases h4
  have n2 : ∀ (i : Nat) a, as[i]? = some a → a ≠ fo := fun i a e z => by
    have := h5 i a e
    rw [z, ho] at this; cases this
  exact ⟨as, g, h1, ⟨s _ _ n1 h2.at_, fun i a e => s _ _ (n2 i a e) (h2.row i a e), h2.nd, h2.nt⟩, h3, h4, h5⟩
end VK
end

section
set_option Elab.async false
set_option linter.all false
set_option maxRecDepth 100000
set_option maxHeartbeats 4000000
namespace VK
open PySem L2
abbrev s_common_table : Stmt := topS 8
theorem sc_common_table : FnScope ["one", "two", "table", "first", "row", "below", "second", "_"] ["one", "two"] (defScope s_common_table) := ⟨rfl, rfl, rfl, by decide +kernel, rfl, by decide +kernel, by decide +kernel⟩
/-- rows of a table, new since H: fresh, unlike, apart from the table -/
structure Fr (H0 : Hp) (t : Addr) (as : List Addr) : Prop where
  t : H0 t = none
  row : ∀ (i : Nat) a, as[i]? = some a → H0 a = none
theorem rep_zero (m : Nat) : (List.replicate (((m : Int) + 1).toNat) [V.int 0]).flatten = rowL m fun _ => 0 := by
  have e : ((m : Int) + 1).toNat = m + 1 := by omega
  rw [e]
  unfold rowL
  generalize m + 1 = k
  induction k with
  | zero => rfl
  | succ k ih => rw [List.replicate_succ', List.flatten_append, ih, List.range_succ, List.map_append]; rfl
def spTable (K : PySem.W.Frag) (C : Addr) : Sp := fun vs H Q E => ∃ (a b : Addr) (one two : List Str), vs = [.ref a, .ref b] ∧ SqT K H a (one.map V.str) ∧ SqT K H b (two.map V.str) ∧ one.length ≤ 1000 ∧ two.length ≤ 1000 ∧
  (40000 < one.length * two.length → E (.ref C) none H) ∧ (one.length * two.length ≤ 40000 → ∀ (H' : Hp) (t : Addr), Same H H' → TabAt H H' t one two → Q (.ref t) H')
/-- the making of a table of zeros: what the comprehension keeps -/
structure Mk0 (H0 H : Hp) (D : Addr) (m i : Nat) (as : List Addr) : Prop where
  len : as.length = i
  at_ : H D = some (.lst (as.map V.ref))
  row : ∀ (k : Nat) a, as[k]? = some a → H a = some (.lst (rowL m fun _ => 0)) ∧ H0 a = none ∧ a ≠ D
  nd : ∀ (j k : Nat) a, as[j]? = some a → as[k]? = some a → j = k
  same : Same H0 H
theorem Mk0.more {H0 H : Hp} {D p q : Addr} {m i : Nat} {as : List Addr} {xs : List V} (h : Mk0 H0 H D m i as) (h0 : H0 D = none) (hp : H p = none) (hq : upd H p (.lst xs) q = none) :
    Mk0 H0 (upd (upd (upd H p (.lst xs)) q (.lst (rowL m fun _ => 0))) D (.lst ((as.map V.ref) ++ [V.ref q]))) D m (i + 1) (as ++ [q]) where
  len := by rw [List.length_append, h.len]; rfl
  at_ := by rw [upd_same, List.map_append]; rfl
  row := fun k a e => by
    have nqp : q ≠ p := fun z => by rw [z, upd_same] at hq; cases hq
    have hq' : H q = none := by rw [upd_ne nqp] at hq; exact hq
    have nqD : q ≠ D := (ne_of_none h.at_ hq').symm
    by_cases hk : k < as.length
    · rw [List.getElem?_append_left hk] at e
      obtain ⟨h1, h2, h3⟩ := h.row k a e
      refine ⟨?_, h2, h3⟩
      rw [upd_ne h3, upd_ne (ne_of_none h1 hq'), upd_ne (ne_of_none h1 hp)]
      exact h1
    · have hk2 : k = as.length := by
        have z := (List.getElem?_eq_some_iff.mp e).1
        rw [List.length_append] at z
        simp at z
        omega
      subst hk2
      rw [List.getElem?_append_right (Nat.le_refl _)] at e
      simp at e
      subst e
      refine ⟨by rw [upd_ne nqD, upd_same], h.same.free hq', nqD⟩
  nd := fun j k a e1 e2 => by
    have nqp : q ≠ p := fun z => by rw [z, upd_same] at hq; cases hq
    have hq' : H q = none := by rw [upd_ne nqp] at hq; exact hq
    have old : ∀ j a, as[j]? = some a → a ≠ q := fun j a e => ne_of_none (h.row j a e).1 hq'
    have lst : ∀ j a, (as ++ [q])[j]? = some a → as[j]? = some a ∨ (j = as.length ∧ a = q) := fun j a e => by
      by_cases hj : j < as.length
      · rw [List.getElem?_append_left hj] at e; exact .inl e
      · have z := (List.getElem?_eq_some_iff.mp e).1
        rw [List.length_append] at z
        simp at z
        have hj2 : j = as.length := by omega
        subst hj2
        rw [List.getElem?_append_right (Nat.le_refl _)] at e
        simp at e
        exact .inr ⟨rfl, e.symm⟩
    rcases lst j a e1 with x | ⟨x, y⟩
    · rcases lst k a e2 with x2 | ⟨x2, y2⟩
      · exact h.nd j k a x x2
      · exact absurd y2 (old j a x)
    · rcases lst k a e2 with x2 | ⟨x2, y2⟩
      · exact absurd y (old k a x2)
      · rw [x, x2]
  same := by
    refine fun b o e => ?_
    have e1 := h.same b o e
    have nbp : b ≠ p := ne_of_none e1 hp
    have e2 : upd H p (.lst xs) b = some o := by rw [upd_ne nbp]; exact e1
    have nbq : b ≠ q := ne_of_none e2 hq
    rw [upd_ne (ne_of_none e h0), upd_ne nbq]
    exact e2
section
variable {P : Program} {w : World} {K : PySem.W.Frag} {mg : Str → Option Value} {base : Heap}
theorem ok_table {f C : Addr} {fd : FuncData} (F : Fun K "common_table" "common_table" s_common_table f fd) (T0 : Txt0 mg) (L : TL K mg C) {tM : Tok} (hc : mg "MOST_PLACES" = some (.int 40000 tM)) : FnOk P w K mg base (L2N.CX P w) 1 f fd ["one", "two"] (spTable K C) := by
  refine okXN F sc_common_table (fun vs H Q E h => ?_) (fun cdv A outer s H vs Q E hr h => ?_)
  · obtain ⟨a, b, one, two, rfl, _⟩ := h
    rfl
  · obtain ⟨a, b, one, two, rfl, hA, hB, ha, hb, kE, k⟩ := h
    refine ⟨_, (pss_cons (ps_if (pt_cmpR op_gt (pe_op op_mul (pe_callB call_len_seq (by rfl) T0.z_len PySem.boot_len (pa_cons (pv 0) pa_nil)) (pe_callB call_len_seq (by rfl) T0.z_len PySem.boot_len (pa_cons (pv 1) pa_nil))) (pe_glob (v := .int 40000) rfl hc ⟨_, rfl⟩) (nomark _))
        (pss_one (L2N.ps_raise rfl (L2N.takes_of rfl rfl rfl rfl) (pmk_own0 PySem.F.excBase_ValueError L.x L.g L.k (raises_own L.s L.t) rfl)))
        pss_nil)
      (pss_cons (ps_setLc (i := 2) (own := [("_", 7)]) (g := gName 7) (tt := tYes) rfl sc_common_table.nd rfl rfl (sw_true rfl rfl rfl (by decide +kernel)) (pi_range1 (by rfl) T0.z_range (pa_cons (pe_op op_add (pe_callB call_len_seq (by rfl) T0.z_len PySem.boot_len (pa_cons (pv 0) pa_nil)) pe_int) pa_nil)) (blkOk_by (own := [("_", 7)]) (N := ["one", "two", "table", "first", "row", "below", "second", "_"]) (sc := defScope s_common_table) (by decide +kernel)) (fun _ _ _ _ _ => (pg_name (i := 7) sc_common_table.nd rfl (Or.inl rfl))) (fun _ _ _ _ _ => pts_nil) (fun _ _ _ _ _ => (pe_op op_rep (pe_lst (pa_cons pe_int pa_nil)) (pe_op op_add (pe_callB (call_lenQ (K := K) rfl) (by rfl) T0.z_len PySem.boot_len (pa_cons (pv 1) pa_nil)) pe_int))))
      (pss_cons (ps_for (passes_of rfl) rfl (pi_range3 (by rfl) T0.z_range (pa_cons (pe_op op_sub (pe_callB call_len_seq (by rfl) T0.z_len PySem.boot_len (pa_cons (pv 0) pa_nil)) pe_int) (pa_cons (pe_un un_neg pe_int) (pa_cons (pe_un un_neg pe_int) pa_nil)))) (pg_name (i := 3) sc_common_table.nd rfl (Or.inl rfl))
        (pss_cons (ps_par (i := 4) (j := 5) (by rfl) sc_common_table.nd rfl rfl (by decide) rfl rfl (pa_cons (pe_ix ix_list (pv 2) (pv 3) (fun _ _ => rfl)) (pa_cons (pe_ix ix_list (pv 2) (pe_op op_add (pv 3) pe_int) (fun _ _ => rfl)) pa_nil)) (by rfl))
        (pss_one (ps_for (passes_of rfl) rfl (pi_range3 (by rfl) T0.z_range (pa_cons (pe_op op_sub (pe_callB call_len_seq (by rfl) T0.z_len PySem.boot_len (pa_cons (pv 1) pa_nil)) pe_int) (pa_cons (pe_un un_neg pe_int) (pa_cons (pe_un un_neg pe_int) pa_nil)))) (pg_name (i := 6) sc_common_table.nd rfl (Or.inl rfl))
          (pss_one (ps_if (pt_cmpR op_eq (pe_ix ix_tup (pv 0) (pv 3) (fun _ _ => rfl)) (pe_ix ix_tup (pv 1) (pv 6) (fun _ _ => rfl)) (nomark _))
            (pss_one (ps_asg (pe_op op_add (pe_ix ix_list (pv 5) (pe_op op_add (pv 6) pe_int) (fun _ _ => rfl)) pe_int) (pg_sub (pv 4) (pv 6) set_list)))
            (pss_one (ps_asg (pe_callB (call_max2 rfl) (by rfl) T0.z_max (by decide +kernel) (pa_cons (pe_ix ix_list (pv 5) (pv 6) (fun _ _ => rfl)) (pa_cons (pe_ix ix_list (pv 4) (pe_op op_add (pv 6) pe_int) (fun _ _ => rfl)) pa_nil))) (pg_sub (pv 4) (pv 6) set_list)))))))))
      (pss_one (ps_ret (pv 2)))))), ?_⟩
    -- if len(one) * len(two) > MOST_PLACES
    refine ⟨_, rfl, a, _, rfl, .inr hA, _, rfl, b, _, rfl, .inr hB, _, _, rfl, rfl, .inl (by simp only [List.length_map]; omega), _, _, rfl, rfl, _, rfl, ?_⟩
    simp only [List.length_map]
    refine ite2 (fun e => kE ?_) (fun e => ?_)
    · have q : (40000 : Int) < (one.length : Int) * (two.length : Int) := of_decide_eq_true e
      have q2 : ((one.length * two.length : Nat) : Int) = (one.length : Int) * (two.length : Int) := Int.natCast_mul _ _
      omega
    have hle : one.length * two.length ≤ 40000 := by
      have q2 : ((one.length * two.length : Nat) : Int) = (one.length : Int) * (two.length : Int) := Int.natCast_mul _ _
      have q : ¬ (40000 : Int) < (one.length : Int) * (two.length : Int) := fun z => e (decide_eq_true z)
      omega
    have k := k hle
    -- table = [[0] * (len(two) + 1) for _ in range(len(one) + 1)]
    refine ⟨_, rfl, a, _, rfl, .inr hA, _, _, rfl, rfl, _, rfl, ?_, ?_, fun D hD => ?_⟩
    · simp only [List.length_map]; omega
    · simp only [List.length_map]; omega
    have en : ((one.map V.str).length : Int) + 1 = ((one.length + 1 : Nat) : Int) := by simp
    refine lc_range (lo := 0) (n := (((one.map V.str).length : Int) + 1).toNat) (fun i H' => ∃ as, Mk0 H H' D two.length i as) ⟨[], rfl, upd_same, (fun k a e => nomatch e), (fun j k a e => nomatch e), same_new hD⟩ ?_ ?_
    · rintro i H' hi ⟨as, M⟩
      refine ⟨rfl, by show 1 ≤ sizeLine; decide, fun p hp => ?_⟩
      have hB' : SqT K (upd H' p (.lst [V.int 0])) b (two.map V.str) := (M.same.trans (same_new hp)).seqT hB
      refine ⟨_, rfl, b, _, rfl, .inr hB', _, _, rfl, rfl, p, _, _, rfl, rfl, upd_same, ?_, ?_, ?_, fun q hq => ?_⟩
      · simp only [List.length_map]; omega
      · simp only [List.length_map]; omega
      · simp only [List.length_map, List.length_singleton]
        exact Nat.le_trans (show 1 * ((two.length : Int) + 1).toNat ≤ 1001 by omega) (by decide)
      · have e0 : (List.replicate (((two.map V.str).length : Int) + 1).toNat [V.int 0]).flatten = rowL two.length fun _ => 0 := by
          rw [List.length_map]
          exact rep_zero two.length
        have nD : D ≠ p := ne_of_none M.at_ hp
        have e1 : upd H' p (.lst [V.int 0]) D = some (.lst (as.map V.ref)) := by rw [upd_ne nD]; exact M.at_
        have nDq : D ≠ q := ne_of_none e1 hq
        refine ⟨as.map V.ref, by rw [upd_ne nDq]; exact e1, ?_, as ++ [q], ?_⟩
        · rw [List.length_map, M.len]
          have hi' : i < one.length + 1 := by rw [en] at hi; simpa using hi
          exact Nat.lt_of_lt_of_le (show i < 2000 by omega) (by decide)
        · have e2 : (fun i j => V.int (i + j)) ((two.map V.str).length : Int) 1 = V.int (((two.map V.str).length : Int) + 1) := rfl
          rw [e0]
          exact M.more hD hp hq
    · rintro H1 ⟨as, M⟩
      have hlen : as.length = one.length + 1 := by rw [M.len, en]; simp
      have tb0 : Tb H1 D as two.length fun _ _ => 0 := ⟨M.at_, fun i a e => (M.row i a e).1, M.nd, fun i a e => (M.row i a e).2.2⟩
      have fr : ∀ (i : Nat) a, as[i]? = some a → H a = none := fun i a e => (M.row i a e).2.1
      -- for first in range(len(one) - 1, -1, -1)
      have hA1 : SqT K H1 a (one.map V.str) := M.same.seqT hA
      refine ⟨_, rfl, a, _, rfl, .inr hA1, _, _, rfl, rfl, _, rfl, _, rfl, (one.length : Int) - 1, -1, -1, one.length, ?_, ?_, ?_⟩
      · simp only [List.length_map]
      · have q := RgC.neg (i := (one.length : Int) - 1) (j := -1) (by omega) (by omega) (by omega) (by omega)
        have e : ((one.length : Int) - 1 - -1).toNat = one.length := by omega
        rw [e] at q
        exact q
      refine for_it walk_rangeC (fun i σ H' => ∃ (g : Nat → Nat → Int) (x3 x4 x5 x6 : Option V), σ = [some (.ref a), some (.ref b), some (.ref D), x3, x4, x5, x6, none] ∧ Tb H' D as two.length g ∧ Same H H' ∧
          ∀ r j, r ≤ one.length → j ≤ two.length → g r j = if one.length - i ≤ r then (T one two r j : Int) else 0) ?_ (fun _ _ _ _ _ => trivial) ?_ ?_
      · refine ⟨fun _ _ => 0, none, none, none, none, rfl, tb0, M.same, fun r j hr hj => ?_⟩
        by_cases e : one.length - 0 ≤ r
        · rw [if_pos e, T_end1 (by omega)]; rfl
        · rw [if_neg e]
      · rintro i x σ H2o H2 hi ⟨g, x3, x4, x5, x6, rfl, tb, sm, hg⟩ ⟨rfl, hx⟩
        obtain ⟨r, hr⟩ : ∃ r : Nat, r = one.length - 1 - i := ⟨_, rfl⟩
        have er : ((one.length : Int) - 1 + (i : Nat) * -1) = (r : Int) := by omega
        obtain rfl : x = V.int (r : Int) := hx.trans (congrArg V.int er)
        have l1 : r < as.length := by omega
        have l2 : r + 1 < as.length := by omega
        have r1 : as[r]? = some as[r] := List.getElem?_eq_getElem l1
        have r2 : as[r + 1]? = some as[r + 1] := List.getElem?_eq_getElem l2
        have q1 : (as.map V.ref)[r]? = some (V.ref as[r]) := by rw [List.getElem?_map, r1]; rfl
        have q2 : (as.map V.ref)[r + 1]? = some (V.ref as[r + 1]) := by rw [List.getElem?_map, r2]; rfl
        -- row, below = (table[first], table[first + 1])
        refine ⟨_, rfl, _, rfl, D, _, _, _, rfl, rfl, SqL.of tb.at_, atI_nat q1, _, rfl, _, rfl, _, _, rfl, rfl, D, _, _, _, rfl, rfl, SqL.of tb.at_, atI_nat (j := r + 1) q2, _, _, rfl, ?_⟩
        -- for second in range(len(two) - 1, -1, -1)
        have hB1 : SqT K H2 b (two.map V.str) := sm.seqT hB
        refine ⟨_, rfl, b, _, rfl, .inr hB1, _, _, rfl, rfl, _, rfl, _, rfl, (two.length : Int) - 1, -1, -1, two.length, ?_, ?_, ?_⟩
        · simp only [List.length_map]
        · have q := RgC.neg (i := (two.length : Int) - 1) (j := -1) (by omega) (by omega) (by omega) (by omega)
          have e : ((two.length : Int) - 1 - -1).toNat = two.length := by omega
          rw [e] at q
          exact q
        refine for_it walk_rangeC (fun t σ H3 => ∃ (g' : Nat → Nat → Int) (y6 : Option V), σ = [some (.ref a), some (.ref b), some (.ref D), some (.int (r : Int)), some (.ref as[r]), some (.ref as[r + 1]), y6, none] ∧ Tb H3 D as two.length g' ∧ Same H H3 ∧
            ∀ r' j, r' ≤ one.length → j ≤ two.length → g' r' j = if r + 1 ≤ r' then (T one two r' j : Int) else if r' = r ∧ two.length - t ≤ j then (T one two r j : Int) else 0) ?_ (fun _ _ _ _ _ => trivial) ?_ ?_
        · refine ⟨g, x6, rfl, tb, sm, fun r' j h1 h2 => ?_⟩
          rw [hg r' j h1 h2]
          by_cases e : r + 1 ≤ r'
          · rw [if_pos e, if_pos (by omega)]
          · rw [if_neg e, if_neg (by omega)]
            by_cases e2 : r' = r ∧ two.length - 0 ≤ j
            · rw [if_pos e2, T_end2 (by omega)]; rfl
            · rw [if_neg e2]
        · rintro t x σ H3o H3 ht ⟨g', y6, rfl, tb', sm', hg'⟩ ⟨rfl, hx⟩
          obtain ⟨s, hs⟩ : ∃ s : Nat, s = two.length - 1 - t := ⟨_, rfl⟩
          have es : ((two.length : Int) - 1 + (t : Nat) * -1) = (s : Int) := by omega
          obtain rfl : x = V.int (s : Int) := hx.trans (congrArg V.int es)
          have hA2 : SqT K H3 a (one.map V.str) := sm'.seqT hA
          have hB2 : SqT K H3 b (two.map V.str) := sm'.seqT hB
          have o1 : r < one.length := by omega
          have o2 : s < two.length := by omega
          have n1 : one[r]? = some one[r] := List.getElem?_eq_getElem o1
          have n2 : two[s]? = some two[s] := List.getElem?_eq_getElem o2
          have m1 : (one.map V.str)[r]? = some (V.str one[r]) := by rw [List.getElem?_map, n1]; rfl
          have m2 : (two.map V.str)[s]? = some (V.str two[s]) := by rw [List.getElem?_map, n2]; rfl
          have w1 := tb'.row r _ r1
          have w2 := tb'.row (r + 1) _ r2
          have v1 : (rowL two.length (g' (r + 1)))[s + 1]? = some (V.int (T one two (r + 1) (s + 1) : Int)) := by
            rw [rowL_at (by omega), hg' (r + 1) (s + 1) (by omega) (by omega), if_pos (Nat.le_refl _)]
          have v2 : (rowL two.length (g' (r + 1)))[s]? = some (V.int (T one two (r + 1) s : Int)) := by
            rw [rowL_at (by omega), hg' (r + 1) s (by omega) (by omega), if_pos (Nat.le_refl _)]
          have v3 : (rowL two.length (g' r))[s + 1]? = some (V.int (T one two r (s + 1) : Int)) := by
            rw [rowL_at (by omega), hg' r (s + 1) (by omega) (by omega), if_neg (by omega), if_pos ⟨rfl, by omega⟩]
          have ixs : ixN (rowL two.length (g' r)).length (s : Int) = some s := by
            rw [rowL_len]
            unfold ixN
            rw [if_pos (by omega), if_pos (by omega)]
            rfl
          have fin : ∀ v : Int, v = (T one two r s : Int) → ∃ (gg : Nat → Nat → Int) (y6 : Option V), [some (V.ref a), some (.ref b), some (.ref D), some (.int (r : Int)), some (.ref as[r]), some (.ref as[r + 1]), some (.int (s : Int)), none] = [some (V.ref a), some (.ref b), some (.ref D), some (.int (r : Int)), some (.ref as[r]), some (.ref as[r + 1]), y6, none] ∧
              Tb (upd H3 as[r] (.lst ((rowL two.length (g' r)).set s (V.int v)))) D as two.length gg ∧ Same H (upd H3 as[r] (.lst ((rowL two.length (g' r)).set s (V.int v)))) ∧
            ∀ r' j, r' ≤ one.length → j ≤ two.length → gg r' j = if r + 1 ≤ r' then (T one two r' j : Int) else if r' = r ∧ two.length - (t + 1) ≤ j then (T one two r j : Int) else 0 := by
            intro v hv
            refine ⟨_, some (.int (s : Int)), rfl, tb'.put r1 (show s ≤ two.length by omega), same_mut sm' (fr r _ r1), fun r' j h1 h2 => ?_⟩
            by_cases e : r' = r ∧ j = s
            · obtain ⟨e1, e2⟩ := e
              subst e1 e2
              rw [if_pos ⟨rfl, rfl⟩, if_neg (by omega), if_pos ⟨rfl, by omega⟩, hv]
            · rw [if_neg e, hg' r' j h1 h2]
              by_cases e3 : r + 1 ≤ r'
              · rw [if_pos e3, if_pos e3]
              · rw [if_neg e3, if_neg e3]
                by_cases e4 : r' = r
                · by_cases e5 : two.length - t ≤ j
                  · rw [if_pos ⟨e4, e5⟩, if_pos ⟨e4, by omega⟩]
                  · have e6 : j ≠ s := fun z => e ⟨e4, z⟩
                    rw [if_neg (fun z => e5 z.2), if_neg (fun z => by have := z.2; omega)]
                · rw [if_neg (fun z => e4 z.1), if_neg (fun z => e4 z.1)]
          refine ⟨_, rfl, _, rfl, a, _, _, _, rfl, rfl, hA2, atI_nat m1, _, rfl, _, rfl, b, _, _, _, rfl, rfl, hB2, atI_nat m2, rfl, _, rfl, ?_⟩
          refine ite2 (fun e => ?_) (fun e => ?_)
          · have e' : one[r] = two[s] := V.str.inj (of_decide_eq_true e)
            refine ⟨_, rfl, _, rfl, _, _, rfl, rfl, _, _, _, _, rfl, rfl, SqL.of w2, atI_nat (j := s + 1) v1, _, _, rfl, rfl, _, rfl, _, rfl, _, _, _, s, rfl, rfl, w1, ixs, ?_⟩
            refine fin _ ?_
            rw [T_eq n1 (e' ▸ n2)]
            omega
          · have e' : one[r] ≠ two[s] := fun z => e (decide_eq_true (congrArg V.str z))
            refine ⟨_, rfl, _, rfl, _, _, _, _, rfl, rfl, SqL.of w2, atI_nat (j := s) v2, _, rfl, _, rfl, _, _, rfl, rfl, _, _, _, _, rfl, rfl, SqL.of w1, atI_nat (j := s + 1) v3, _, _, rfl, _, rfl, _, rfl, _, _, _, s, rfl, rfl, w1, ixs, ?_⟩
            refine fin _ ?_
            rw [T_ne n1 n2 e']
            split <;> omega
        · rintro σ H3 ⟨g', y6, rfl, tb', sm', hg'⟩
          refine ⟨g', _, _, _, y6, rfl, tb', sm', fun r' j h1 h2 => ?_⟩
          rw [hg' r' j h1 h2]
          by_cases e : r + 1 ≤ r'
          · rw [if_pos e, if_pos (by omega)]
          · rw [if_neg e]
            by_cases e2 : r' = r
            · subst e2
              rw [if_pos ⟨rfl, by omega⟩, if_pos (by omega)]
            · rw [if_neg (fun z => e2 z.1), if_neg (by omega)]
      · rintro σ H2 ⟨g, x3, x4, x5, x6, rfl, tb, sm, hg⟩
        refine ⟨_, rfl, k H2 D sm ⟨as, g, hlen, tb, fun i j h1 h2 => ?_, hD, fr⟩⟩
        rw [hg i j h1 h2, if_pos (by omega)]
end
end VK
end

section
set_option Elab.async false
set_option linter.all false
set_option maxRecDepth 100000
set_option maxHeartbeats 4000000
namespace VK
open PySem L2
abbrev s__law_table : Stmt := topS 18
theorem sc__law_table : FnScope ["one", "two", "table", "i", "j", "k"] ["one", "two"] (defScope s__law_table) := ⟨rfl, rfl, rfl, by decide +kernel, rfl, by decide +kernel, by decide +kernel⟩
def spLTable (K : PySem.W.Frag) : Sp := fun vs H Q _ => ∃ (a b : Addr) (one two : List Str), vs = [.ref a, .ref b] ∧ SqT K H a (one.map V.str) ∧ SqT K H b (two.map V.str) ∧ one.length ≤ 1000 ∧ two.length ≤ 1000 ∧
  ∀ (H' : Hp) (t : Addr), Same H H' → H t = none → TabOk H' t one two → Q (.ref t) H'
section
variable {P : Program} {w : World} {K : PySem.W.Frag} {mg : Str → Option Value} {base : Heap}
theorem ok_ltable {f : Addr} {fd : FuncData} (F : Fun K "_law_table" "_law_table" s__law_table f fd) (T0 : Txt0 mg) : FnOk P w K mg base CX0 1 f fd ["one", "two"] (spLTable K) := by
  refine F.ok sc__law_table (fun vs H Q E h => ?_) (fun cdv A outer s H vs Q E hr h => ?_)
  · obtain ⟨a, b, one, two, rfl, _⟩ := h
    rfl
  · obtain ⟨a, b, one, two, rfl, hA, hB, ha, hb, k⟩ := h
    refine ⟨_, (pss_cons (ps_setLc (i := 2) (own := [("k", 5)]) (g := gName 5) (tt := tYes) rfl sc__law_table.nd rfl rfl (sw_true rfl rfl rfl (by decide +kernel)) (pi_range1 (by rfl) T0.z_range (pa_cons (pe_op op_add (pe_callB call_len_seq (by rfl) T0.z_len PySem.boot_len (pa_cons (pv 0) pa_nil)) pe_int) pa_nil)) (blkOk_by (own := [("k", 5)]) (N := ["one", "two", "table", "i", "j", "k"]) (sc := defScope s__law_table) (by decide +kernel)) (fun _ _ _ _ _ => (pg_name (i := 5) sc__law_table.nd rfl (Or.inl rfl))) (fun _ _ _ _ _ => pts_nil) (fun _ _ _ _ _ => (pe_op op_rep (pe_lst (pa_cons pe_int pa_nil)) (pe_op op_add (pe_callB (call_lenQ (K := K) rfl) (by rfl) T0.z_len PySem.boot_len (pa_cons (pv 1) pa_nil)) pe_int))))
      (pss_cons (ps_for PassesOwn.never rfl (pi_range3 (by rfl) T0.z_range (pa_cons (pe_op op_sub (pe_callB call_len_seq (by rfl) T0.z_len PySem.boot_len (pa_cons (pv 0) pa_nil)) pe_int) (pa_cons (pe_op op_sub pe_int pe_int) (pa_cons (pe_op op_sub pe_int pe_int) pa_nil)))) (pg_name (i := 3) sc__law_table.nd rfl (Or.inl rfl))
        (pss_one (ps_for PassesOwn.never rfl (pi_range3 (by rfl) T0.z_range (pa_cons (pe_op op_sub (pe_callB call_len_seq (by rfl) T0.z_len PySem.boot_len (pa_cons (pv 1) pa_nil)) pe_int) (pa_cons (pe_op op_sub pe_int pe_int) (pa_cons (pe_op op_sub pe_int pe_int) pa_nil)))) (pg_name (i := 4) sc__law_table.nd rfl (Or.inl rfl))
          (pss_one (ps_asg (pe_ifExp (pt_cmpR op_eq (pe_ix ix_tup (pv 0) (pv 3) (fun _ _ => rfl)) (pe_ix ix_tup (pv 1) (pv 4) (fun _ _ => rfl)) (nomark _)) (pe_op op_add (pe_ix ix_list (pe_ix ix_list (pv 2) (pe_op op_add (pv 3) pe_int) (fun _ _ => rfl)) (pe_op op_add (pv 4) pe_int) (fun _ _ => rfl)) pe_int) (pe_callB (call_max2 rfl) (by rfl) T0.z_max (by decide +kernel) (pa_cons (pe_ix ix_list (pe_ix ix_list (pv 2) (pe_op op_add (pv 3) pe_int) (fun _ _ => rfl)) (pv 4) (fun _ _ => rfl)) (pa_cons (pe_ix ix_list (pe_ix ix_list (pv 2) (pv 3) (fun _ _ => rfl)) (pe_op op_add (pv 4) pe_int) (fun _ _ => rfl)) pa_nil)))) (pg_sub (pe_ix ix_list (pv 2) (pv 3) (fun _ _ => rfl)) (pv 4) set_list))))))
      (pss_one (ps_ret (pv 2))))), ?_⟩
    -- table = [[0] * (len(two) + 1) for _ in range(len(one) + 1)]
    refine ⟨_, rfl, a, _, rfl, .inr hA, _, _, rfl, rfl, _, rfl, ?_, ?_, fun D hD => ?_⟩
    · simp only [List.length_map]; omega
    · simp only [List.length_map]; omega
    have en : ((one.map V.str).length : Int) + 1 = ((one.length + 1 : Nat) : Int) := by simp
    refine lc_range (lo := 0) (n := (((one.map V.str).length : Int) + 1).toNat) (fun i H' => ∃ as, Mk0 H H' D two.length i as) ⟨[], rfl, upd_same, (fun k a e => nomatch e), (fun j k a e => nomatch e), same_new hD⟩ ?_ ?_
    · rintro i H' hi ⟨as, M⟩
      refine ⟨rfl, by show 1 ≤ sizeLine; decide, fun p hp => ?_⟩
      have hB' : SqT K (upd H' p (.lst [V.int 0])) b (two.map V.str) := (M.same.trans (same_new hp)).seqT hB
      refine ⟨_, rfl, b, _, rfl, .inr hB', _, _, rfl, rfl, p, _, _, rfl, rfl, upd_same, ?_, ?_, ?_, fun q hq => ?_⟩
      · simp only [List.length_map]; omega
      · simp only [List.length_map]; omega
      · simp only [List.length_map, List.length_singleton]
        exact Nat.le_trans (show 1 * ((two.length : Int) + 1).toNat ≤ 1001 by omega) (by decide)
      · have e0 : (List.replicate (((two.map V.str).length : Int) + 1).toNat [V.int 0]).flatten = rowL two.length fun _ => 0 := by
          rw [List.length_map]
          exact rep_zero two.length
        have nD : D ≠ p := ne_of_none M.at_ hp
        have e1 : upd H' p (.lst [V.int 0]) D = some (.lst (as.map V.ref)) := by rw [upd_ne nD]; exact M.at_
        have nDq : D ≠ q := ne_of_none e1 hq
        refine ⟨as.map V.ref, by rw [upd_ne nDq]; exact e1, ?_, as ++ [q], ?_⟩
        · rw [List.length_map, M.len]
          have hi' : i < one.length + 1 := by rw [en] at hi; simpa using hi
          exact Nat.lt_of_lt_of_le (show i < 2000 by omega) (by decide)
        · have e2 : (fun i j => V.int (i + j)) ((two.map V.str).length : Int) 1 = V.int (((two.map V.str).length : Int) + 1) := rfl
          rw [e0]
          exact M.more hD hp hq
    · rintro H1 ⟨as, M⟩
      have hlen : as.length = one.length + 1 := by rw [M.len, en]; simp
      have tb0 : Tb H1 D as two.length fun _ _ => 0 := ⟨M.at_, fun i a e => (M.row i a e).1, M.nd, fun i a e => (M.row i a e).2.2⟩
      have fr : ∀ (i : Nat) a, as[i]? = some a → H a = none := fun i a e => (M.row i a e).2.1
      -- for first in range(len(one) - 1, -1, -1)
      have hA1 : SqT K H1 a (one.map V.str) := M.same.seqT hA
      refine ⟨_, rfl, a, _, rfl, .inr hA1, _, _, rfl, rfl, _, _, rfl, rfl, _, _, rfl, rfl, (one.length : Int) - 1, -1, -1, one.length, ?_, ?_, ?_⟩
      · simp only [List.length_map]; rfl
      · have q := RgC.neg (i := (one.length : Int) - 1) (j := -1) (by omega) (by omega) (by omega) (by omega)
        have e : ((one.length : Int) - 1 - -1).toNat = one.length := by omega
        rw [e] at q
        exact q
      refine for_it walk_rangeC (fun i σ H' => ∃ (g : Nat → Nat → Int) (x3 x4 : Option V), σ = [some (.ref a), some (.ref b), some (.ref D), x3, x4, none] ∧ Tb H' D as two.length g ∧ Same H H' ∧
          ∀ r j, r ≤ one.length → j ≤ two.length → g r j = if one.length - i ≤ r then (T one two r j : Int) else 0) ?_ (fun _ _ _ _ _ => trivial) ?_ ?_
      · refine ⟨fun _ _ => 0, none, none, rfl, tb0, M.same, fun r j hr hj => ?_⟩
        by_cases e : one.length - 0 ≤ r
        · rw [if_pos e, T_end1 (by omega)]; rfl
        · rw [if_neg e]
      · rintro i x σ H2o H2 hi ⟨g, x3, x4, rfl, tb, sm, hg⟩ ⟨rfl, hx⟩
        obtain ⟨r, hr⟩ : ∃ r : Nat, r = one.length - 1 - i := ⟨_, rfl⟩
        have er : ((one.length : Int) - 1 + (i : Nat) * -1) = (r : Int) := by omega
        obtain rfl : x = V.int (r : Int) := hx.trans (congrArg V.int er)
        have l1 : r < as.length := by omega
        have l2 : r + 1 < as.length := by omega
        have r1 : as[r]? = some as[r] := List.getElem?_eq_getElem l1
        have r2 : as[r + 1]? = some as[r + 1] := List.getElem?_eq_getElem l2
        have q1 : (as.map V.ref)[r]? = some (V.ref as[r]) := by rw [List.getElem?_map, r1]; rfl
        have q2 : (as.map V.ref)[r + 1]? = some (V.ref as[r + 1]) := by rw [List.getElem?_map, r2]; rfl
        -- for second in range(len(two) - 1, -1, -1)
        have hB1 : SqT K H2 b (two.map V.str) := sm.seqT hB
        refine ⟨_, rfl, b, _, rfl, .inr hB1, _, _, rfl, rfl, _, _, rfl, rfl, _, _, rfl, rfl, (two.length : Int) - 1, -1, -1, two.length, ?_, ?_, ?_⟩
        · simp only [List.length_map]; rfl
        · have q := RgC.neg (i := (two.length : Int) - 1) (j := -1) (by omega) (by omega) (by omega) (by omega)
          have e : ((two.length : Int) - 1 - -1).toNat = two.length := by omega
          rw [e] at q
          exact q
        refine for_it walk_rangeC (fun t σ H3 => ∃ (g' : Nat → Nat → Int) (y6 : Option V), σ = [some (.ref a), some (.ref b), some (.ref D), some (.int (r : Int)), y6, none] ∧ Tb H3 D as two.length g' ∧ Same H H3 ∧
            ∀ r' j, r' ≤ one.length → j ≤ two.length → g' r' j = if r + 1 ≤ r' then (T one two r' j : Int) else if r' = r ∧ two.length - t ≤ j then (T one two r j : Int) else 0) ?_ (fun _ _ _ _ _ => trivial) ?_ ?_
        · refine ⟨g, x4, rfl, tb, sm, fun r' j h1 h2 => ?_⟩
          rw [hg r' j h1 h2]
          by_cases e : r + 1 ≤ r'
          · rw [if_pos e, if_pos (by omega)]
          · rw [if_neg e, if_neg (by omega)]
            by_cases e2 : r' = r ∧ two.length - 0 ≤ j
            · rw [if_pos e2, T_end2 (by omega)]; rfl
            · rw [if_neg e2]
        · rintro t x σ H3o H3 ht ⟨g', y6, rfl, tb', sm', hg'⟩ ⟨rfl, hx⟩
          obtain ⟨s, hs⟩ : ∃ s : Nat, s = two.length - 1 - t := ⟨_, rfl⟩
          have es : ((two.length : Int) - 1 + (t : Nat) * -1) = (s : Int) := by omega
          obtain rfl : x = V.int (s : Int) := hx.trans (congrArg V.int es)
          have hA2 : SqT K H3 a (one.map V.str) := sm'.seqT hA
          have hB2 : SqT K H3 b (two.map V.str) := sm'.seqT hB
          have o1 : r < one.length := by omega
          have o2 : s < two.length := by omega
          have n1 : one[r]? = some one[r] := List.getElem?_eq_getElem o1
          have n2 : two[s]? = some two[s] := List.getElem?_eq_getElem o2
          have m1 : (one.map V.str)[r]? = some (V.str one[r]) := by rw [List.getElem?_map, n1]; rfl
          have m2 : (two.map V.str)[s]? = some (V.str two[s]) := by rw [List.getElem?_map, n2]; rfl
          have w1 := tb'.row r _ r1
          have w2 := tb'.row (r + 1) _ r2
          have v1 : (rowL two.length (g' (r + 1)))[s + 1]? = some (V.int (T one two (r + 1) (s + 1) : Int)) := by
            rw [rowL_at (by omega), hg' (r + 1) (s + 1) (by omega) (by omega), if_pos (Nat.le_refl _)]
          have v2 : (rowL two.length (g' (r + 1)))[s]? = some (V.int (T one two (r + 1) s : Int)) := by
            rw [rowL_at (by omega), hg' (r + 1) s (by omega) (by omega), if_pos (Nat.le_refl _)]
          have v3 : (rowL two.length (g' r))[s + 1]? = some (V.int (T one two r (s + 1) : Int)) := by
            rw [rowL_at (by omega), hg' r (s + 1) (by omega) (by omega), if_neg (by omega), if_pos ⟨rfl, by omega⟩]
          have ixs : ixN (rowL two.length (g' r)).length (s : Int) = some s := by
            rw [rowL_len]
            unfold ixN
            rw [if_pos (by omega), if_pos (by omega)]
            rfl
          have fin : ∀ v : Int, v = (T one two r s : Int) → ∃ (gg : Nat → Nat → Int) (y6 : Option V), [some (V.ref a), some (.ref b), some (.ref D), some (.int (r : Int)), some (.int (s : Int)), none] = [some (V.ref a), some (.ref b), some (.ref D), some (.int (r : Int)), y6, none] ∧
              Tb (upd H3 as[r] (.lst ((rowL two.length (g' r)).set s (V.int v)))) D as two.length gg ∧ Same H (upd H3 as[r] (.lst ((rowL two.length (g' r)).set s (V.int v)))) ∧
            ∀ r' j, r' ≤ one.length → j ≤ two.length → gg r' j = if r + 1 ≤ r' then (T one two r' j : Int) else if r' = r ∧ two.length - (t + 1) ≤ j then (T one two r j : Int) else 0 := by
            intro v hv
            refine ⟨_, some (.int (s : Int)), rfl, tb'.put r1 (show s ≤ two.length by omega), same_mut sm' (fr r _ r1), fun r' j h1 h2 => ?_⟩
            by_cases e : r' = r ∧ j = s
            · obtain ⟨e1, e2⟩ := e
              subst e1 e2
              rw [if_pos ⟨rfl, rfl⟩, if_neg (by omega), if_pos ⟨rfl, by omega⟩, hv]
            · rw [if_neg e, hg' r' j h1 h2]
              by_cases e3 : r + 1 ≤ r'
              · rw [if_pos e3, if_pos e3]
              · rw [if_neg e3, if_neg e3]
                by_cases e4 : r' = r
                · by_cases e5 : two.length - t ≤ j
                  · rw [if_pos ⟨e4, e5⟩, if_pos ⟨e4, by omega⟩]
                  · have e6 : j ≠ s := fun z => e ⟨e4, z⟩
                    rw [if_neg (fun z => e5 z.2), if_neg (fun z => by have := z.2; omega)]
                · rw [if_neg (fun z => e4 z.1), if_neg (fun z => e4 z.1)]
          refine ⟨_, rfl, _, rfl, a, _, _, _, rfl, rfl, hA2, atI_nat m1, _, rfl, _, rfl, b, _, _, _, rfl, rfl, hB2, atI_nat m2, rfl, _, rfl, ?_⟩
          have q1' : (as.map V.ref)[r]? = some (V.ref as[r]) := q1
          refine ite2 (fun e => ?_) (fun e => ?_)
          · have e' : one[r] = two[s] := V.str.inj (of_decide_eq_true e)
            refine ⟨_, rfl, _, rfl, _, _, rfl, rfl, D, _, _, _, rfl, rfl, SqL.of tb'.at_, atI_nat (j := r + 1) q2, _, rfl, _, _, rfl, rfl, _, _, _, _, rfl, rfl, SqL.of w2, atI_nat (j := s + 1) v1, _, _, rfl, rfl, ?_⟩
            refine ⟨_, rfl, _, rfl, D, _, _, _, rfl, rfl, SqL.of tb'.at_, atI_nat q1, _, rfl, _, _, _, s, rfl, rfl, w1, ixs, ?_⟩
            refine fin _ ?_
            rw [T_eq n1 (e' ▸ n2)]
            omega
          · have e' : one[r] ≠ two[s] := fun z => e (decide_eq_true (congrArg V.str z))
            refine ⟨_, rfl, _, rfl, _, _, rfl, rfl, D, _, _, _, rfl, rfl, SqL.of tb'.at_, atI_nat (j := r + 1) q2, _, rfl, _, _, _, _, rfl, rfl, SqL.of w2, atI_nat (j := s) v2, ?_⟩
            refine ⟨_, rfl, _, rfl, D, _, _, _, rfl, rfl, SqL.of tb'.at_, atI_nat q1, _, rfl, _, _, rfl, rfl, _, _, _, _, rfl, rfl, SqL.of w1, atI_nat (j := s + 1) v3, _, _, rfl, ?_⟩
            refine ⟨_, rfl, _, rfl, D, _, _, _, rfl, rfl, SqL.of tb'.at_, atI_nat q1, _, rfl, _, _, _, s, rfl, rfl, w1, ixs, ?_⟩
            refine fin _ ?_
            rw [T_ne n1 n2 e']
            split <;> omega
        · rintro σ H3 ⟨g', y6, rfl, tb', sm', hg'⟩
          refine ⟨g', _, y6, rfl, tb', sm', fun r' j h1 h2 => ?_⟩
          rw [hg' r' j h1 h2]
          by_cases e : r + 1 ≤ r'
          · rw [if_pos e, if_pos (by omega)]
          · rw [if_neg e]
            by_cases e2 : r' = r
            · subst e2
              rw [if_pos ⟨rfl, by omega⟩, if_pos (by omega)]
            · rw [if_neg (fun z => e2 z.1), if_neg (by omega)]
      · rintro σ H2 ⟨g, x3, x4, rfl, tb, sm, hg⟩
        refine ⟨_, rfl, k H2 D sm hD ⟨as, g, hlen, tb, fun i j h1 h2 => ?_⟩⟩
        rw [hg i j h1 h2, if_pos (by omega)]
end
end VK
end

section
set_option Elab.async false
set_option linter.all false
set_option maxRecDepth 100000
set_option maxHeartbeats 4000000
namespace VK
open PySem L2
/-! ### data without lists: it stays while tuples stay -/
mutual
def imm : PyData → Bool
  | .list _ => false
  | .dict _ => false
  | .tuple ds => immAll ds
  | .none => true
  | .bool _ => true
  | .int _ => true
  | .str _ => true
def immAll : List PyData → Bool
  | [] => true
  | d :: ds => imm d && immAll ds
end
/-- tuples stay -/
def TK (K : PySem.W.Frag) (H H' : Hp) : Prop := ∀ a xs, SqT K H a xs → SqT K H' a xs
theorem TK.refl (K : PySem.W.Frag) (H : Hp) : TK K H H := fun _ _ h => h
theorem TK.trans {K : PySem.W.Frag} {H H1 H2 : Hp} (a : TK K H H1) (b : TK K H1 H2) : TK K H H2 := fun x y h => b x y (a x y h)
theorem TK.same {K : PySem.W.Frag} {H H' : Hp} (s : Same H H') : TK K H H' := fun _ _ h => s.seqT h
/-- a list is written, or something new is laid -/
theorem TK.put {K : PySem.W.Frag} {H : Hp} {p : Addr} {o : HO} (h : H p = none ∨ ∃ l, H p = some (.lst l)) : TK K H (upd H p o) := fun a xs q => by
  rcases q with q | q
  · have n : a ≠ p := by
      rintro rfl
      rcases q with q | ⟨x, q⟩ <;> (rcases h with h | ⟨l, h⟩ <;> (rw [h] at q; cases q))
    exact .inl (rd_upd q n)
  · exact .inr q
theorem TK.new {K : PySem.W.Frag} {H : Hp} {p : Addr} {o : HO} (h : H p = none) : TK K H (upd H p o) := TK.put (.inl h)
theorem TK.lst {K : PySem.W.Frag} {H : Hp} {p : Addr} {o : HO} {l : List V} (h : H p = some (.lst l)) : TK K H (upd H p o) := TK.put (.inr ⟨l, h⟩)
mutual
theorem dp_keep {K : PySem.W.Frag} {H H' : Hp} (t : TK K H H') : ∀ (d : PyData) (v : V), imm d = true → Dp K H v d → Dp K H' v d
  | .none, _, _, h => by cases h; exact .non
  | .bool b, _, _, h => by cases h; exact .bl b
  | .int i, _, _, h => by cases h; exact .int i
  | .str x, _, _, h => by cases h; exact .str x
  | .list _, _, e, _ => by simp [imm] at e
  | .dict _, _, e, _ => by simp [imm] at e
  | .tuple ds, _, e, h => by
    cases h with
    | tup q r => exact .tup (t _ _ q) (dpAll_keep t ds _ (by simpa [imm] using e) r)
theorem dpAll_keep {K : PySem.W.Frag} {H H' : Hp} (t : TK K H H') : ∀ (ds : List PyData) (vs : List V), immAll ds = true → DpAll K H vs ds → DpAll K H' vs ds
  | [], _, _, h => by cases h; exact .nil
  | d :: ds, _, e, h => by
    have e' : imm d = true ∧ immAll ds = true := by simpa [immAll] using e
    cases h with
    | cons a b => exact .cons (dp_keep t d _ e'.1 a) (dpAll_keep t ds _ e'.2 b)
end
theorem immAll_map {α : Type} (f : α → PyData) (h : ∀ x, imm (f x) = true) : ∀ l : List α, immAll (l.map f) = true
  | [] => rfl
  | x :: l => by
    show (imm (f x) && immAll (l.map f)) = true
    rw [h x, immAll_map f h l]
    rfl
theorem dpAll_len {K : PySem.W.Frag} {H : Hp} : ∀ {vs : List V} {ds : List PyData}, DpAll K H vs ds → vs.length = ds.length
  | _, _, .nil => rfl
  | _, _, .cons _ b => by simp [dpAll_len b]
theorem dpAll_app {K : PySem.W.Frag} {H : Hp} : ∀ {vs ws : List V} {ds es : List PyData}, DpAll K H vs ds → DpAll K H ws es → DpAll K H (vs ++ ws) (ds ++ es)
  | _, _, _, _, .nil, h => h
  | _, _, _, _, .cons a b, h => .cons a (dpAll_app b h)
theorem dpAll_one {K : PySem.W.Frag} {H : Hp} {v : V} {d : PyData} (h : Dp K H v d) : DpAll K H [v] [d] := .cons h .nil
theorem dpAll_at {K : PySem.W.Frag} {H : Hp} : ∀ {vs : List V} {ds : List PyData} {k : Nat} {d : PyData}, DpAll K H vs ds → ds[k]? = some d → ∃ v, vs[k]? = some v ∧ Dp K H v d
  | _, _, _, _, .nil, e => by simp at e
  | _, _, 0, d, .cons a _, e => by
    simp at e
    subst e
    exact ⟨_, rfl, a⟩
  | _, _, k + 1, d, .cons _ b, e => by
    obtain ⟨v, h1, h2⟩ := dpAll_at (k := k) b (by simpa using e)
    exact ⟨v, by simpa using h1, h2⟩
theorem dpAll_drop {K : PySem.W.Frag} {H : Hp} : ∀ {vs : List V} {ds : List PyData} (k : Nat), DpAll K H vs ds → DpAll K H (vs.drop k) (ds.drop k)
  | _, _, 0, h => h
  | _, _, _ + 1, .nil => .nil
  | _, _, k + 1, .cons _ b => dpAll_drop k b
theorem dpAll_take {K : PySem.W.Frag} {H : Hp} : ∀ {vs : List V} {ds : List PyData} (k : Nat), DpAll K H vs ds → DpAll K H (vs.take k) (ds.take k)
  | _, _, 0, _ => .nil
  | _, _, _ + 1, .nil => .nil
  | _, _, k + 1, .cons a b => .cons a (dpAll_take k b)
theorem dpAll_set {K : PySem.W.Frag} {H : Hp} {v : V} {d : PyData} (h : Dp K H v d) : ∀ {vs : List V} {ds : List PyData} (k : Nat), DpAll K H vs ds → DpAll K H (vs.set k v) (ds.set k d)
  | _, _, _, .nil => .nil
  | _, _, 0, .cons _ b => .cons h b
  | _, _, k + 1, .cons a b => .cons a (dpAll_set h k b)
theorem dpAll_split {K : PySem.W.Frag} {H : Hp} {d : PyData} : ∀ {ds : List PyData} {vs : List V}, DpAll K H vs (ds ++ [d]) → ∃ ws v, vs = ws ++ [v] ∧ DpAll K H ws ds ∧ Dp K H v d
  | [], _, h => by
    cases h with
    | cons a b =>
      cases b
      exact ⟨[], _, rfl, .nil, a⟩
  | e :: ds, _, h => by
    cases h with
    | cons a b =>
      obtain ⟨ws, v, h1, h2, h3⟩ := dpAll_split (ds := ds) b
      subst h1
      exact ⟨_ :: ws, v, rfl, .cons a h2, h3⟩
/-- texts -/
theorem dpAll_strs {K : PySem.W.Frag} {H : Hp} : ∀ ls : List Str, DpAll K H (ls.map V.str) (ls.map PyData.str)
  | [] => .nil
  | x :: l => .cons (.str x) (dpAll_strs l)
theorem of_strs {K : PySem.W.Frag} {H : Hp} : ∀ {ls : List Str} {vs : List V}, DpAll K H vs (ls.map PyData.str) → vs = ls.map V.str
  | [], _, h => by cases h; rfl
  | x :: l, _, h => by
    cases h with
    | cons a b =>
      cases a
      rw [of_strs b]
      rfl
/-- a tuple of lines; a pair of numbers; a change -/
abbrev linesD (ls : List Str) : PyData := .tuple (ls.map PyData.str)
abbrev pairD (p : Nat × Nat) : PyData := .tuple [.int (p.1 : Int), .int (p.2 : Int)]
structure Hunk where
  start : Nat
  gone : List Str
  come : List Str
abbrev hunkD (h : Hunk) : PyData := .tuple [.int (h.start : Int), linesD h.gone, linesD h.come]
theorem imm_lines (ls : List Str) : imm (linesD ls) = true := by
  show immAll (ls.map PyData.str) = true
  exact immAll_map _ (fun _ => rfl) ls
theorem imm_pair (p : Nat × Nat) : imm (pairD p) = true := rfl
theorem imm_hunk (h : Hunk) : imm (hunkD h) = true := by
  show (imm (.int (h.start : Int)) && (imm (linesD h.gone) && (imm (linesD h.come) && immAll []))) = true
  rw [imm_lines, imm_lines]
  rfl
theorem dp_lines {K : PySem.W.Frag} {H : Hp} {a : Addr} {ls : List Str} (h : SqT K H a (ls.map V.str)) : Dp K H (.ref a) (linesD ls) := .tup h (dpAll_strs ls)
theorem of_lines {K : PySem.W.Frag} {H : Hp} {v : V} {ls : List Str} (h : Dp K H v (linesD ls)) : ∃ a, v = .ref a ∧ SqT K H a (ls.map V.str) := by
  cases h with
  | tup q r => exact ⟨_, rfl, by rw [← of_strs r]; exact q⟩
theorem dp_pair {K : PySem.W.Frag} {H : Hp} {a : Addr} {i j : Nat} (h : SqT K H a [.int (i : Int), .int (j : Int)]) : Dp K H (.ref a) (pairD (i, j)) := .tup h (.cons (.int _) (.cons (.int _) .nil))
theorem of_pair {K : PySem.W.Frag} {H : Hp} {v : V} {p : Nat × Nat} (h : Dp K H v (pairD p)) : ∃ a, v = .ref a ∧ SqT K H a [.int (p.1 : Int), .int (p.2 : Int)] := by
  cases h with
  | tup q r =>
    cases r with
    | cons a b =>
      cases a
      cases b with
      | cons a b =>
        cases a
        cases b
        exact ⟨_, rfl, q⟩
theorem of_hunk {K : PySem.W.Frag} {H : Hp} {v : V} {h : Hunk} (q : Dp K H v (hunkD h)) : ∃ a b c, v = .ref a ∧ SqT K H a [.int (h.start : Int), .ref b, .ref c] ∧ SqT K H b (h.gone.map V.str) ∧ SqT K H c (h.come.map V.str) := by
  cases q with
  | tup q r =>
    cases r with
    | cons x r =>
      cases x
      cases r with
      | cons y r =>
        cases r with
        | cons z r =>
          cases r
          obtain ⟨b, rfl, hb⟩ := of_lines y
          obtain ⟨c, rfl, hc⟩ := of_lines z
          exact ⟨_, b, c, rfl, q, hb, hc⟩
theorem dp_hunk {K : PySem.W.Frag} {H : Hp} {a b c : Addr} {h : Hunk} (q : SqT K H a [.int (h.start : Int), .ref b, .ref c]) (hb : SqT K H b (h.gone.map V.str)) (hc : SqT K H c (h.come.map V.str)) : Dp K H (.ref a) (hunkD h) :=
  .tup q (.cons (.int _) (.cons (dp_lines hb) (.cons (dp_lines hc) .nil)))
/-- pairs, changes in a row -/
theorem pairs_keep {K : PySem.W.Frag} {H H' : Hp} (t : TK K H H') {vs : List V} {ps : List (Nat × Nat)} (h : DpAll K H vs (ps.map pairD)) : DpAll K H' vs (ps.map pairD) :=
  dpAll_keep t _ _ (immAll_map _ imm_pair ps) h
theorem hunks_keep {K : PySem.W.Frag} {H H' : Hp} (t : TK K H H') {vs : List V} {hs : List Hunk} (h : DpAll K H vs (hs.map hunkD)) : DpAll K H' vs (hs.map hunkD) :=
  dpAll_keep t _ _ (immAll_map _ imm_hunk hs) h
end VK
end

section
set_option Elab.async false
set_option linter.all false
set_option maxRecDepth 100000
set_option maxHeartbeats 4000000
namespace VK
open PySem L2
/-! ### the greedy row of pairs -/
theorem lcs_steps : ∀ (n : Nat) (xs ys : List Str), xs.length + ys.length ≤ n →
    (∀ x, lcs xs ys ≤ lcs (x :: xs) ys ∧ lcs (x :: xs) ys ≤ lcs xs ys + 1) ∧ (∀ y, lcs xs ys ≤ lcs xs (y :: ys) ∧ lcs xs (y :: ys) ≤ lcs xs ys + 1)
  | 0, xs, ys, h => by
    have e1 : xs = [] := List.eq_nil_of_length_eq_zero (by omega)
    have e2 : ys = [] := List.eq_nil_of_length_eq_zero (by omega)
    subst e1 e2
    refine ⟨fun x => ?_, fun y => ?_⟩
    · rw [lcs_nil2, lcs_nil2]; omega
    · rw [lcs_nil, lcs_nil]; omega
  | n + 1, xs, ys, h => by
    refine ⟨fun x => ?_, fun y => ?_⟩
    · cases ys with
      | nil => rw [lcs_nil2, lcs_nil2]; omega
      | cons y ys =>
        have i1 := lcs_steps n xs ys (by simp only [List.length_cons] at h; omega)
        have q1 := i1.1 x
        have q2 := i1.2 y
        rw [lcs_cons]
        by_cases e : x = y
        · rw [if_pos e]; omega
        · rw [if_neg e]; omega
    · cases xs with
      | nil => rw [lcs_nil, lcs_nil]; omega
      | cons x xs =>
        have i1 := lcs_steps n xs ys (by simp only [List.length_cons] at h; omega)
        have q1 := i1.1 x
        have q2 := i1.2 y
        rw [lcs_cons]
        by_cases e : x = y
        · rw [if_pos e]; omega
        · rw [if_neg e]; omega
theorem T_mono1 (one two : List Str) (i j : Nat) : T one two (i + 1) j ≤ T one two i j := by
  by_cases h : i < one.length
  · have q := (lcs_steps _ (one.drop (i + 1)) (two.drop j) (Nat.le_refl _)).1 one[i]
    unfold T
    rw [List.drop_eq_getElem_cons h]
    exact q.1
  · rw [T_end1 (by omega)]; omega
theorem T_mono2 (one two : List Str) (i j : Nat) : T one two i (j + 1) ≤ T one two i j := by
  by_cases h : j < two.length
  · have q := (lcs_steps _ (one.drop i) (two.drop (j + 1)) (Nat.le_refl _)).2 two[j]
    unfold T
    rw [List.drop_eq_getElem_cons h]
    exact q.1
  · rw [T_end2 (by omega)]; omega
theorem T_mono2s (one two : List Str) (i : Nat) : ∀ (d j : Nat), T one two i (j + d) ≤ T one two i j
  | 0, j => Nat.le_refl _
  | d + 1, j => by
    have h1 := T_mono2 one two i (j + d)
    have h2 := T_mono2s one two i d j
    have e : j + (d + 1) = j + d + 1 := by omega
    rw [e]; omega
def hitP (one two : List Str) (i j k : Nat) : Bool := decide (one[i]? = two[k]?) && decide (T one two (i + 1) (k + 1) + 1 = T one two i j)
/-- the first place from j on -/
def hit (one two : List Str) (i j : Nat) : Option Nat := (List.range' j (two.length - j)).find? (hitP one two i j)
theorem hit_some {one two : List Str} {i j k : Nat} (h : hit one two i j = some k) : j ≤ k ∧ k < two.length ∧ one[i]? = two[k]? ∧ i < one.length ∧ T one two (i + 1) (k + 1) + 1 = T one two i j ∧ ∀ k', j ≤ k' → k' < k → hitP one two i j k' = false := by
  have h1 := List.mem_of_find?_eq_some h
  have h2 := List.find?_some h
  rw [List.mem_range'_1] at h1
  unfold hitP at h2
  rw [Bool.and_eq_true, decide_eq_true_eq, decide_eq_true_eq] at h2
  have hk : k < two.length := by omega
  refine ⟨h1.1, hk, h2.1, ?_, h2.2, fun k' a b => ?_⟩
  · have e := h2.1
    rw [List.getElem?_eq_getElem hk] at e
    exact (List.getElem?_eq_some_iff.mp e).1
  · unfold hit at h
    rw [List.find?_eq_some_iff_append] at h
    obtain ⟨_, as, bs, e, hn⟩ := h
    have hm : k' ∈ as := by
      have : as ++ k :: bs = List.range' j (two.length - j) := e.symm
      have m : k' ∈ as ++ k :: bs := by rw [this, List.mem_range'_1]; omega
      rcases List.mem_append.mp m with m | m
      · exact m
      · exfalso
        have sorted : (as ++ k :: bs).Pairwise (· < ·) := by rw [this]; exact List.pairwise_lt_range'
        rw [List.pairwise_append] at sorted
        rcases List.mem_cons.mp m with m | m
        · omega
        · have := (List.pairwise_cons.mp sorted.2.1).1 k' m
          omega
    have := hn k' hm
    simpa using this
theorem hit_none {one two : List Str} {i j : Nat} (h : hit one two i j = none) {k : Nat} (h1 : j ≤ k) (h2 : k < two.length) : ¬ (one[i]? = two[k]? ∧ T one two (i + 1) (k + 1) + 1 = T one two i j) := by
  unfold hit at h
  rw [List.find?_eq_none] at h
  have q := h k (by rw [List.mem_range'_1]; omega)
  unfold hitP at q
  simpa using q
/-- a row is left, or a place is there -/
theorem T_step {one two : List Str} {i : Nat} (hi : i < one.length) : ∀ (d j : Nat), two.length - j = d → T one two i j = T one two (i + 1) j ∨ ∃ k, j ≤ k ∧ k < two.length ∧ one[i]? = two[k]? ∧ T one two (i + 1) (k + 1) + 1 = T one two i j
  | 0, j, e => by
    left
    rw [T_end2 (i := i) (by omega), T_end2 (i := i + 1) (by omega)]
  | d + 1, j, e => by
    have hj : j < two.length := by omega
    have n1 : one[i]? = some one[i] := List.getElem?_eq_getElem hi
    have n2 : two[j]? = some two[j] := List.getElem?_eq_getElem hj
    by_cases q : one[i] = two[j]
    · right
      exact ⟨j, Nat.le_refl _, hj, by rw [n1, n2, q], by rw [T_eq n1 (q ▸ n2)]⟩
    · have t := T_ne n1 n2 q
      have m := T_mono2 one two (i + 1) j
      rcases T_step (two := two) hi d (j + 1) (by omega) with r | ⟨k, a, b, c, r⟩
      · left
        omega
      · by_cases z : T one two (i + 1) j = T one two i j
        · exact .inl z.symm
        · right
          exact ⟨k, by omega, b, c, by omega⟩
theorem T_none {one two : List Str} {i j : Nat} (h : hit one two i j = none) : T one two (i + 1) j = T one two i j := by
  by_cases hi : i < one.length
  · rcases T_step hi _ j rfl with r | ⟨k, a, b, c, r⟩
    · exact r.symm
    · exact absurd ⟨c, r⟩ (hit_none h a b)
  · rw [T_end1 (i := i + 1) (by omega), T_end1 (i := i) (by omega)]
/-- the row from (i, j) on -/
def pairsF (one two : List Str) : Nat → Nat → Nat → List (Nat × Nat)
  | 0, _, _ => []
  | n + 1, i, j => match hit one two i j with
    | some k => (i, k) :: pairsF one two n (i + 1) (k + 1)
    | none => pairsF one two n (i + 1) j
def PR (one two : List Str) (i j : Nat) : List (Nat × Nat) := pairsF one two (one.length - i) i j
theorem PR_some {one two : List Str} {i j k : Nat} (h : hit one two i j = some k) : PR one two i j = (i, k) :: PR one two (i + 1) (k + 1) := by
  have hi := (hit_some h).2.2.2.1
  unfold PR
  have e : one.length - i = (one.length - (i + 1)) + 1 := by omega
  rw [e, pairsF, h]
theorem PR_none {one two : List Str} {i j : Nat} (h : hit one two i j = none) : PR one two i j = PR one two (i + 1) j := by
  unfold PR
  by_cases hi : i < one.length
  · have e : one.length - i = (one.length - (i + 1)) + 1 := by omega
    rw [e, pairsF, h]
  · have e : one.length - i = 0 := by omega
    have e2 : one.length - (i + 1) = 0 := by omega
    rw [e, e2]; rfl
theorem PR_end {one two : List Str} {i j : Nat} (h : one.length ≤ i) : PR one two i j = [] := by
  unfold PR
  have e : one.length - i = 0 := by omega
  rw [e]; rfl
theorem PR_len {one two : List Str} : ∀ (d i j : Nat), one.length - i = d → (PR one two i j).length = T one two i j
  | 0, i, j, e => by rw [PR_end (by omega), T_end1 (by omega)]; rfl
  | d + 1, i, j, e => by
    cases h : hit one two i j with
    | some k =>
      rw [PR_some h, List.length_cons, PR_len d (i + 1) (k + 1) (by omega)]
      exact (hit_some h).2.2.2.2.1
    | none => rw [PR_none h, PR_len d (i + 1) j (by omega), T_none h]
theorem PR_zero {one two : List Str} {i j : Nat} (h : T one two i j = 0) : PR one two i j = [] :=
  List.eq_nil_of_length_eq_zero (by rw [PR_len _ i j rfl, h])
/-- all pairs are places of the same line, and both rise -/
def Row (one two : List Str) : Nat → Nat → List (Nat × Nat) → Prop
  | _, _, [] => True
  | i, j, (a, b) :: r => i ≤ a ∧ j ≤ b ∧ a < one.length ∧ b < two.length ∧ one[a]? = two[b]? ∧ Row one two (a + 1) (b + 1) r
theorem Row.le {one two : List Str} : ∀ {r : List (Nat × Nat)} {i j i' j' : Nat}, i' ≤ i → j' ≤ j → Row one two i j r → Row one two i' j' r
  | [], _, _, _, _, _, _, _ => trivial
  | (a, b) :: r, _, _, _, _, h1, h2, ⟨x, y, z⟩ => ⟨by omega, by omega, z⟩
theorem PR_row {one two : List Str} : ∀ (d i j : Nat), one.length - i = d → Row one two i j (PR one two i j)
  | 0, i, j, e => by rw [PR_end (by omega)]; trivial
  | d + 1, i, j, e => by
    cases h : hit one two i j with
    | some k =>
      rw [PR_some h]
      obtain ⟨a, b, c, hi, _⟩ := hit_some h
      exact ⟨Nat.le_refl _, a, hi, b, c, PR_row d (i + 1) (k + 1) (by omega)⟩
    | none =>
      rw [PR_none h]
      exact (PR_row d (i + 1) j (by omega)).le (by omega) (Nat.le_refl _)
/-- the law's row -/
def pairs (one two : List Str) : List (Nat × Nat) := PR one two 0 0
theorem pairs_len (one two : List Str) : (pairs one two).length = T one two 0 0 := PR_len _ 0 0 rfl
theorem pairs_row (one two : List Str) : Row one two 0 0 (pairs one two) := PR_row _ 0 0 rfl
end VK
end

section
set_option Elab.async false
set_option linter.all false
set_option maxRecDepth 100000
set_option maxHeartbeats 4000000
namespace VK
open PySem L2
abbrev s__law_pairs : Stmt := topS 19
theorem sc__law_pairs : FnScope ["one", "two", "table", "found", "i", "j", "hits", "k"] ["one", "two"] (defScope s__law_pairs) := ⟨rfl, rfl, rfl, by decide +kernel, rfl, by decide +kernel, by decide +kernel⟩
def spLPairs (K : PySem.W.Frag) : Sp := fun vs H Q _ => ∃ (a b : Addr) (one two : List Str), vs = [.ref a, .ref b] ∧ SqT K H a (one.map V.str) ∧ SqT K H b (two.map V.str) ∧ one.length ≤ 1000 ∧ two.length ≤ 1000 ∧
  ∀ (H' : Hp) (t : Addr) (ws : List V), Same H H' → H t = none → H' t = some (.lst ws) → DpAll K H' ws ((pairs one two).map pairD) → Q (.ref t) H'
section
variable {P : Program} {w : World} {K : PySem.W.Frag} {mg : Str → Option Value} {base : Heap}
theorem ok_lpairs {f fT : Addr} {fd fdT : FuncData} (F : Fun K "_law_pairs" "_law_pairs" s__law_pairs f fd) (T0 : Txt0 mg) (DT : Df K mg "_law_table" s__law_table ["one", "two"] fT fdT) : FnOk P w K mg base CX0 2 f fd ["one", "two"] (spLPairs K) := by
  have GT : FnOk P w K mg base CX0 1 fT fdT ["one", "two"] (spLTable K) := ok_ltable DT.F T0
  refine F.ok sc__law_pairs (fun vs H Q E h => ?_) (fun cdv A outer s H vs Q E hr h => ?_)
  · obtain ⟨a, b, one, two, rfl, _⟩ := h
    rfl
  · obtain ⟨a, b, one, two, rfl, hA, hB, ha, hb, k⟩ := h
    refine ⟨_, (pss_cons (ps_set (i := 2) sc__law_pairs.nd rfl (Or.inr rfl) (pe_call GT hr rfl DT.m DT.F.kp DT.b .nil pass0 (pa_cons (pv 0) (pa_cons (pv 1) pa_nil))))
      (pss_cons (ps_set (i := 3) sc__law_pairs.nd rfl (Or.inl rfl) (pe_lst pa_nil))
      (pss_cons (ps_set (i := 4) sc__law_pairs.nd rfl (Or.inr rfl) pe_int)
      (pss_cons (ps_set (i := 5) sc__law_pairs.nd rfl (Or.inr rfl) pe_int)
      (pss_cons (ps_while PassesOwn.never (pt_cmpR op_gt (pe_ix ix_list (pe_ix ix_list (pv 2) (pv 4) (fun _ _ => rfl)) (pv 5) (fun _ _ => rfl)) pe_int (nomark _))
        (pss_cons (ps_setLc (i := 6) (own := [("k", 7)]) (g := gName 7) (tt := _) rfl sc__law_pairs.nd rfl rfl (sw_true rfl rfl rfl (by decide +kernel)) (pi_range2 (by rfl) T0.z_range (pa_cons (pv 5) (pa_cons (pe_callB call_len_seq (by rfl) T0.z_len PySem.boot_len (pa_cons (pv 1) pa_nil)) pa_nil))) (blkOk_by (own := [("k", 7)]) (N := ["one", "two", "table", "found", "i", "j", "hits", "k"]) (sc := defScope s__law_pairs) (by decide +kernel)) (fun _ _ _ _ _ => (pg_name (i := 7) sc__law_pairs.nd rfl (Or.inl rfl))) (fun _ _ _ _ _ => (pts_one (PW.pt (pw_and (pt_cmpR op_eq (pe_ix (ix_tupQ (K := K) rfl) (pv 0) (pv 4) (fun _ _ => rfl)) (pe_ix (ix_tupQ (K := K) rfl) (pv 1) (pv 7) (fun _ _ => rfl)) (nomark _)) (pw_and1 (pt_cmpR op_eq (pe_op op_add (pe_ix (ix_listQ (K := K) rfl) (pe_ix (ix_listQ (K := K) rfl) (pv 2) (pe_op op_add (pv 4) pe_int) (fun _ _ => rfl)) (pe_op op_add (pv 7) pe_int) (fun _ _ => rfl)) pe_int) (pe_ix (ix_listQ (K := K) rfl) (pe_ix (ix_listQ (K := K) rfl) (pv 2) (pv 4) (fun _ _ => rfl)) (pv 5) (fun _ _ => rfl)) (nomark _))))))) (fun _ _ _ _ _ => (pv 7)))
        (pss_cons (ps_if (pt_cmpR op_gt (pe_callB call_len_seq (by rfl) T0.z_len PySem.boot_len (pa_cons (pv 6) pa_nil)) pe_int (nomark _))
          (pss_cons (ps_expr (pe_bm PySem.F.plainAttrs_list PySem.F.slot_list_append PySem.F.type_list_append mt_append (pv 3) (pa_cons (pe_tup (pa_cons (pv 4) (pa_cons (pe_ix ix_list (pv 6) pe_int (fun _ _ => rfl)) pa_nil))) pa_nil)))
          (pss_one (ps_set (i := 5) sc__law_pairs.nd rfl (Or.inr rfl) (pe_op op_add (pe_ix ix_list (pv 6) pe_int (fun _ _ => rfl)) pe_int))))
          pss_nil)
        (pss_one (ps_set (i := 4) sc__law_pairs.nd rfl (Or.inr rfl) (pe_op op_add (pv 4) pe_int))))))
      (pss_one (ps_ret (pv 3)))))))), ?_⟩
    refine ⟨_, rfl, _, rfl, a, b, one, two, rfl, hA, hB, ha, hb, fun H1 t s1 ht0 tab => ?_⟩
    refine ⟨by show 0 ≤ sizeLine; decide, fun fo hfo => ?_⟩
    refine seq_c ?_
    refine seq_c ?_
    refine ⟨fun m σ H' => ∃ (i j : Nat) (ws : List V) (dn : List (Nat × Nat)) (x6 : Option V), m = one.length - i ∧ σ = [some (.ref a), some (.ref b), some (.ref t), some (.ref fo), some (.int (i : Int)), some (.int (j : Int)), x6, none] ∧
        Same H1 H' ∧ H' fo = some (.lst ws) ∧ DpAll K H' ws (dn.map pairD) ∧ dn ++ PR one two i j = pairs one two ∧ i ≤ one.length ∧ j ≤ two.length, ⟨_, 0, 0, [], [], none, rfl, rfl, same_new hfo, upd_same, .nil, rfl, Nat.zero_le _, Nat.zero_le _⟩, ?_⟩
    rintro m σ H2 ⟨i, j, ws, dn, x6, rfl, rfl, s2, hw, hd, hp, hi, hj⟩
    have tab2 := tab.same s2
    obtain ⟨as, r, row, hT, hr1, hr2, hr3⟩ := tab2.get hi hj
    refine ⟨_, rfl, _, rfl, t, as, (i : Int), _, rfl, rfl, SqL.of hT, atI_nat hr1, _, rfl, r, row, (j : Int), _, rfl, rfl, SqL.of hr2, atI_nat hr3, _, _, rfl, rfl, ?_⟩
    refine ⟨_, rfl, ?_⟩
    refine ite2 (fun e => ?_) (fun e => ?_)
    · have e : (0 : Int) < (T one two i j : Int) := of_decide_eq_true e
      have hi1 : i < one.length := by
        rcases Nat.lt_or_ge i one.length with z | z
        · exact z
        · rw [T_end1 z] at e; omega
      have hj1 : j < two.length := by
        rcases Nat.lt_or_ge j two.length with z | z
        · exact z
        · rw [T_end2 z] at e; omega
      refine ⟨fun σ' H' => ∃ m', m' < one.length - i ∧ ∃ (i j : Nat) (ws : List V) (dn : List (Nat × Nat)) (x6 : Option V), m' = one.length - i ∧ σ' = [some (.ref a), some (.ref b), some (.ref t), some (.ref fo), some (.int (i : Int)), some (.int (j : Int)), x6, none] ∧
        Same H1 H' ∧ H' fo = some (.lst ws) ∧ DpAll K H' ws (dn.map pairD) ∧ dn ++ PR one two i j = pairs one two ∧ i ≤ one.length ∧ j ≤ two.length, fun _ _ h => h, ?_⟩
      have hA2 := (s1.trans s2).seqT hA
      have hB2 := (s1.trans s2).seqT hB
      refine ⟨_, rfl, _, rfl, b, _, rfl, .inr hB2, _, _, rfl, ⟨?_, ?_, ?_, ?_⟩, fun D hD => ?_⟩
      · omega
      · omega
      · simp only [List.length_map]; omega
      · simp only [List.length_map]; omega
      have en : (((two.map V.str).length : Int) - (j : Int)).toNat = two.length - j := by rw [List.length_map]; omega
      rw [en]
      refine lc_range (lo := (j : Int)) (n := two.length - j) (fun q H' => Same H2 H' ∧ H' D = some (.lst (((List.range' j q).filter (hitP one two i j)).map fun n : Nat => V.int (n : Int)))) ⟨same_new hD, upd_same⟩ ?_ ?_
      · rintro q H3 hq ⟨s3, hl⟩
        refine ⟨rfl, ?_⟩
        have hA3 := s3.seqT hA2
        have hB3 := s3.seqT hB2
        obtain ⟨m, hm⟩ : ∃ m : Nat, m = j + q := ⟨_, rfl⟩
        have hm' : ((j : Int) + (q : Nat)) = (m : Int) := by omega
        rw [hm']
        have hm2 : m < two.length := by omega
        have n1 : one[i]? = some one[i] := List.getElem?_eq_getElem hi1
        have n2 : two[m]? = some two[m] := List.getElem?_eq_getElem hm2
        have m1 : (one.map V.str)[i]? = some (V.str one[i]) := by rw [List.getElem?_map, n1]; rfl
        have m2 : (two.map V.str)[m]? = some (V.str two[m]) := by rw [List.getElem?_map, n2]; rfl
        refine ⟨_, rfl, _, rfl, a, _, _, _, rfl, rfl, hA3, atI_nat m1, _, rfl, _, rfl, b, _, _, _, rfl, rfl, hB3, atI_nat m2, rfl, _, rfl, ?_⟩
        have r1 : List.range' j (q + 1) = List.range' j q ++ [m] := by rw [List.range'_1_concat, hm]
        have yes : hitP one two i j m = true → (List.range' j (q + 1)).filter (hitP one two i j) = (List.range' j q).filter (hitP one two i j) ++ [m] := fun z => by
          rw [r1, List.filter_append, List.filter_cons_of_pos z]; rfl
        have no : hitP one two i j m = false → (List.range' j (q + 1)).filter (hitP one two i j) = (List.range' j q).filter (hitP one two i j) := fun z => by
          rw [r1, List.filter_append, List.filter_cons_of_neg (by rw [z]; exact Bool.false_ne_true)]; simp
        dsimp only
        refine ite2 (fun e1 => ?_) (fun e1 => ?_)
        · have e1' : one[i] = two[m] := V.str.inj (of_decide_eq_true e1)
          have tab3 := tab2.same s3
          obtain ⟨as1, r', row1, q1, q2, q3, q4⟩ := tab3.get (i := i + 1) (j := m + 1) (by omega) (by omega)
          obtain ⟨as2, r'', row2, p1, p2, p3, p4⟩ := tab3.get hi hj
          refine ⟨_, rfl, _, rfl, _, _, rfl, rfl, t, as1, _, _, rfl, rfl, SqL.of q1, atI_nat (j := i + 1) q2, _, rfl, _, _, rfl, rfl, _, _, _, _, rfl, rfl, SqL.of q3, atI_nat (j := m + 1) q4, _, _, rfl, rfl, _, rfl, _, rfl, t, as2, _, _, rfl, rfl, SqL.of p1, atI_nat p2, _, rfl, _, _, _, _, rfl, rfl, SqL.of p3, atI_nat p4, rfl, _, rfl, ?_⟩
          refine ite2 (fun e2 => ?_) (fun e2 => ?_)
          · have e2' : T one two (i + 1) (m + 1) + 1 = T one two i j := by
              have := V.int.inj (of_decide_eq_true e2)
              omega
            have hh : hitP one two i j m = true := by unfold hitP; rw [n1, n2, e1', e2']; simp
            refine ⟨_, rfl, _, hl, ?_, same_mut s3 hD, ?_⟩
            · rw [List.length_map]
              have := List.length_filter_le (hitP one two i j) (List.range' j q)
              rw [List.length_range'] at this
              exact Nat.lt_of_lt_of_le (show _ < 2000 by omega) (by decide)
            · rw [upd_same, yes hh, List.map_append]; rfl
          · refine ⟨s3, ?_⟩
            have hh : hitP one two i j m = false := by
              unfold hitP
              have : ¬ T one two (i + 1) (m + 1) + 1 = T one two i j := fun z => e2 (decide_eq_true (congrArg V.int (by omega)))
              rw [decide_eq_false this, Bool.and_false]
            rw [no hh]; exact hl
        · refine ⟨s3, ?_⟩
          have hh : hitP one two i j m = false := by
            unfold hitP
            have : ¬ one[i]? = two[m]? := fun z => e1 (decide_eq_true (congrArg V.str (by rw [n1, n2] at z; exact Option.some.inj z)))
            rw [decide_eq_false this, Bool.false_and]
          rw [no hh]; exact hl
      · rintro H3 ⟨s3, hl⟩
        have hh : ((List.range' j (two.length - j)).filter (hitP one two i j)).head? = hit one two i j := List.head?_filter
        obtain ⟨hs, ehs⟩ : ∃ hs, hs = (List.range' j (two.length - j)).filter (hitP one two i j) := ⟨_, rfl⟩
        rw [← ehs] at hl hh
        dsimp only [gName]
        have hfo3 : H3 fo = some (.lst ws) := s3 _ _ hw
        have hd3 : DpAll K H3 ws (dn.map pairD) := pairs_keep (TK.same s3) hd
        refine ⟨_, rfl, D, _, rfl, .inl (SqL.of hl), _, _, rfl, rfl, _, rfl, ?_⟩
        cases hs with
        | nil => 
          refine ite2 (fun z => ?_) (fun z => ?_)
          · cases z
          · have e0 : PR one two i j = PR one two (i + 1) j := PR_none hh.symm
            refine ⟨_, rfl, _, _, rfl, rfl, _, ?_, i + 1, j, ws, dn, _, rfl, rfl, s2.trans s3, hfo3, hd3, by rw [← e0]; exact hp, hi1, hj⟩
            omega
        | cons h0 hs =>
          refine ite2 (fun z => ?_) (fun z => ?_)
          · have e1 : hit one two i j = some h0 := hh.symm
            have e0 := PR_some e1
            refine ⟨_, rfl, .inl ⟨rfl, _, SqL.of hfo3⟩, _, rfl, _, rfl, D, _, _, _, rfl, rfl, SqL.of hl, atI_nat (j := 0) rfl, by show 2 ≤ sizeLine; decide, fun p hp2 => ?_⟩
            have nfp : fo ≠ p := ne_of_none hfo3 hp2
            have nDp : D ≠ p := ne_of_none hl hp2
            have hfo4 : upd H3 p (.tup [.int (i : Int), .int (h0 : Int)]) fo = some (.lst ws) := by rw [upd_ne nfp]; exact hfo3
            have lw : ws.length < 2000 := by
              have q1 := dpAll_len hd3
              have q2 := congrArg List.length hp
              rw [List.length_append, pairs_len] at q2
              have q3 : T one two 0 0 ≤ one.length := lcs_le1 _ _
              rw [List.length_map] at q1
              omega
            have nDf : D ≠ fo := by
              rintro rfl
              rw [hw] at hD; cases hD
            refine ⟨fo, ws, _, rfl, rfl, hfo4, Nat.lt_of_lt_of_le lw (by decide), ?_⟩
            have hl4 : upd (upd H3 p (.tup [.int (i : Int), .int (h0 : Int)])) fo (.lst (ws ++ [.ref p])) D = some (.lst ((h0 :: hs).map fun n : Nat => V.int (n : Int))) := by
              rw [upd_ne nDf, upd_ne nDp]; exact hl
            refine ⟨_, rfl, D, _, _, _, rfl, rfl, SqL.of hl4, atI_nat (j := 0) rfl, _, _, rfl, rfl, ?_⟩
            refine ⟨_, rfl, _, _, rfl, rfl, _, ?_, i + 1, h0 + 1, _, dn ++ [(i, h0)], _, rfl, rfl, ?_, upd_same, ?_, ?_, hi1, (hit_some e1).2.1⟩
            · omega
            · exact (s2.trans s3).trans (same_new hp2) |> fun q => same_mut q hfo
            · rw [List.map_append]
              have tk : TK K H3 (upd (upd H3 p (.tup [.int (i : Int), .int (h0 : Int)])) fo (.lst (ws ++ [.ref p]))) := (TK.new hp2).trans (TK.lst hfo4)
              refine dpAll_app (pairs_keep tk hd3) (dpAll_one (dp_pair ?_))
              refine TK.lst hfo4 _ _ ?_
              exact .inl (.inl upd_same)
            · rw [List.append_assoc, ← hp, e0]; rfl
          · exact absurd (decide_eq_true (show (0 : Int) < ((((h0 :: hs).map fun n : Nat => V.int (n : Int)).length : Nat) : Int) by simp)) z
    · have h0 : ¬ (0 : Int) < (T one two i j : Int) := fun z => e (decide_eq_true z)
      have z : T one two i j = 0 := by omega
      rw [PR_zero z, List.append_nil] at hp
      exact ⟨_, rfl, k _ fo ws (s1.trans s2) (none_of s1 hfo) hw (by rw [← hp]; exact hd)⟩
end
end VK
end

section
set_option Elab.async false
set_option linter.all false
set_option maxRecDepth 100000
set_option maxHeartbeats 4000000
namespace VK
open PySem L2
def cutL {α : Type} (xs : List α) (i h : Nat) : List α := (xs.drop i).take (h - i)
theorem cutV_nat (xs : List V) (i h : Nat) : cutV xs (some (i : Int)) (some (h : Int)) = cutL xs i h := by
  unfold cutV cutL
  rw [HT.sIx_nat, HT.sIx_nat]
  by_cases h1 : xs.length ≤ i
  · rw [Nat.min_eq_right h1, List.drop_eq_nil_of_le (Nat.le_refl _), List.drop_eq_nil_of_le h1]; simp
  · rw [Nat.min_eq_left (a := i) (by omega)]
    by_cases h2 : h ≤ xs.length
    · rw [Nat.min_eq_left h2]
    · rw [Nat.min_eq_right (a := h) (by omega), List.take_of_length_le (by rw [List.length_drop]; omega), List.take_of_length_le (by rw [List.length_drop]; omega)]
theorem cutV_from (xs : List V) (i : Nat) : cutV xs (some (i : Int)) none = xs.drop i := by
  unfold cutV
  rw [HT.sIx_nat, HT.sIx_none]
  by_cases h1 : xs.length ≤ i
  · rw [Nat.min_eq_right h1, List.drop_eq_nil_of_le (Nat.le_refl _), List.drop_eq_nil_of_le h1]; simp
  · rw [Nat.min_eq_left (by omega), List.take_of_length_le (by rw [List.length_drop]; omega)]
theorem cutV_to (xs : List V) (h : Nat) : cutV xs none (some (h : Int)) = xs.take h := by
  unfold cutV
  rw [HT.sIx_nat, HT.sIx_none, List.drop_zero, Nat.sub_zero]
  by_cases h1 : h ≤ xs.length
  · rw [Nat.min_eq_left h1]
  · rw [Nat.min_eq_right (by omega), List.take_of_length_le (Nat.le_refl _), List.take_of_length_le (by omega)]
theorem cutV_init (xs : List V) (v : V) : cutV (xs ++ [v]) none (some (-1)) = xs := by
  unfold cutV
  have e : HT.sIx (xs ++ [v]).length (xs ++ [v]).length (some (-1)) = xs.length := by
    unfold HT.sIx
    rw [List.length_append]
    simp
    omega
  rw [e, HT.sIx_none, List.drop_zero, Nat.sub_zero, List.take_append_of_le_length (Nat.le_refl _), List.take_length]
theorem cutL_map {α β : Type} (f : α → β) (xs : List α) (i h : Nat) : cutL (xs.map f) i h = (cutL xs i h).map f := by
  unfold cutL
  rw [List.map_take, List.map_drop]
theorem cutL_len {α : Type} (xs : List α) (i h : Nat) : (cutL xs i h).length ≤ xs.length := by
  unfold cutL
  rw [List.length_take, List.length_drop]
  omega
/-- a slice of a tuple -/
theorem sl_tupK {K : PySem.W.Frag} {H : Hp} {a : Addr} {xs : List V} {lo hi : Option Int} {Q : VK} (hx : SqT K H a xs) (k : ∀ H' p, Same H H' → SqT K H' p (cutV xs lo hi) → Q (.ref p) H') : rSlA K (.ref a) lo hi H Q := by
  refine ⟨a, xs, rfl, hx, fun h => k H a (fun _ _ e => e) ?_, fun _ p hp => k _ p (same_new hp) (.inl (.inl upd_same))⟩
  unfold cutV
  rw [h.1, h.2, List.drop_zero, Nat.sub_zero, List.take_length]
  exact hx
/-- two tuples behind each other -/
theorem cat_tupK {K : PySem.W.Frag} {H : Hp} {a b : Addr} {xs ys : List V} {Q : VK} (hx : SqT K H a xs) (hy : SqT K H b ys) (hl : xs.length + ys.length ≤ sizeLine) (k : ∀ H' p, Same H H' → SqT K H' p (xs ++ ys) → Q (.ref p) H') : rCatA K (.ref a) (.ref b) H Q := by
  refine ⟨a, b, xs, ys, rfl, rfl, hx, hy, hl, fun e => ?_, fun _ e => ?_, fun _ _ p hp => k _ p (same_new hp) (.inl (.inl upd_same))⟩
  · subst e
    exact k H b (fun _ _ e => e) hy
  · subst e
    exact k H a (fun _ _ e => e) (by rw [List.append_nil]; exact hx)
/-- a slice of lines -/
theorem sl_lines {K : PySem.W.Frag} {H : Hp} {a : Addr} {ls : List Str} {i h : Nat} {Q : VK} (hx : SqT K H a (ls.map V.str)) (k : ∀ H' p, Same H H' → SqT K H' p ((cutL ls i h).map V.str) → Q (.ref p) H') : rSlA K (.ref a) (some (i : Int)) (some (h : Int)) H Q :=
  sl_tupK hx fun H' p s q => k H' p s (by rw [cutV_nat, cutL_map] at q; exact q)
theorem sl_linesFrom {K : PySem.W.Frag} {H : Hp} {a : Addr} {ls : List Str} {i : Nat} {Q : VK} (hx : SqT K H a (ls.map V.str)) (k : ∀ H' p, Same H H' → SqT K H' p ((ls.drop i).map V.str) → Q (.ref p) H') : rSlA K (.ref a) (some (i : Int)) none H Q :=
  sl_tupK hx fun H' p s q => k H' p s (by rw [cutV_from, ← List.map_drop] at q; exact q)
theorem sl_linesTo {K : PySem.W.Frag} {H : Hp} {a : Addr} {ls : List Str} {h : Nat} {Q : VK} (hx : SqT K H a (ls.map V.str)) (k : ∀ H' p, Same H H' → SqT K H' p ((ls.take h).map V.str) → Q (.ref p) H') : rSlA K (.ref a) none (some (h : Int)) H Q :=
  sl_tupK hx fun H' p s q => k H' p s (by rw [cutV_to, ← List.map_take] at q; exact q)
theorem cat_lines {K : PySem.W.Frag} {H : Hp} {a b : Addr} {xs ys : List Str} {Q : VK} (hx : SqT K H a (xs.map V.str)) (hy : SqT K H b (ys.map V.str)) (hl : xs.length + ys.length ≤ 100000) (k : ∀ H' p, Same H H' → SqT K H' p ((xs ++ ys).map V.str) → Q (.ref p) H') : rCatA K (.ref a) (.ref b) H Q :=
  cat_tupK hx hy (by rw [List.length_map, List.length_map]; exact Nat.le_trans hl (by decide)) fun H' p s q => k H' p s (by rw [List.map_append]; exact q)
/-- the changes of a row of pairs -/
def hunksF (one two : List Str) : Nat → Nat → List (Nat × Nat) → List Hunk
  | _, _, [] => []
  | i, j, (h, t) :: r => (if i < h ∨ j < t then [⟨i, cutL one i h, cutL two j t⟩] else []) ++ hunksF one two (h + 1) (t + 1) r
def hunksL (one two : List Str) : List Hunk := hunksF one two 0 0 (pairs one two ++ [(one.length, two.length)])
theorem hunksF_len (one two : List Str) : ∀ (r : List (Nat × Nat)) (i j : Nat), (hunksF one two i j r).length ≤ r.length
  | [], _, _ => Nat.le_refl _
  | (h, t) :: r, i, j => by
    have := hunksF_len one two r (h + 1) (t + 1)
    rw [hunksF, List.length_append, List.length_cons]
    split <;> simp <;> omega
abbrev hunksD (hs : List Hunk) : PyData := .tuple (hs.map hunkD)
abbrev pairsD (ps : List (Nat × Nat)) : PyData := .tuple (ps.map pairD)
theorem of_tupD {K : PySem.W.Frag} {H : Hp} {v : V} {ds : List PyData} (h : Dp K H v (.tuple ds)) : ∃ a ws, v = .ref a ∧ SqT K H a ws ∧ DpAll K H ws ds := by
  cases h with
  | tup q r => exact ⟨_, _, rfl, q, r⟩
theorem imm_hunks (hs : List Hunk) : imm (hunksD hs) = true := by
  show immAll (hs.map hunkD) = true
  exact immAll_map _ imm_hunk hs
theorem imm_pairs (ps : List (Nat × Nat)) : imm (pairsD ps) = true := by
  show immAll (ps.map pairD) = true
  exact immAll_map _ imm_pair ps
end VK
end

section
set_option Elab.async false
set_option linter.all false
set_option maxRecDepth 100000
set_option maxHeartbeats 4000000
namespace VK
open PySem L2
abbrev s__law_hunks : Stmt := topS 20
theorem sc__law_hunks : FnScope ["one", "two", "found", "i", "j", "here", "there"] ["one", "two"] (defScope s__law_hunks) := ⟨rfl, rfl, rfl, by decide +kernel, rfl, by decide +kernel, by decide +kernel⟩
def spLHunks (K : PySem.W.Frag) : Sp := fun vs H Q _ => ∃ (a b : Addr) (one two : List Str), vs = [.ref a, .ref b] ∧ SqT K H a (one.map V.str) ∧ SqT K H b (two.map V.str) ∧ one.length ≤ 1000 ∧ two.length ≤ 1000 ∧
  ∀ (H' : Hp) (v : V), Same H H' → Dp K H' v (hunksD (hunksL one two)) → Q v H'
section
variable {P : Program} {w : World} {K : PySem.W.Frag} {mg : Str → Option Value} {base : Heap}
theorem ok_lhunks {f fT fP : Addr} {fd fdT fdP : FuncData} (F : Fun K "_law_hunks" "_law_hunks" s__law_hunks f fd) (T0 : Txt0 mg) (DT : Df K mg "_law_table" s__law_table ["one", "two"] fT fdT) (DP : Df K mg "_law_pairs" s__law_pairs ["one", "two"] fP fdP) : FnOk P w K mg base CX0 3 f fd ["one", "two"] (spLHunks K) := by
  have GP : FnOk P w K mg base CX0 2 fP fdP ["one", "two"] (spLPairs K) := ok_lpairs DP.F T0 DT
  refine F.ok sc__law_hunks (fun vs H Q E h => ?_) (fun cdv A outer s H vs Q E hr h => ?_)
  · obtain ⟨a, b, one, two, rfl, _⟩ := h
    rfl
  · obtain ⟨a, b, one, two, rfl, hA, hB, ha, hb, k⟩ := h
    refine ⟨_, (pss_cons (ps_set (i := 2) sc__law_hunks.nd rfl (Or.inl rfl) (pe_lst pa_nil))
      (pss_cons (ps_set (i := 3) sc__law_hunks.nd rfl (Or.inl rfl) pe_int)
      (pss_cons (ps_set (i := 4) sc__law_hunks.nd rfl (Or.inl rfl) pe_int)
      (pss_cons (ps_for PassesOwn.never rfl (pi_list (pe_op op_cat (pe_call GP hr rfl DP.m DP.F.kp DP.b .nil pass0 (pa_cons (pv 0) (pa_cons (pv 1) pa_nil))) (pe_lst (pa_cons (pe_tup (pa_cons (pe_callB call_len_seq (by rfl) T0.z_len PySem.boot_len (pa_cons (pv 0) pa_nil)) (pa_cons (pe_callB call_len_seq (by rfl) T0.z_len PySem.boot_len (pa_cons (pv 1) pa_nil)) pa_nil))) pa_nil)))) (pg_tup rfl (pgs_cons (pg_name (i := 5) sc__law_hunks.nd rfl (Or.inl rfl)) (pgs_cons (pg_name (i := 6) sc__law_hunks.nd rfl (Or.inl rfl)) pgs_nil)))
        (pss_cons (ps_if (PW.pt (pw_or (pt_cmpR op_gt (pv 5) (pv 3) (nomark _)) (pw_or1 (pt_cmpR op_gt (pv 6) (pv 4) (nomark _)))))
          (pss_one (ps_expr (pe_bm PySem.F.plainAttrs_list PySem.F.slot_list_append PySem.F.type_list_append mt_append (pv 2) (pa_cons (pe_tup (pa_cons (pv 3) (pa_cons (pe_callTy call_tupleT (by rfl) T0.z_tuple (by decide +kernel) (pa_cons (pe_slice sl_tupA (pv 0) (po_some (pv 3)) (po_some (pv 5))) pa_nil)) (pa_cons (pe_callTy call_tupleT (by rfl) T0.z_tuple (by decide +kernel) (pa_cons (pe_slice sl_tupA (pv 1) (po_some (pv 4)) (po_some (pv 6))) pa_nil)) pa_nil)))) pa_nil))))
          pss_nil)
        (pss_cons (ps_set (i := 3) sc__law_hunks.nd rfl (Or.inl rfl) (pe_op op_add (pv 5) pe_int))
        (pss_one (ps_set (i := 4) sc__law_hunks.nd rfl (Or.inl rfl) (pe_op op_add (pv 6) pe_int))))))
      (pss_one (ps_ret (pe_callTy call_tuple_of (by rfl) T0.z_tuple (by decide +kernel) (pa_cons (pv 2) pa_nil)))))))), ?_⟩
    refine ⟨by show 0 ≤ sizeLine; decide, fun fo hfo => ?_⟩
    refine seq_c ?_
    refine seq_c ?_
    have s0 : Same H (upd H fo (.lst [])) := same_new hfo
    refine ⟨_, rfl, _, rfl, a, b, one, two, rfl, s0.seqT hA, s0.seqT hB, ha, hb, fun H1 lp ws s1 hlp hlp1 hd => ?_⟩
    have s01 := s0.trans s1
    refine ⟨_, rfl, a, _, rfl, .inr (s01.seqT hA), _, rfl, b, _, rfl, .inr (s01.seqT hB), by show 2 ≤ sizeLine; decide, fun pp hpp => ⟨by show 1 ≤ sizeLine; decide, fun lq hlq => ?_⟩⟩
    obtain ⟨H2, e2⟩ : ∃ H2, H2 = upd H1 pp (.tup [.int ((one.map V.str).length : Int), .int ((two.map V.str).length : Int)]) := ⟨_, rfl⟩
    rw [← e2] at hlq ⊢
    have s12 : Same H1 H2 := by rw [e2]; exact same_new hpp
    have hpp2 : H2 pp = some (.tup [.int (one.length : Int), .int (two.length : Int)]) := by rw [e2, upd_same, List.length_map, List.length_map]
    obtain ⟨H3, e3⟩ : ∃ H3, H3 = upd H2 lq (.lst [.ref pp]) := ⟨_, rfl⟩
    rw [← e3]
    have s23 : Same H2 H3 := by rw [e3]; exact same_new hlq
    have s13 := s12.trans s23
    have lws : ws.length ≤ 1000 := by
      have q1 := dpAll_len hd
      have q3 : T one two 0 0 ≤ one.length := lcs_le1 _ _
      rw [List.length_map, pairs_len] at q1
      omega
    refine ⟨lp, lq, ws, [.ref pp], rfl, rfl, s13 _ _ hlp1, by rw [e3, upd_same], Nat.le_trans (show ws.length + 1 ≤ 2000 by omega) (by decide), fun L hL => ?_⟩
    obtain ⟨H4, e4⟩ : ∃ H4, H4 = upd H3 L (.lst (ws ++ [.ref pp])) := ⟨_, rfl⟩
    rw [← e4]
    have s34 : Same H3 H4 := by rw [e4]; exact same_new hL
    have hL4 : H4 L = some (.lst (ws ++ [.ref pp])) := by rw [e4, upd_same]
    obtain ⟨full, hfull⟩ : ∃ full, full = pairs one two ++ [(one.length, two.length)] := ⟨_, rfl⟩
    have d4 : DpAll K H4 (ws ++ [.ref pp]) (full.map pairD) := by
      rw [hfull, List.map_append]
      refine dpAll_app (pairs_keep (TK.same (s13.trans s34)) hd) (dpAll_one (dp_pair ?_))
      exact (s23.trans s34).seqT (.inl (.inl hpp2))
    have hfo1 : H1 fo = some (.lst []) := s1 _ _ upd_same
    have hfo4 : H4 fo = some (.lst []) := (s13.trans s34) _ _ hfo1
    have nLfo : L ≠ fo := by
      rintro rfl
      rw [s13 _ _ hfo1] at hL; cases hL
    have s4 : Same H H4 := s01.trans (s13.trans s34)
    have ln : (ws ++ [V.ref pp]).length = full.length := by rw [dpAll_len d4, List.length_map]
    have lf : full.length ≤ 1001 := by rw [← ln, List.length_append]; simp; omega
    refine ⟨L, rfl, ⟨_, SqL.of hL4⟩, ?_⟩
    refine for_it (walk_list (xs := ws ++ [.ref pp])) (fun c σ H' => ∃ (i j : Nat) (vs : List V) (dn : List Hunk) (x5 x6 : Option V), σ = [some (.ref a), some (.ref b), some (.ref fo), some (.int (i : Int)), some (.int (j : Int)), x5, x6] ∧ Same H H' ∧ TK K H4 H' ∧ H' L = some (.lst (ws ++ [.ref pp])) ∧
        H' fo = some (.lst vs) ∧ DpAll K H' vs (dn.map hunkD) ∧ dn ++ hunksF one two i j (full.drop c) = hunksL one two ∧ dn.length ≤ c) ?_ (fun c σ H' _ h => ?_) ?_ ?_
    · exact ⟨0, 0, [], [], none, none, rfl, s4, TK.refl _ _, hL4, hfo4, .nil, by rw [hfull]; rfl, Nat.le_refl _⟩
    · obtain ⟨i, j, vs, dn, x5, x6, rfl, h1, h2, h3, h4⟩ := h
      exact SqL.of h3
    · rintro c x σ H5o H5 hc ⟨i, j, vs, dn, x5, x6, rfl, sm, tk, hLL, hv, hdd, hp, hl⟩ ⟨rfl, hx⟩
      have hcf : c < full.length := by rw [← ln]; exact hc
      obtain ⟨⟨h, t⟩, ht⟩ : ∃ q, q = full[c] := ⟨_, rfl⟩
      have hf : full[c]? = some (h, t) := by rw [List.getElem?_eq_getElem hcf, ht]
      obtain ⟨v, hv1, hv2⟩ := dpAll_at (pairs_keep tk d4) (k := c) (d := pairD (h, t)) (by rw [List.getElem?_map, hf]; rfl)
      obtain rfl : v = x := Option.some.inj (hv1.symm.trans hx)
      obtain ⟨q, rfl, hq⟩ := of_pair hv2
      have ed : full.drop c = (h, t) :: full.drop (c + 1) := by rw [List.drop_eq_getElem_cons hcf, ← ht]
      rw [ed, hunksF] at hp
      refine ⟨q, _, rfl, hq, rfl, ?_⟩
      have fin : ∀ (vs' : List V) (dn' : List Hunk) (H' : Hp), Same H H' → TK K H4 H' → H' L = some (.lst (ws ++ [.ref pp])) → H' fo = some (.lst vs') → DpAll K H' vs' (dn'.map hunkD) → dn' ++ hunksF one two (h + 1) (t + 1) (full.drop (c + 1)) = hunksL one two → dn'.length ≤ c + 1 →
          ∃ (i j : Nat) (vs : List V) (dn : List Hunk) (x5 x6 : Option V), [some (.ref a), some (.ref b), some (.ref fo), some (V.int ((h : Int) + 1)), some (V.int ((t : Int) + 1)), some (V.int (h : Int)), some (V.int (t : Int))] = [some (.ref a), some (.ref b), some (.ref fo), some (.int (i : Int)), some (.int (j : Int)), x5, x6] ∧ Same H H' ∧ TK K H4 H' ∧ H' L = some (.lst (ws ++ [.ref pp])) ∧
        H' fo = some (.lst vs) ∧ DpAll K H' vs (dn.map hunkD) ∧ dn ++ hunksF one two i j (full.drop (c + 1)) = hunksL one two ∧ dn.length ≤ c + 1 := fun vs' dn' H' p1 p2 p3 p4 p5 p6 p7 => ⟨h + 1, t + 1, vs', dn', _, _, rfl, p1, p2, p3, p4, p5, p6, p7⟩
      refine ⟨_, _, rfl, _, _, rfl, rfl, ?_⟩
      refine cut (fun σ' H' => σ' = [some (.ref a), some (.ref b), some (.ref fo), some (V.int (i : Int)), some (V.int (j : Int)), some (V.int (h : Int)), some (V.int (t : Int))] ∧ ∃ (vs' : List V) (dn' : List Hunk), Same H H' ∧ TK K H4 H' ∧ H' L = some (.lst (ws ++ [.ref pp])) ∧ H' fo = some (.lst vs') ∧ DpAll K H' vs' (dn'.map hunkD) ∧ dn' ++ hunksF one two (h + 1) (t + 1) (full.drop (c + 1)) = hunksL one two ∧ dn'.length ≤ c + 1) (fun nx hn => ?_) ?_
      · refine tOr_pure (fun Q h => ⟨_, rfl, _, rfl, _, _, rfl, rfl, _, rfl, h⟩) (fun Q h => ⟨_, rfl, _, rfl, _, _, rfl, rfl, _, rfl, h⟩) ?_
        refine ite2 (fun e => ?_) (fun e => ?_)
        · have hc2 : i < h ∨ j < t := by
            rw [Bool.or_eq_true, decide_eq_true_eq, decide_eq_true_eq] at e
            omega
          rw [if_pos hc2] at hp
          refine ⟨_, rfl, .inl ⟨rfl, _, SqL.of hv⟩, _, rfl, _, rfl, _, rfl, _, rfl, _, rfl, _, rfl, sl_lines (sm.seqT hA) fun H6 p s56 hp6 => ?_⟩
          refine ⟨p, _, rfl, hp6, _, rfl, _, rfl, _, rfl, _, rfl, _, rfl, sl_lines ((sm.trans s56).seqT hB) fun H7 r s67 hr7 => ?_⟩
          refine ⟨r, _, rfl, hr7, by show 3 ≤ sizeLine; decide, fun z hz => ?_⟩
          have s57 := s56.trans s67
          have hv7 : H7 fo = some (.lst vs) := s57 _ _ hv
          have nfz : fo ≠ z := ne_of_none hv7 hz
          have hv8 : upd H7 z (.tup [.int (i : Int), .ref p, .ref r]) fo = some (.lst vs) := by rw [upd_ne nfz]; exact hv7
          have lvs : vs.length < 2000 := by
            have q1 := dpAll_len hdd
            rw [List.length_map] at q1
            omega
          refine ⟨fo, vs, _, rfl, rfl, hv8, Nat.lt_of_lt_of_le lvs (by decide), ?_⟩
          have tk8 : TK K H5 (upd (upd H7 z (.tup [.int (i : Int), .ref p, .ref r])) fo (.lst (vs ++ [.ref z]))) := ((TK.same s57).trans (TK.new hz)).trans (TK.lst hv8)
          refine hn _ _ ⟨rfl, vs ++ [.ref z], dn ++ [⟨i, cutL one i h, cutL two j t⟩], ?_, tk.trans tk8, ?_, upd_same, ?_, ?_, ?_⟩
          · exact same_mut ((sm.trans s57).trans (same_new hz)) hfo
          · rw [upd_ne nLfo, upd_ne (ne_of_none (s57 _ _ hLL) hz)]; exact s57 _ _ hLL
          · rw [List.map_append]
            refine dpAll_app (hunks_keep tk8 hdd) (dpAll_one (dp_hunk (b := p) (c := r) ?_ ?_ ?_))
            · exact TK.lst hv8 _ _ (.inl (.inl upd_same))
            · exact ((TK.new hz).trans (TK.lst hv8)) _ _ (s67.seqT hp6)
            · exact ((TK.new hz).trans (TK.lst hv8)) _ _ hr7
          · rw [List.append_assoc]; exact hp
          · rw [List.length_append]; exact Nat.succ_le_succ hl
        · have hc2 : ¬ (i < h ∨ j < t) := by
            intro q
            apply e
            rw [Bool.or_eq_true, decide_eq_true_eq, decide_eq_true_eq]
            omega
          rw [if_neg hc2] at hp
          exact hn _ _ ⟨rfl, vs, dn, sm, tk, hLL, hv, hdd, hp, Nat.le_succ_of_le hl⟩
      · rintro σ6 H6 ⟨rfl, vs', dn', p1, p2, p3, p4, p5, p6, p7⟩
        exact ⟨_, rfl, _, _, rfl, rfl, _, rfl, _, _, rfl, rfl, fin _ _ _ p1 p2 p3 p4 p5 p6 p7⟩
    · rintro σ H5 ⟨i, j, vs, dn, x5, x6, rfl, sm, tk, hLL, hv, hdd, hp, hl⟩
      rw [ln, List.drop_length] at hp
      have hp : dn = hunksL one two := by rw [← hp]; exact (List.append_nil dn).symm
      refine ⟨_, rfl, fo, _, rfl, .inl ⟨SqL.of hv, fun l hl2 => ?_⟩⟩
      refine k _ _ (sm.trans (same_new hl2)) ?_
      refine .tup (.inl (.inl upd_same)) ?_
      rw [← hp]
      exact hunks_keep (TK.new hl2) hdd
end
end VK
end

section
set_option Elab.async false
set_option linter.all false
set_option maxRecDepth 100000
set_option maxHeartbeats 4000000
namespace VK
open PySem L2
/-- the lines that a row of changes makes -/
def applyF (ls : List Str) : Nat → List Hunk → List Str
  | i, [] => ls.drop i
  | i, h :: r => cutL ls i h.start ++ h.come ++ applyF ls (h.start + h.gone.length) r
abbrev s__law_apply : Stmt := topS 21
theorem sc__law_apply : FnScope ["lines", "patch", "found", "here", "start", "gone", "come"] ["lines", "patch"] (defScope s__law_apply) := ⟨rfl, rfl, rfl, by decide +kernel, rfl, by decide +kernel, by decide +kernel⟩
def spApply (K : PySem.W.Frag) : Sp := fun vs H Q _ => ∃ (a b : Addr) (ls : List Str) (hs : List Hunk), vs = [.ref a, .ref b] ∧ SqT K H a (ls.map V.str) ∧ Dp K H (.ref b) (hunksD hs) ∧ (applyF ls 0 hs).length ≤ 10000 ∧
  ∀ (H' : Hp) (p : Addr), Same H H' → SqT K H' p ((applyF ls 0 hs).map V.str) → Q (.ref p) H'
section
variable {P : Program} {w : World} {K : PySem.W.Frag} {mg : Str → Option Value} {base : Heap}
theorem ok_apply {f : Addr} {fd : FuncData} (F : Fun K "_law_apply" "_law_apply" s__law_apply f fd) (T0 : Txt0 mg) : FnOk P w K mg base CX0 1 f fd ["lines", "patch"] (spApply K) := by
  refine F.ok sc__law_apply (fun vs H Q E h => ?_) (fun cdv A outer s H vs Q E hr h => ?_)
  · obtain ⟨a, b, ls, hs, rfl, _⟩ := h
    rfl
  · obtain ⟨a, b, ls, hs, rfl, hA, hB, hlen, k⟩ := h
    refine ⟨_, (pss_cons (ps_set (i := 2) sc__law_apply.nd rfl (Or.inl rfl) (pe_tup pa_nil))
      (pss_cons (ps_set (i := 3) sc__law_apply.nd rfl (Or.inl rfl) pe_int)
      (pss_cons (ps_for PassesOwn.never rfl (pi_tup (pv 1)) (pg_tup rfl (pgs_cons (pg_name (i := 4) sc__law_apply.nd rfl (Or.inl rfl)) (pgs_cons (pg_name (i := 5) sc__law_apply.nd rfl (Or.inl rfl)) (pgs_cons (pg_name (i := 6) sc__law_apply.nd rfl (Or.inl rfl)) pgs_nil))))
        (pss_cons (ps_set (i := 2) sc__law_apply.nd rfl (Or.inl rfl) (pe_op op_catA (pe_op op_catA (pv 2) (pe_callTy call_tupleT (by rfl) T0.z_tuple (by decide +kernel) (pa_cons (pe_slice sl_tupA (pv 0) (po_some (pv 3)) (po_some (pv 4))) pa_nil))) (pv 6)))
        (pss_one (ps_set (i := 3) sc__law_apply.nd rfl (Or.inl rfl) (pe_op op_add (pv 4) (pe_callB call_len_seq (by rfl) T0.z_len PySem.boot_len (pa_cons (pv 5) pa_nil)))))))
      (pss_one (ps_ret (pe_op op_catA (pv 2) (pe_callTy call_tupleT (by rfl) T0.z_tuple (by decide +kernel) (pa_cons (pe_slice sl_tupA (pv 0) (po_some (pv 3)) po_none) pa_nil)))))))), ?_⟩
    refine ⟨by show 0 ≤ sizeLine; decide, fun fo hfo => ?_⟩
    refine seq_c ?_
    have s0 : Same H (upd H fo (.tup [])) := same_new hfo
    obtain ⟨b', ws, eb, hb, hd⟩ := of_tupD hB
    cases eb
    have ln : ws.length = hs.length := by rw [dpAll_len hd, List.length_map]
    refine ⟨_, rfl, b, rfl, ⟨_, s0.seqT hb⟩, ?_⟩
    refine for_it (walk_tup (xs := ws)) (fun c σ H' => ∃ (i : Nat) (q : Addr) (fs : List Str) (x4 x5 x6 : Option V), σ = [some (.ref a), some (.ref b), some (.ref q), some (.int (i : Int)), x4, x5, x6] ∧ Same H H' ∧ SqT K H' q (fs.map V.str) ∧ fs ++ applyF ls i (hs.drop c) = applyF ls 0 hs) ?_ (fun c σ H' _ h => ?_) ?_ ?_
    · exact ⟨0, fo, [], none, none, none, rfl, s0, .inl (.inl upd_same), rfl⟩
    · obtain ⟨i, q, fs, x4, x5, x6, rfl, h1, h2, h3⟩ := h
      exact h1.seqT hb
    · rintro c x σ H5o H5 hc ⟨i, q, fs, x4, x5, x6, rfl, sm, hq, hp⟩ ⟨rfl, hx⟩
      have hcf : c < hs.length := by rw [← ln]; exact hc
      obtain ⟨h, ht⟩ : ∃ h, h = hs[c] := ⟨_, rfl⟩
      have hf : hs[c]? = some h := by rw [List.getElem?_eq_getElem hcf, ht]
      obtain ⟨v, hv1, hv2⟩ := dpAll_at (hunks_keep (TK.same sm) hd) (k := c) (d := hunkD h) (by rw [List.getElem?_map, hf]; rfl)
      obtain rfl : v = x := Option.some.inj (hv1.symm.trans hx)
      obtain ⟨z, g, m, rfl, hz, hg, hm⟩ := of_hunk hv2
      have ed : hs.drop c = h :: hs.drop (c + 1) := by rw [List.drop_eq_getElem_cons hcf, ← ht]
      rw [ed, applyF] at hp
      have hl := congrArg List.length hp
      simp only [List.length_append] at hl
      refine ⟨z, _, rfl, hz, rfl, _, _, rfl, _, _, rfl, _, _, rfl, rfl, ?_⟩
      refine ⟨_, rfl, _, rfl, _, rfl, _, rfl, _, rfl, _, rfl, sl_lines (sm.seqT hA) fun H6 p s56 hp6 => ?_⟩
      refine ⟨p, _, rfl, hp6, ?_⟩
      refine cat_lines (s56.seqT hq) hp6 (by omega) fun H7 r s67 hr7 => ?_
      refine ⟨_, rfl, cat_lines hr7 ((s56.trans s67).seqT hm) (by rw [List.length_append]; omega) fun H8 y s78 hy8 => ?_⟩
      have s58 := s56.trans (s67.trans s78)
      refine ⟨_, rfl, _, rfl, g, _, rfl, .inr (s58.seqT hg), _, _, rfl, rfl, ?_⟩
      refine ⟨h.start + h.gone.length, y, fs ++ cutL ls i h.start ++ h.come, some (.int (h.start : Int)), some (.ref g), some (.ref m), ?_, sm.trans s58, hy8, ?_⟩
      · show [_, _, _, some (V.int ((h.start : Int) + ((h.gone.map V.str).length : Int))), _, _, _] = _
        rw [List.length_map]; rfl
      · rw [← hp]; simp [List.append_assoc]
    · rintro σ H5 ⟨i, q, fs, x4, x5, x6, rfl, sm, hq, hp⟩
      rw [ln, List.drop_length, applyF] at hp
      have hl := congrArg List.length hp
      simp only [List.length_append] at hl
      refine ⟨_, rfl, _, rfl, _, rfl, _, rfl, ?_⟩
      dsimp only [tNoPart]
      refine sl_linesFrom (sm.seqT hA) fun H6 p s56 hp6 => ?_
      refine ⟨p, _, rfl, hp6, ?_⟩
      refine cat_lines (s56.seqT hq) hp6 (by omega) fun H7 r s67 hr7 => ?_
      exact k _ r (sm.trans (s56.trans s67)) (by rw [← hp]; exact hr7)
end
/-- what the changes make of the first lines are the second -/
theorem cutL_drop {α : Type} (xs : List α) {i h : Nat} (h1 : i ≤ h) : cutL xs i h ++ xs.drop h = xs.drop i := by
  unfold cutL
  have e : xs.drop h = (xs.drop i).drop (h - i) := by rw [List.drop_drop]; congr 1; omega
  rw [e, List.take_append_drop]
theorem cutL_self {α : Type} (xs : List α) (i : Nat) : cutL xs i i = [] := by unfold cutL; simp
theorem cutL_app {α : Type} (xs : List α) {i j k : Nat} (h1 : i ≤ j) (h2 : j ≤ k) : cutL xs i k = cutL xs i j ++ cutL xs j k := by
  unfold cutL
  have e : xs.drop j = (xs.drop i).drop (j - i) := by rw [List.drop_drop]; congr 1; omega
  have e2 : k - i = (j - i) + (k - j) := by omega
  rw [e, e2, List.take_add]
theorem cutL_length {α : Type} (xs : List α) {i h : Nat} (h1 : h ≤ xs.length) : (cutL xs i h).length = h - i := by
  unfold cutL
  rw [List.length_take, List.length_drop]; omega
theorem cutL_end {α : Type} (xs : List α) {i h : Nat} (h1 : xs.length ≤ h) : cutL xs i h = xs.drop i := by
  unfold cutL
  rw [List.take_of_length_le]
  rw [List.length_drop]; omega
theorem cutL_one {α : Type} {xs : List α} {h : Nat} {x : α} (e : xs[h]? = some x) : cutL xs h (h + 1) = [x] := by
  obtain ⟨h1, h2⟩ := List.getElem?_eq_some_iff.mp e
  unfold cutL
  rw [List.drop_eq_getElem_cons h1, h2]
  have e1 : h + 1 - h = 1 := by omega
  rw [e1]; rfl
theorem apply_hunks (one two : List Str) : ∀ (ps : List (Nat × Nat)) (i j i0 : Nat), Row one two i j ps → i ≤ one.length → j ≤ two.length → i0 ≤ i →
    applyF one i0 (hunksF one two i j (ps ++ [(one.length, two.length)])) = cutL one i0 i ++ two.drop j
  | [], i, j, i0, _, h1, h2, h3 => by
    rw [List.nil_append, hunksF, hunksF, List.append_nil]
    by_cases e : i < one.length ∨ j < two.length
    · rw [if_pos e, applyF, applyF]
      dsimp only
      have e1 : i + (one.length - i) = one.length := by omega
      rw [cutL_length one (Nat.le_refl _), cutL_end two (Nat.le_refl _), e1, List.drop_length, List.append_nil]
    · rw [if_neg e, applyF]
      have e1 : i = one.length := by omega
      have e2 : j = two.length := by omega
      rw [e1, e2, cutL_end one (Nat.le_refl _), List.drop_length, List.append_nil]
  | (h, t) :: ps, i, j, i0, ⟨r1, r2, r3, r4, r5, r6⟩, h1, h2, h3 => by
    rw [List.cons_append, hunksF]
    have x1 : one[h]? = some two[t] := by rw [r5, List.getElem?_eq_getElem r4]
    have x2 : two[t]? = some two[t] := List.getElem?_eq_getElem r4
    have e3 : two.drop t = two[t] :: two.drop (t + 1) := List.drop_eq_getElem_cons r4
    by_cases e : i < h ∨ j < t
    · rw [if_pos e, List.singleton_append, applyF]
      dsimp only
      have e1 : i + (cutL one i h).length = h := by rw [cutL_length one (by omega)]; omega
      rw [e1, apply_hunks one two ps (h + 1) (t + 1) h r6 r3 r4 (by omega), cutL_one x1, List.append_assoc, List.singleton_append, ← e3, cutL_drop two r2]
    · rw [if_neg e, List.nil_append, apply_hunks one two ps (h + 1) (t + 1) i0 r6 r3 r4 (by omega)]
      have e1 : i = h := by omega
      have e2 : j = t := by omega
      rw [cutL_app one (show i0 ≤ h by omega) (show h ≤ h + 1 by omega), cutL_one x1, List.append_assoc, List.singleton_append, ← e3, e1, e2]
theorem apply_law (one two : List Str) : applyF one 0 (hunksL one two) = two := by
  unfold hunksL
  rw [apply_hunks one two _ 0 0 0 (pairs_row one two) (Nat.zero_le _) (Nat.zero_le _) (Nat.le_refl _), cutL_self]
  rfl
end VK
end

section
set_option Elab.async false
set_option linter.all false
set_option maxRecDepth 100000
set_option maxHeartbeats 4000000
namespace VK
open PySem L2
theorem hit_mk {one two : List Str} {i j k : Nat} (h1 : j ≤ k) (h2 : k < two.length) (h : hitP one two i j k = true) (n : ∀ k', j ≤ k' → k' < k → hitP one two i j k' = false) : hit one two i j = some k := by
  cases e : hit one two i j with
  | none =>
    exfalso
    refine hit_none e h1 h2 ?_
    unfold hitP at h
    simpa using h
  | some k2 =>
    obtain ⟨a, b, c, d, f, g⟩ := hit_some e
    have q2 : hitP one two i j k2 = true := by unfold hitP; rw [c, f]; simp
    rcases Nat.lt_trichotomy k k2 with z | z | z
    · rw [g k h1 z] at h; cases h
    · rw [z]
    · rw [n k2 a z] at q2; cases q2
theorem hit_no {one two : List Str} {i j : Nat} (n : ∀ k', j ≤ k' → k' < two.length → hitP one two i j k' = false) : hit one two i j = none := by
  cases e : hit one two i j with
  | none => rfl
  | some k2 =>
    obtain ⟨a, b, c, d, f, g⟩ := hit_some e
    have q2 : hitP one two i j k2 = true := by unfold hitP; rw [c, f]; simp
    rw [n k2 a b] at q2; cases q2
abbrev s_next_pair : Stmt := topS 10
theorem sc_next_pair : FnScope ["one", "two", "table", "place", "first", "second", "whole", "other"] ["one", "two", "table", "place"] (defScope s_next_pair) := ⟨rfl, rfl, rfl, by decide +kernel, rfl, by decide +kernel, by decide +kernel⟩
def spNext (K : PySem.W.Frag) : Sp := fun vs H Q _ => ∃ (a b t pl : Addr) (one two : List Str) (i j : Nat), vs = [.ref a, .ref b, .ref t, .ref pl] ∧ SqT K H a (one.map V.str) ∧ SqT K H b (two.map V.str) ∧ TabOk H t one two ∧ SqT K H pl [.int (i : Int), .int (j : Int)] ∧ 0 < T one two i j ∧ one.length ≤ 1000 ∧ two.length ≤ 1000 ∧
  ∀ (H' : Hp) (p : Addr) (i' k : Nat), Same H H' → SqT K H' p [.int (i' : Int), .int (k : Int)] → PR one two i j = (i', k) :: PR one two (i' + 1) (k + 1) → i' < one.length → k < two.length → Q (.ref p) H'
section
variable {P : Program} {w : World} {K : PySem.W.Frag} {mg : Str → Option Value} {base : Heap}
theorem ok_next {f : Addr} {fd : FuncData} (F : Fun K "next_pair" "next_pair" s_next_pair f fd) (T0 : Txt0 mg) : FnOk P w K mg base CX0 1 f fd ["one", "two", "table", "place"] (spNext K) := by
  refine F.ok sc_next_pair (fun vs H Q E h => ?_) (fun cdv A outer s H vs Q E hr h => ?_)
  · obtain ⟨a, b, t, pl, one, two, i, j, rfl, _⟩ := h
    rfl
  · obtain ⟨a, b, t, pl, one, two, i, j, rfl, hA, hB, tab, hpl, hpos, ha, hb, k⟩ := h
    refine ⟨_, (pss_cons (ps_asg (pv 3) (pg_tup rfl (pgs_cons (pg_name (i := 4) sc_next_pair.nd rfl (Or.inl rfl)) (pgs_cons (pg_name (i := 5) sc_next_pair.nd rfl (Or.inl rfl)) pgs_nil))))
      (pss_cons (ps_set (i := 6) sc_next_pair.nd rfl (Or.inl rfl) (pe_ix ix_list (pe_ix ix_list (pv 2) (pv 4) (fun _ _ => rfl)) (pv 5) (fun _ _ => rfl)))
      (pss_one (ps_while PassesOwn.never (pt_val pe_bl)
        (pss_cons (ps_for PassesOwn.never rfl (pi_range2 (by rfl) T0.z_range (pa_cons (pv 5) (pa_cons (pe_callB call_len_seq (by rfl) T0.z_len PySem.boot_len (pa_cons (pv 1) pa_nil)) pa_nil))) (pg_name (i := 7) sc_next_pair.nd rfl (Or.inl rfl))
          (pss_one (ps_if (PW.pt (pw_and (pt_cmpR op_eq (pe_ix ix_tup (pv 0) (pv 4) (fun _ _ => rfl)) (pe_ix ix_tup (pv 1) (pv 7) (fun _ _ => rfl)) (nomark _)) (pw_and1 (pt_cmpR op_eq (pe_op op_add (pe_ix ix_list (pe_ix ix_list (pv 2) (pe_op op_add (pv 4) pe_int) (fun _ _ => rfl)) (pe_op op_add (pv 7) pe_int) (fun _ _ => rfl)) pe_int) (pv 6) (nomark _)))))
            (pss_one (ps_ret (pe_tup (pa_cons (pv 4) (pa_cons (pv 7) pa_nil)))))
            pss_nil)))
        (pss_one (ps_aug (i := 4) sc_next_pair.nd rfl (Or.inl rfl) pe_int ip_add))))))), ?_⟩
    have hi : i < one.length := by
      rcases Nat.lt_or_ge i one.length with z | z
      · exact z
      · rw [T_end1 z] at hpos; omega
    have hj : j < two.length := by
      rcases Nat.lt_or_ge j two.length with z | z
      · exact z
      · rw [T_end2 z] at hpos; omega
    obtain ⟨as, r, row, hT, hr1, hr2, hr3⟩ := tab.get (Nat.le_of_lt hi) (Nat.le_of_lt hj)
    refine ⟨_, rfl, pl, _, rfl, hpl, rfl, _, _, rfl, _, _, rfl, rfl, ?_⟩
    refine ⟨_, rfl, _, rfl, t, as, (i : Int), _, rfl, rfl, SqL.of hT, atI_nat hr1, _, rfl, r, row, (j : Int), _, rfl, rfl, SqL.of hr2, atI_nat hr3, ?_⟩
    refine ⟨fun m σ H' => ∃ (q : Nat) (x7 : Option V), m = one.length - q ∧ σ = [some (.ref a), some (.ref b), some (.ref t), some (.ref pl), some (.int (q : Int)), some (.int (j : Int)), some (.int (T one two i j : Int)), x7] ∧
        H' = H ∧ T one two q j = T one two i j ∧ PR one two i j = PR one two q j, ⟨_, i, none, rfl, rfl, rfl, rfl, rfl⟩, ?_⟩
    rintro m σ H2 ⟨q, x7, rfl, rfl, rfl, eT, eP⟩
    have hq : q < one.length := by
      rcases Nat.lt_or_ge q one.length with z | z
      · exact z
      · rw [T_end1 z] at eT; omega
    refine ⟨_, rfl, ?_⟩
    refine ite2 (fun _ => ?_) (fun e => absurd rfl e)
    refine ⟨fun σ' H' => ∃ m', m' < one.length - q ∧ ∃ (q : Nat) (x7 : Option V), m' = one.length - q ∧ σ' = [some (.ref a), some (.ref b), some (.ref t), some (.ref pl), some (.int (q : Int)), some (.int (j : Int)), some (.int (T one two i j : Int)), x7] ∧
        H' = H2 ∧ T one two q j = T one two i j ∧ PR one two i j = PR one two q j, fun _ _ h => h, ?_⟩
    refine ⟨_, rfl, _, rfl, b, _, rfl, .inr hB, _, _, rfl, ⟨by omega, by omega, ?_, ?_⟩, ?_⟩
    · simp only [List.length_map]; omega
    · simp only [List.length_map]; omega
    have en : (((two.map V.str).length : Int) - (j : Int)).toNat = two.length - j := by rw [List.length_map]; omega
    rw [en]
    refine for_it walk_range (fun c σ H' => ∃ (x7 : Option V), σ = [some (.ref a), some (.ref b), some (.ref t), some (.ref pl), some (.int (q : Int)), some (.int (j : Int)), some (.int (T one two i j : Int)), x7] ∧ H' = H2 ∧ ∀ k', j ≤ k' → k' < j + c → hitP one two q j k' = false) ⟨x7, rfl, rfl, fun k' h1 h2 => by omega⟩ (fun _ _ _ _ _ => trivial) ?_ ?_
    · rintro c x σ H3o H3 hc ⟨x7, rfl, rfl, hn⟩ ⟨rfl, hx⟩
      obtain ⟨m, hm⟩ : ∃ m : Nat, m = j + c := ⟨_, rfl⟩
      have hm' : ((j : Int) + (c : Nat)) = (m : Int) := by omega
      obtain rfl : x = V.int (m : Int) := hx.trans (congrArg V.int hm')
      have hm2 : m < two.length := by omega
      have n1 : one[q]? = some one[q] := List.getElem?_eq_getElem hq
      have n2 : two[m]? = some two[m] := List.getElem?_eq_getElem hm2
      have m1 : (one.map V.str)[q]? = some (V.str one[q]) := by rw [List.getElem?_map, n1]; rfl
      have m2 : (two.map V.str)[m]? = some (V.str two[m]) := by rw [List.getElem?_map, n2]; rfl
      obtain ⟨as1, r', row1, q1, q2, q3, q4⟩ := tab.get (i := q + 1) (j := m + 1) (by omega) (by omega)
      have n0 : T one two q j = T one two i j := eT
      refine tAnd_pure (fun Q h => ⟨_, rfl, _, rfl, a, _, _, _, rfl, rfl, hA, atI_nat m1, _, rfl, _, rfl, b, _, _, _, rfl, rfl, hB, atI_nat m2, rfl, _, rfl, h⟩)
        (fun Q h => ⟨_, rfl, _, rfl, _, _, rfl, rfl, t, as1, _, _, rfl, rfl, SqL.of q1, atI_nat (j := q + 1) q2, _, rfl, _, _, rfl, rfl, _, _, _, _, rfl, rfl, SqL.of q3, atI_nat (j := m + 1) q4, _, _, rfl, rfl, _, rfl, rfl, _, rfl, h⟩) ?_
      have hh : hitP one two q j m = (decide (V.str one[q] = V.str two[m]) && decide ((fun i j => V.int (i + j)) (T one two (q + 1) (m + 1) : Int) 1 = V.int (T one two i j : Int))) := by
        unfold hitP
        rw [n1, n2, n0]
        congr 1
        · apply decide_eq_decide.mpr
          constructor
          · intro z; rw [Option.some.inj z]
          · intro z; rw [V.str.inj z]
        · apply decide_eq_decide.mpr
          constructor
          · intro z; rw [← z]; rfl
          · intro z
            have := V.int.inj z
            omega
      dsimp only at hh ⊢
      refine ite2 (fun e => ?_) (fun e => ?_)
      · rw [e] at hh
        have e1 := hit_mk (i := q) (by omega) hm2 hh (fun k' h1 h2 => hn k' h1 (by omega))
        exact ⟨_, rfl, _, rfl, by show 2 ≤ sizeLine; decide, fun p hp => k _ p q m (same_new hp) (.inl (.inl upd_same)) (by rw [eP, PR_some e1]) hq hm2⟩
      · rw [Bool.not_eq_true] at e
        rw [e] at hh
        refine ⟨_, rfl, rfl, fun k' h1 h2 => ?_⟩
        by_cases z : k' < j + c
        · exact hn k' h1 z
        · have z2 : k' = m := by omega
          rw [z2]; exact hh
    · rintro σ H3 ⟨x7, rfl, rfl, hn⟩
      have e1 : hit one two q j = none := hit_no fun k' h1 h2 => hn k' h1 (by omega)
      exact ⟨_, rfl, _, _, rfl, rfl, _, by omega, q + 1, x7, rfl, rfl, rfl, by rw [T_none e1]; exact eT, by rw [eP, PR_none e1]⟩
end
end VK
end

section
set_option Elab.async false
set_option linter.all false
set_option maxRecDepth 100000
set_option maxHeartbeats 4000000
namespace VK
open PySem L2
theorem T_shift (one two : List Str) (s i j : Nat) : T one two (s + i) (s + j) = T (one.drop s) (two.drop s) i j := by
  unfold T
  rw [List.drop_drop, List.drop_drop]
theorem hitP_shift (one two : List Str) (s i j k : Nat) : hitP one two (s + i) (s + j) (s + k) = hitP (one.drop s) (two.drop s) i j k := by
  unfold hitP
  have e1 : s + i + 1 = s + (i + 1) := by omega
  have e2 : s + k + 1 = s + (k + 1) := by omega
  rw [e1, e2, T_shift, T_shift, List.getElem?_drop, List.getElem?_drop]
theorem hit_shift (one two : List Str) (s i j : Nat) : hit one two (s + i) (s + j) = (hit (one.drop s) (two.drop s) i j).map (s + ·) := by
  cases e : hit (one.drop s) (two.drop s) i j with
  | none =>
    refine hit_no fun k' h1 h2 => ?_
    have e1 : k' = s + (k' - s) := by omega
    rw [e1, hitP_shift]
    cases q : hitP (one.drop s) (two.drop s) i j (k' - s) with
    | false => rfl
    | true =>
      exfalso
      unfold hitP at q
      refine hit_none e (k := k' - s) (by omega) (by rw [List.length_drop]; omega) ?_
      simpa using q
  | some k =>
    obtain ⟨a, b, c, d, f, g⟩ := hit_some e
    rw [List.length_drop] at b
    show hit one two (s + i) (s + j) = some (s + k)
    refine hit_mk (by omega) (by omega) ?_ fun k' h1 h2 => ?_
    · rw [hitP_shift]; unfold hitP; rw [c, f]; simp
    · have e1 : k' = s + (k' - s) := by omega
      rw [e1, hitP_shift]
      exact g _ (by omega) (by omega)
def shf (s : Nat) (p : Nat × Nat) : Nat × Nat := (s + p.1, s + p.2)
theorem PR_shift (one two : List Str) (s : Nat) : ∀ (d i j : Nat), one.length - (s + i) = d → PR one two (s + i) (s + j) = (PR (one.drop s) (two.drop s) i j).map (shf s)
  | 0, i, j, e => by
    rw [PR_end (by omega), PR_end (by rw [List.length_drop]; omega)]; rfl
  | d + 1, i, j, e => by
    have e1 : s + i + 1 = s + (i + 1) := by omega
    cases h : hit (one.drop s) (two.drop s) i j with
    | none =>
      have h2 := hit_shift one two s i j
      rw [h] at h2
      rw [PR_none h2, PR_none h, e1, PR_shift one two s d (i + 1) j (by omega)]
    | some k =>
      have h2 := hit_shift one two s i j
      rw [h] at h2
      have e2 : s + k + 1 = s + (k + 1) := by omega
      rw [PR_some h2, PR_some h, e1, e2, PR_shift one two s d (i + 1) (k + 1) (by omega)]
      rfl
def diag (s : Nat) : List (Nat × Nat) := (List.range s).map fun q => (q, q)
/-- equal lines ahead -/
theorem pairs_pre {one two : List Str} : ∀ s : Nat, s ≤ one.length → s ≤ two.length → (∀ q, q < s → one[q]? = two[q]?) → pairs one two = diag s ++ PR one two s s
  | 0, _, _, _ => rfl
  | s + 1, h1, h2, h => by
    rw [pairs_pre s (by omega) (by omega) fun q hq => h q (by omega)]
    have e : hit one two s s = some s := by
      refine hit_mk (Nat.le_refl _) (by omega) ?_ fun k' a b => by omega
      have n1 : one[s]? = some one[s] := List.getElem?_eq_getElem (by omega)
      have n2 : two[s]? = some one[s] := by rw [← h s (by omega), n1]
      unfold hitP
      rw [n1, n2, T_eq n1 n2]; simp
    rw [PR_some e]
    unfold diag
    rw [List.range_succ, List.map_append, List.append_assoc]; rfl
theorem pairs_eq {one two : List Str} {s : Nat} (h1 : s ≤ one.length) (h2 : s ≤ two.length) (h : ∀ q, q < s → one[q]? = two[q]?) : pairs one two = diag s ++ (PR (one.drop s) (two.drop s) 0 0).map (shf s) := by
  rw [pairs_pre s h1 h2 h]
  have := PR_shift one two s _ 0 0 rfl
  rw [Nat.add_zero] at this
  rw [this]
end VK
end

section
set_option Elab.async false
set_option linter.all false
set_option pp.maxSteps 1500
set_option maxRecDepth 100000
set_option maxHeartbeats 4000000
namespace VK
open PySem L2
abbrev s_kept_pairs : Stmt := topS 9
theorem sc_kept_pairs : FnScope ["one", "two", "same", "found", "table", "first", "second", "place"] ["one", "two"] (defScope s_kept_pairs) := ⟨rfl, rfl, rfl, by decide +kernel, rfl, by decide +kernel, by decide +kernel⟩
def spKept (K : PySem.W.Frag) (C : Addr) : Sp := fun vs H Q E => ∃ (a b : Addr) (one two : List Str), vs = [.ref a, .ref b] ∧ SqT K H a (one.map V.str) ∧ SqT K H b (two.map V.str) ∧ one.length ≤ 1000 ∧ two.length ≤ 1000 ∧
  (∀ s, s ≤ one.length → s ≤ two.length → (s = one.length ∨ s = two.length ∨ one[s]? ≠ two[s]?) → (∀ q, q < s → one[q]? = two[q]?) → 40000 < (one.length - s) * (two.length - s) → ∀ H', Same H H' → E (.ref C) none H') ∧
  ((∃ s, s ≤ one.length ∧ s ≤ two.length ∧ (s = one.length ∨ s = two.length ∨ one[s]? ≠ two[s]?) ∧ (∀ q, q < s → one[q]? = two[q]?) ∧ (one.length - s) * (two.length - s) ≤ 40000) → ∀ (H' : Hp) (v : V), Same H H' → Dp K H' v (pairsD (pairs one two)) → Q v H')
section
variable {P : Program} {w : World} {K : PySem.W.Frag} {mg : Str → Option Value} {base : Heap}
theorem ok_kept {f fC fN C : Addr} {fd fdC fdN : FuncData} (F : Fun K "kept_pairs" "kept_pairs" s_kept_pairs f fd) (T0 : Txt0 mg) (L : TL K mg C) {tM : Tok} (hc : mg "MOST_PLACES" = some (.int 40000 tM)) (DC : Df K mg "common_table" s_common_table ["one", "two"] fC fdC) (DN : Df K mg "next_pair" s_next_pair ["one", "two", "table", "place"] fN fdN) : FnOk P w K mg base (L2N.CX P w) 2 f fd ["one", "two"] (spKept K C) := by
  have GC : FnOk P w K mg base (L2N.CX P w) 1 fC fdC ["one", "two"] (spTable K C) := ok_table DC.F T0 L hc
  have GN : FnOk P w K mg base CX0 1 fN fdN ["one", "two", "table", "place"] (spNext K) := ok_next DN.F T0
  refine okXN F sc_kept_pairs (fun vs H Q E h => ?_) (fun cdv A outer s H vs Q E hr h => ?_)
  · obtain ⟨a, b, one, two, rfl, _⟩ := h
    rfl
  · obtain ⟨a, b, one, two, rfl, hA, hB, ha, hb, kE, k⟩ := h
    refine ⟨_, (pss_cons (ps_set (i := 2) sc_kept_pairs.nd rfl (Or.inl rfl) pe_int)
      (pss_cons (ps_while (passes_of rfl) (PW.pt (pw_and (pt_cmpR op_lt (pv 2) (pe_callB (call_min2 rfl) (by rfl) T0.z_min (by decide +kernel) (pa_cons (pe_callB call_len_seq (by rfl) T0.z_len PySem.boot_len (pa_cons (pv 0) pa_nil)) (pa_cons (pe_callB call_len_seq (by rfl) T0.z_len PySem.boot_len (pa_cons (pv 1) pa_nil)) pa_nil))) (nomark _)) (pw_and1 (pt_cmpR op_eq (pe_ix ix_tup (pv 0) (pv 2) (fun _ _ => rfl)) (pe_ix ix_tup (pv 1) (pv 2) (fun _ _ => rfl)) (nomark _)))))
        (pss_one (ps_aug (i := 2) sc_kept_pairs.nd rfl (Or.inl rfl) pe_int ip_add)))
      (pss_cons (ps_setLc (i := 3) (own := [("place", 7)]) (g := gName 7) (tt := tYes) rfl sc_kept_pairs.nd rfl rfl (sw_true rfl rfl rfl (by decide +kernel)) (pi_range1 (by rfl) T0.z_range (pa_cons (pv 2) pa_nil)) (blkOk_by (own := [("place", 7)]) (N := ["one", "two", "same", "found", "table", "first", "second", "place"]) (sc := defScope s_kept_pairs) (by decide +kernel)) (fun _ _ _ _ _ => (pg_name (i := 7) sc_kept_pairs.nd rfl (Or.inl rfl))) (fun _ _ _ _ _ => pts_nil) (fun _ _ _ _ _ => (pe_tup (pa_cons (pv 7) (pa_cons (pv 7) pa_nil)))))
      (pss_cons (ps_set (i := 4) sc_kept_pairs.nd rfl (Or.inl rfl) (pe_call GC hr rfl DC.m DC.F.kp DC.b .nil (pass_on rfl rfl (L2N.takes_of rfl rfl rfl rfl)) (pa_cons (pe_slice sl_tupA (pv 0) (po_some (pv 2)) po_none) (pa_cons (pe_slice sl_tupA (pv 1) (po_some (pv 2)) po_none) pa_nil))))
      (pss_cons (ps_asg (pe_tup (pa_cons pe_int (pa_cons pe_int pa_nil))) (pg_tup rfl (pgs_cons (pg_name (i := 5) sc_kept_pairs.nd rfl (Or.inl rfl)) (pgs_cons (pg_name (i := 6) sc_kept_pairs.nd rfl (Or.inl rfl)) pgs_nil))))
      (pss_cons (ps_while (passes_of rfl) (pt_truth (pe_ix ix_list (pe_ix ix_list (pv 4) (pv 5) (fun _ _ => rfl)) (pv 6) (fun _ _ => rfl)) (by intro _; rfl))
        (pss_cons (ps_asg (pe_call GN hr rfl DN.m DN.F.kp DN.b .nil pass0 (pa_cons (pe_slice sl_tupA (pv 0) (po_some (pv 2)) po_none) (pa_cons (pe_slice sl_tupA (pv 1) (po_some (pv 2)) po_none) (pa_cons (pv 4) (pa_cons (pe_tup (pa_cons (pv 5) (pa_cons (pv 6) pa_nil))) pa_nil))))) (pg_tup rfl (pgs_cons (pg_name (i := 5) sc_kept_pairs.nd rfl (Or.inl rfl)) (pgs_cons (pg_name (i := 6) sc_kept_pairs.nd rfl (Or.inl rfl)) pgs_nil))))
        (pss_cons (ps_expr (pe_bm PySem.F.plainAttrs_list PySem.F.slot_list_append PySem.F.type_list_append mt_append (pv 3) (pa_cons (pe_tup (pa_cons (pe_op op_add (pv 2) (pv 5)) (pa_cons (pe_op op_add (pv 2) (pv 6)) pa_nil))) pa_nil)))
        (pss_one (ps_par (i := 5) (j := 6) (by rfl) sc_kept_pairs.nd rfl rfl (by decide) rfl rfl (pa_cons (pe_op op_add (pv 5) pe_int) (pa_cons (pe_op op_add (pv 6) pe_int) pa_nil)) (by rfl))))))
      (pss_one (ps_ret (pe_callTy call_tuple_of (by rfl) T0.z_tuple (by decide +kernel) (pa_cons (pv 3) pa_nil)))))))))), ?_⟩
    refine seq_c ?_
    refine cut (fun σ H' => ∃ (q : Nat), σ = [some (.ref a), some (.ref b), some (.int (q : Int)), none, none, none, none, none] ∧
        H' = H ∧ q ≤ one.length ∧ q ≤ two.length ∧ (∀ q', q' < q → one[q']? = two[q']?) ∧ (q = one.length ∨ q = two.length ∨ one[q]? ≠ two[q]?)) (fun nx hn => ?_) ?_
    · refine ⟨fun m σ H' => ∃ (q : Nat), m = one.length - q ∧ σ = [some (.ref a), some (.ref b), some (.int (q : Int)), none, none, none, none, none] ∧
        H' = H ∧ q ≤ one.length ∧ q ≤ two.length ∧ ∀ q', q' < q → one[q']? = two[q']?, ⟨_, 0, rfl, rfl, rfl, Nat.zero_le _, Nat.zero_le _, fun q' h => by omega⟩, ?_⟩
      rintro m σ H2 ⟨q, rfl, rfl, rfl, h1, h2, hpre⟩
      have emin : (if (((two.map V.str).length : Nat) : Int) < (((one.map V.str).length : Nat) : Int) then (((two.map V.str).length : Nat) : Int) else (((one.map V.str).length : Nat) : Int)) = ((min one.length two.length : Nat) : Int) := by
        rw [List.length_map, List.length_map]; split <;> omega
      refine ⟨_, rfl, _, rfl, a, _, rfl, .inr hA, _, rfl, b, _, rfl, .inr hB, _, _, rfl, _, _, rfl, rfl, _, rfl, ?_⟩
      rw [emin]
      dsimp only
      refine ite2 (fun e => ?_) (fun e => ?_)
      · have e1 := of_decide_eq_true e
        have l1 : q < one.length := by omega
        have l2 : q < two.length := by omega
        have n1 : one[q]? = some one[q] := List.getElem?_eq_getElem l1
        have n2 : two[q]? = some two[q] := List.getElem?_eq_getElem l2
        have m1 : (one.map V.str)[q]? = some (V.str one[q]) := by rw [List.getElem?_map, n1]; rfl
        have m2 : (two.map V.str)[q]? = some (V.str two[q]) := by rw [List.getElem?_map, n2]; rfl
        refine ⟨_, rfl, _, rfl, a, _, _, _, rfl, rfl, hA, atI_nat m1, _, rfl, _, rfl, b, _, _, _, rfl, rfl, hB, atI_nat m2, rfl, _, rfl, ?_⟩
        refine ite2 (fun e => ?_) (fun e => ?_)
        · have e2 : one[q] = two[q] := V.str.inj (of_decide_eq_true e)
          refine ⟨fun σ' H' => ∃ m', m' < one.length - q ∧ ∃ (q : Nat), m' = one.length - q ∧ σ' = [some (.ref a), some (.ref b), some (.int (q : Int)), none, none, none, none, none] ∧
            H' = H2 ∧ q ≤ one.length ∧ q ≤ two.length ∧ ∀ q', q' < q → one[q']? = two[q']?, fun _ _ h => h, ?_⟩
          refine ⟨_, rfl, _, _, rfl, rfl, _, by omega, q + 1, rfl, rfl, rfl, l1, l2, fun q' hq' => ?_⟩
          by_cases z : q' < q
          · exact hpre q' z
          · have : q' = q := by omega
            rw [this, n1, n2, e2]
        · refine hn _ _ ⟨q, rfl, rfl, h1, h2, hpre, .inr (.inr fun z => e (decide_eq_true ?_))⟩
          rw [n1, n2] at z
          rw [Option.some.inj z]
      · have e1 : ¬ (q : Int) < ((min one.length two.length : Nat) : Int) := fun z => e (decide_eq_true z)
        refine hn _ _ ⟨q, rfl, rfl, h1, h2, hpre, ?_⟩
        omega
    · rintro σ H2 ⟨s', rfl, rfl, hs1, hs2, hpre, hend⟩
      refine ⟨_, rfl, _, rfl, by omega, by omega, fun fo hfo => ?_⟩
      refine lc_range (lo := 0) (n := ((s' : Nat) : Int).toNat) (fun i H' => ∃ ws, H' fo = some (.lst ws) ∧ DpAll K H' ws ((diag i).map pairD) ∧ Same H2 H') ⟨[], upd_same, .nil, same_new hfo⟩ ?_ ?_
      · rintro i H3 hi ⟨ws, hw, hd, s3⟩
        refine ⟨rfl, _, rfl, _, rfl, by show 2 ≤ sizeLine; decide, fun p hp => ?_⟩
        have hw4 : upd H3 p (.tup [.int (0 + (i : Nat)), .int (0 + (i : Nat))]) fo = some (.lst ws) := by rw [upd_ne (ne_of_none hw hp)]; exact hw
        have lw : ws.length < 2000 := by
          have := dpAll_len hd
          unfold diag at this
          simp at this
          have : ((s' : Nat) : Int).toNat = s' := rfl
          omega
        refine ⟨ws, hw4, Nat.lt_of_lt_of_le lw (by decide), ws ++ [.ref p], upd_same, ?_, ?_⟩
        · have tk : TK K H3 (upd (upd H3 p (.tup [.int (0 + (i : Nat)), .int (0 + (i : Nat))])) fo (.lst (ws ++ [.ref p]))) := (TK.new hp).trans (TK.lst hw4)
          have ed : diag (i + 1) = diag i ++ [(i, i)] := by
            unfold diag
            rw [List.range_succ, List.map_append]; rfl
          rw [ed, List.map_append]
          refine dpAll_app (pairs_keep tk hd) (dpAll_one (dp_pair ?_))
          refine TK.lst hw4 _ _ (.inl (.inl ?_))
          rw [upd_same, Int.zero_add]
        · exact same_mut (s3.trans (same_new hp)) hfo
      · rintro H3 ⟨ws, hw, hd, s3⟩
        have es : ((s' : Nat) : Int).toNat = s' := rfl
        rw [es] at hd
        dsimp only [gName]
        refine ⟨_, rfl, _, rfl, _, rfl, ?_⟩
        dsimp only [tNoPart]
        refine sl_linesFrom (s3.seqT hA) fun H4 p1 s34 hp1 => ?_
        refine ⟨_, rfl, _, rfl, _, rfl, ?_⟩
        dsimp only [tNoPart]
        refine sl_linesFrom ((s3.trans s34).seqT hB) fun H5 p2 s45 hp2 => ?_
        have s25 := s3.trans (s34.trans s45)
        refine ⟨p1, p2, _, _, rfl, s45.seqT hp1, hp2, ?_, ?_, fun z => ?_, fun hle H6 t s56 tab => ?_⟩
        · rw [List.length_drop]; omega
        · rw [List.length_drop]; omega
        · rw [List.length_drop, List.length_drop] at z
          exact kE s' hs1 hs2 hend hpre z _ s25
        · rw [List.length_drop, List.length_drop] at hle
          have k := k ⟨s', hs1, hs2, hend, hpre, hle⟩
          have htab : ∀ H7, Sv fo H6 H7 → TabAt H5 H7 t (one.drop s') (two.drop s') := fun H7 q => tab.sv ((s34.trans s45) _ _ hw) q
          have s26 := s25.trans s56
          have hw6 : H6 fo = some (.lst ws) := (s34.trans (s45.trans s56)) _ _ hw
          have d6 : DpAll K H6 ws ((diag s').map pairD) := pairs_keep (TK.same (s34.trans (s45.trans s56))) hd
          refine ⟨by show 2 ≤ sizeLine; decide, fun pz hpz => ?_⟩
          refine ⟨pz, _, rfl, .inl (.inl upd_same), rfl, _, _, rfl, _, _, rfl, rfl, ?_⟩
          obtain ⟨H7, e7⟩ : ∃ H7, H7 = upd H6 pz (.tup [.int 0, .int 0]) := ⟨_, rfl⟩
          rw [← e7]
          have s67 : Same H6 H7 := by rw [e7]; exact same_new hpz
          refine ⟨fun m σ H' => ∃ (i j : Nat) (vs : List V) (dn : List (Nat × Nat)), m = one.length - i ∧ σ = [some (.ref a), some (.ref b), some (.int (s' : Int)), some (.ref fo), some (.ref t), some (.int (i : Int)), some (.int (j : Int)), none] ∧
            Sv fo H6 H' ∧ Same H2 H' ∧ H' fo = some (.lst vs) ∧ DpAll K H' vs (dn.map pairD) ∧ dn ++ (PR (one.drop s') (two.drop s') i j).map (shf s') = pairs one two ∧ i ≤ one.length - s' ∧ j ≤ two.length - s',
            ⟨_, 0, 0, ws, diag s', rfl, rfl, Sv.same s67, s26.trans s67, s67 _ _ hw6, pairs_keep (TK.same s67) d6, (pairs_eq hs1 hs2 hpre).symm, Nat.zero_le _, Nat.zero_le _⟩, ?_⟩
          rintro m σ H8 ⟨i, j, vs, dn, rfl, rfl, sv, s28, hv, hdd, hp, hi, hj⟩
          have tab8 := (htab _ sv).ok
          have li : i ≤ (one.drop s').length := by rw [List.length_drop]; exact hi
          have lj : j ≤ (two.drop s').length := by rw [List.length_drop]; exact hj
          obtain ⟨as, r, row, hT, hr1, hr2, hr3⟩ := tab8.get li lj
          refine ⟨_, rfl, _, rfl, t, as, (i : Int), _, rfl, rfl, SqL.of hT, atI_nat hr1, _, rfl, r, row, (j : Int), _, rfl, rfl, SqL.of hr2, atI_nat hr3, ?_⟩
          refine ⟨_, rfl, ?_⟩
          dsimp only
          have tpos : ((T (one.drop s') (two.drop s') i j : Int) != 0) = true → 0 < T (one.drop s') (two.drop s') i j := fun z => by
            have : (T (one.drop s') (two.drop s') i j : Int) ≠ 0 := bne_iff_ne.mp z
            omega
          refine ite2 (fun e => ?_) (fun e => ?_)
          · have hpos := tpos e
            refine ⟨fun σ' H' => ∃ m', m' < one.length - i ∧ ∃ (i j : Nat) (vs : List V) (dn : List (Nat × Nat)), m' = one.length - i ∧ σ' = [some (.ref a), some (.ref b), some (.int (s' : Int)), some (.ref fo), some (.ref t), some (.int (i : Int)), some (.int (j : Int)), none] ∧
              Sv fo H6 H' ∧ Same H2 H' ∧ H' fo = some (.lst vs) ∧ DpAll K H' vs (dn.map pairD) ∧ dn ++ (PR (one.drop s') (two.drop s') i j).map (shf s') = pairs one two ∧ i ≤ one.length - s' ∧ j ≤ two.length - s', fun _ _ h => h, ?_⟩
            refine ⟨_, rfl, _, rfl, _, rfl, ?_⟩
            dsimp only [tNoPart]
            refine sl_linesFrom (s28.seqT hA) fun H9 p3 s89 hp3 => ?_
            refine ⟨_, rfl, _, rfl, _, rfl, ?_⟩
            dsimp only [tNoPart]
            refine sl_linesFrom ((s28.trans s89).seqT hB) fun H10 p4 s90 hp4 => ?_
            refine ⟨_, rfl, _, rfl, _, rfl, by show 2 ≤ sizeLine; decide, fun p5 hp5 => ?_⟩
            have sn := same_new (o := .tup [.int (i : Int), .int (j : Int)]) hp5
            have sv11 : Sv fo H6 (upd H10 p5 (.tup [.int (i : Int), .int (j : Int)])) := sv.trans (Sv.same (s89.trans (s90.trans sn)))
            refine ⟨p3, p4, t, p5, _, _, i, j, rfl, (s90.trans sn).seqT hp3, sn.seqT hp4, (htab _ sv11).ok, .inl (.inl upd_same), hpos, ?_, ?_, fun H12 p6 i' k' s12 hp6 ePR li' lk' => ?_⟩
            · rw [List.length_drop]; omega
            · rw [List.length_drop]; omega
            rw [List.length_drop] at li' lk'
            have s8c : Same H8 H12 := s89.trans (s90.trans (sn.trans s12))
            have hii : i ≤ i' := by
              have q := PR_row (one := one.drop s') (two := two.drop s') _ i j rfl
              rw [ePR] at q
              exact q.1
            refine ⟨p6, _, rfl, hp6, rfl, _, _, rfl, _, _, rfl, rfl, ?_⟩
            have hv12 : H12 fo = some (.lst vs) := s8c _ _ hv
            have hd12 := pairs_keep (TK.same s8c) hdd
            refine ⟨_, rfl, .inl ⟨rfl, _, SqL.of hv12⟩, _, rfl, _, rfl, _, _, rfl, rfl, _, rfl, _, rfl, _, _, rfl, rfl, by show 2 ≤ sizeLine; decide, fun p7 hp7 => ?_⟩
            obtain ⟨H13, e13⟩ : ∃ H13, H13 = upd H12 p7 (.tup [.int ((s' : Int) + (i' : Int)), .int ((s' : Int) + (k' : Int))]) := ⟨_, rfl⟩
            dsimp only
            rw [← e13]
            have s1213 : Same H12 H13 := by rw [e13]; exact same_new hp7
            have hp13 : H13 p7 = some (.tup [.int ((shf s' (i', k')).1 : Int), .int ((shf s' (i', k')).2 : Int)]) := by
              rw [e13, upd_same]
              unfold shf
              simp
            have hv13 : H13 fo = some (.lst vs) := s1213 _ _ hv12
            have lvs : vs.length < 2000 := by
              have q1 := dpAll_len hdd
              have q2 := congrArg List.length hp
              have q3 : T one two 0 0 ≤ one.length := lcs_le1 _ _
              rw [List.length_append, pairs_len] at q2
              rw [List.length_map] at q1
              omega
            refine ⟨fo, vs, _, rfl, rfl, hv13, Nat.lt_of_lt_of_le lvs (by decide), ?_⟩
            have tk : TK K H8 (upd H13 fo (.lst (vs ++ [.ref p7]))) := (TK.same (s8c.trans s1213)).trans (TK.lst hv13)
            refine ⟨_, rfl, _, _, rfl, rfl, _, rfl, _, _, rfl, rfl, _, _, rfl, _, ?_, i' + 1, k' + 1, vs ++ [.ref p7], dn ++ [shf s' (i', k')], rfl, rfl, ?_, ?_, upd_same, ?_, ?_, by omega, by omega⟩
            · omega
            · exact (sv.trans (Sv.same (s8c.trans s1213))).trans Sv.at_
            · exact same_mut (s28.trans (s8c.trans s1213)) hfo
            · rw [List.map_append]
              refine dpAll_app (pairs_keep tk hdd) (dpAll_one (dp_pair ?_))
              exact TK.lst hv13 _ _ (.inl (.inl hp13))
            · rw [List.append_assoc, ← hp, ePR]; rfl
          · have z : T (one.drop s') (two.drop s') i j = 0 := by
              rcases Nat.eq_zero_or_pos (T (one.drop s') (two.drop s') i j) with z | z
              · exact z
              · exact absurd (bne_iff_ne.mpr (by omega)) e
            rw [PR_zero z] at hp
            have hp : dn = pairs one two := by rw [← hp]; exact (List.append_nil dn).symm
            refine ⟨_, rfl, fo, _, rfl, .inl ⟨SqL.of hv, fun l hl2 => ?_⟩⟩
            refine k _ _ (s28.trans (same_new hl2)) ?_
            refine .tup (.inl (.inl upd_same)) ?_
            rw [← hp]
            exact pairs_keep (TK.new hl2) hdd
end
end VK
end

section
set_option Elab.async false
set_option linter.all false
set_option pp.maxSteps 1500
set_option maxRecDepth 100000
set_option maxHeartbeats 4000000
namespace VK
open PySem L2
abbrev s_hunks_of : Stmt := topS 11
theorem sc_hunks_of : FnScope ["one", "two", "found", "first", "second", "here", "there"] ["one", "two"] (defScope s_hunks_of) := ⟨rfl, rfl, rfl, by decide +kernel, rfl, by decide +kernel, by decide +kernel⟩
def spHunksOf (K : PySem.W.Frag) : Sp := fun vs H Q _ => ∃ (a b : Addr) (one two : List Str), vs = [.ref a, .ref b] ∧ SqT K H a (one.map V.str) ∧ SqT K H b (two.map V.str) ∧ one.length ≤ 1000 ∧ two.length ≤ 1000 ∧ one.length * two.length ≤ 40000 ∧
  ∀ (H' : Hp) (v : V), Same H H' → Dp K H' v (hunksD (hunksL one two)) → Q v H'
section
variable {P : Program} {w : World} {K : PySem.W.Frag} {mg : Str → Option Value} {base : Heap}
theorem ok_hunks {f fC fN fP C : Addr} {fd fdC fdN fdP : FuncData} (F : Fun K "hunks_of" "hunks_of" s_hunks_of f fd) (T0 : Txt0 mg) (L : TL K mg C) {tM : Tok} (hc : mg "MOST_PLACES" = some (.int 40000 tM)) (DC : Df K mg "common_table" s_common_table ["one", "two"] fC fdC) (DN : Df K mg "next_pair" s_next_pair ["one", "two", "table", "place"] fN fdN) (DP : Df K mg "kept_pairs" s_kept_pairs ["one", "two"] fP fdP) : FnOk P w K mg base CX0 3 f fd ["one", "two"] (spHunksOf K) := by
  have GP : FnOk P w K mg base (L2N.CX P w) 2 fP fdP ["one", "two"] (spKept K C) := ok_kept DP.F T0 L hc DC DN
  refine F.ok sc_hunks_of (fun vs H Q E h => ?_) (fun cdv A outer s H vs Q E hr h => ?_)
  · obtain ⟨a, b, one, two, rfl, _⟩ := h
    rfl
  · obtain ⟨a, b, one, two, rfl, hA, hB, ha, hb, hm, k⟩ := h
    refine ⟨_, (pss_cons (ps_par3 (i := 2) (j := 3) (l := 4) (by rfl) sc_hunks_of.nd rfl rfl rfl (by decide) (by decide) (by decide) rfl rfl rfl (pa_cons (pe_lst pa_nil) (pa_cons pe_int (pa_cons pe_int pa_nil))) (by rfl))
      (pss_cons (ps_for PassesOwn.never rfl (pi_tup (pe_op op_catA (pe_call GP hr rfl DP.m DP.F.kp DP.b .nil (pass_no) (pa_cons (pv 0) (pa_cons (pv 1) pa_nil))) (pe_tup (pa_cons (pe_tup (pa_cons (pe_callB call_len_seq (by rfl) T0.z_len PySem.boot_len (pa_cons (pv 0) pa_nil)) (pa_cons (pe_callB call_len_seq (by rfl) T0.z_len PySem.boot_len (pa_cons (pv 1) pa_nil)) pa_nil))) pa_nil)))) (pg_tup rfl (pgs_cons (pg_name (i := 5) sc_hunks_of.nd rfl (Or.inl rfl)) (pgs_cons (pg_name (i := 6) sc_hunks_of.nd rfl (Or.inl rfl)) pgs_nil)))
        (pss_cons (ps_if (PW.pt (pw_or (pt_cmpR op_gt (pv 5) (pv 3) (nomark _)) (pw_or1 (pt_cmpR op_gt (pv 6) (pv 4) (nomark _)))))
          (pss_one (ps_expr (pe_bm PySem.F.plainAttrs_list PySem.F.slot_list_append PySem.F.type_list_append mt_append (pv 2) (pa_cons (pe_tup (pa_cons (pv 3) (pa_cons (pe_callTy call_tupleT (by rfl) T0.z_tuple (by decide +kernel) (pa_cons (pe_slice sl_tupA (pv 0) (po_some (pv 3)) (po_some (pv 5))) pa_nil)) (pa_cons (pe_callTy call_tupleT (by rfl) T0.z_tuple (by decide +kernel) (pa_cons (pe_slice sl_tupA (pv 1) (po_some (pv 4)) (po_some (pv 6))) pa_nil)) pa_nil)))) pa_nil))))
          pss_nil)
        (pss_one (ps_par (i := 3) (j := 4) (by rfl) sc_hunks_of.nd rfl rfl (by decide) rfl rfl (pa_cons (pe_op op_add (pv 5) pe_int) (pa_cons (pe_op op_add (pv 6) pe_int) pa_nil)) (by rfl)))))
      (pss_one (ps_ret (pe_callTy call_tuple_of (by rfl) T0.z_tuple (by decide +kernel) (pa_cons (pv 2) pa_nil)))))), ?_⟩
    refine ⟨by show 0 ≤ sizeLine; decide, fun fo hfo => ?_⟩
    refine ⟨_, _, _, rfl, ?_⟩
    have s0 : Same H (upd H fo (.lst [])) := same_new hfo
    refine ⟨_, rfl, _, rfl, a, b, one, two, rfl, s0.seqT hA, s0.seqT hB, ha, hb, fun z h1 h2 _ _ hz => ?_, fun _ H1 v s1 dv => ?_⟩
    · exfalso
      have := Nat.mul_le_mul (Nat.sub_le one.length z) (Nat.sub_le two.length z)
      omega
    obtain ⟨lp, ws, rfl, hlp1, hd⟩ := of_tupD dv
    have s01 := s0.trans s1
    refine ⟨_, rfl, a, _, rfl, .inr (s01.seqT hA), _, rfl, b, _, rfl, .inr (s01.seqT hB), by show 2 ≤ sizeLine; decide, fun pp hpp => ⟨by show 1 ≤ sizeLine; decide, fun lq hlq => ?_⟩⟩
    obtain ⟨H2, e2⟩ : ∃ H2, H2 = upd H1 pp (.tup [.int ((one.map V.str).length : Int), .int ((two.map V.str).length : Int)]) := ⟨_, rfl⟩
    rw [← e2] at hlq ⊢
    have s12 : Same H1 H2 := by rw [e2]; exact same_new hpp
    have hpp2 : H2 pp = some (.tup [.int (one.length : Int), .int (two.length : Int)]) := by rw [e2, upd_same, List.length_map, List.length_map]
    obtain ⟨H3, e3⟩ : ∃ H3, H3 = upd H2 lq (.tup [.ref pp]) := ⟨_, rfl⟩
    rw [← e3]
    have s23 : Same H2 H3 := by rw [e3]; exact same_new hlq
    have s13 := s12.trans s23
    have lws : ws.length ≤ 1000 := by
      have q1 := dpAll_len hd
      have q3 : T one two 0 0 ≤ one.length := lcs_le1 _ _
      rw [List.length_map, pairs_len] at q1
      omega
    refine cat_tupK (s13.seqT hlp1) (ys := [.ref pp]) (.inl (.inl (by rw [e3, upd_same]))) (Nat.le_trans (show ws.length + 1 ≤ 2000 by omega) (by decide)) fun H4 L s34 hL4 => ?_
    obtain ⟨full, hfull⟩ : ∃ full, full = pairs one two ++ [(one.length, two.length)] := ⟨_, rfl⟩
    have d4 : DpAll K H4 (ws ++ [.ref pp]) (full.map pairD) := by
      rw [hfull, List.map_append]
      refine dpAll_app (pairs_keep (TK.same (s13.trans s34)) hd) (dpAll_one (dp_pair ?_))
      exact (s23.trans s34).seqT (.inl (.inl hpp2))
    have hfo1 : H1 fo = some (.lst []) := s1 _ _ upd_same
    have hfo4 : H4 fo = some (.lst []) := (s13.trans s34) _ _ hfo1
    have s4 : Same H H4 := s01.trans (s13.trans s34)
    have ln : (ws ++ [V.ref pp]).length = full.length := by rw [dpAll_len d4, List.length_map]
    have lf : full.length ≤ 1001 := by rw [← ln, List.length_append]; simp; omega
    refine ⟨L, rfl, ⟨_, hL4⟩, ?_⟩
    refine for_it (walk_tup (xs := ws ++ [.ref pp])) (fun c σ H' => ∃ (i j : Nat) (vs : List V) (dn : List Hunk) (x5 x6 : Option V), σ = [some (.ref a), some (.ref b), some (.ref fo), some (.int (i : Int)), some (.int (j : Int)), x5, x6] ∧ Same H H' ∧ TK K H4 H' ∧
        H' fo = some (.lst vs) ∧ DpAll K H' vs (dn.map hunkD) ∧ dn ++ hunksF one two i j (full.drop c) = hunksL one two ∧ dn.length ≤ c) ?_ (fun c σ H' _ h => ?_) ?_ ?_
    · exact ⟨0, 0, [], [], none, none, rfl, s4, TK.refl _ _, hfo4, .nil, by rw [hfull]; rfl, Nat.le_refl _⟩
    · obtain ⟨i, j, vs, dn, x5, x6, rfl, h1, h2, h3, h4⟩ := h
      exact h2 _ _ hL4
    · rintro c x σ H5o H5 hc ⟨i, j, vs, dn, x5, x6, rfl, sm, tk, hv, hdd, hp, hl⟩ ⟨rfl, hx⟩
      have hcf : c < full.length := by rw [← ln]; exact hc
      obtain ⟨⟨h, t⟩, ht⟩ : ∃ q, q = full[c] := ⟨_, rfl⟩
      have hf : full[c]? = some (h, t) := by rw [List.getElem?_eq_getElem hcf, ht]
      obtain ⟨v, hv1, hv2⟩ := dpAll_at (pairs_keep tk d4) (k := c) (d := pairD (h, t)) (by rw [List.getElem?_map, hf]; rfl)
      obtain rfl : v = x := Option.some.inj (hv1.symm.trans hx)
      obtain ⟨q, rfl, hq⟩ := of_pair hv2
      have ed : full.drop c = (h, t) :: full.drop (c + 1) := by rw [List.drop_eq_getElem_cons hcf, ← ht]
      rw [ed, hunksF] at hp
      refine ⟨q, _, rfl, hq, rfl, ?_⟩
      have fin : ∀ (vs' : List V) (dn' : List Hunk) (H' : Hp), Same H H' → TK K H4 H' → H' fo = some (.lst vs') → DpAll K H' vs' (dn'.map hunkD) → dn' ++ hunksF one two (h + 1) (t + 1) (full.drop (c + 1)) = hunksL one two → dn'.length ≤ c + 1 →
          ∃ (i j : Nat) (vs : List V) (dn : List Hunk) (x5 x6 : Option V), [some (.ref a), some (.ref b), some (.ref fo), some (V.int ((h : Int) + 1)), some (V.int ((t : Int) + 1)), some (V.int (h : Int)), some (V.int (t : Int))] = [some (.ref a), some (.ref b), some (.ref fo), some (.int (i : Int)), some (.int (j : Int)), x5, x6] ∧ Same H H' ∧ TK K H4 H' ∧
        H' fo = some (.lst vs) ∧ DpAll K H' vs (dn.map hunkD) ∧ dn ++ hunksF one two i j (full.drop (c + 1)) = hunksL one two ∧ dn.length ≤ c + 1 := fun vs' dn' H' p1 p2 p4 p5 p6 p7 => ⟨h + 1, t + 1, vs', dn', _, _, rfl, p1, p2, p4, p5, p6, p7⟩
      refine ⟨_, _, rfl, _, _, rfl, rfl, ?_⟩
      refine cut (fun σ' H' => σ' = [some (.ref a), some (.ref b), some (.ref fo), some (V.int (i : Int)), some (V.int (j : Int)), some (V.int (h : Int)), some (V.int (t : Int))] ∧ ∃ (vs' : List V) (dn' : List Hunk), Same H H' ∧ TK K H4 H' ∧ H' fo = some (.lst vs') ∧ DpAll K H' vs' (dn'.map hunkD) ∧ dn' ++ hunksF one two (h + 1) (t + 1) (full.drop (c + 1)) = hunksL one two ∧ dn'.length ≤ c + 1) (fun nx hn => ?_) ?_
      · refine tOr_pure (fun Q h => ⟨_, rfl, _, rfl, _, _, rfl, rfl, _, rfl, h⟩) (fun Q h => ⟨_, rfl, _, rfl, _, _, rfl, rfl, _, rfl, h⟩) ?_
        refine ite2 (fun e => ?_) (fun e => ?_)
        · have hc2 : i < h ∨ j < t := by
            rw [Bool.or_eq_true, decide_eq_true_eq, decide_eq_true_eq] at e
            omega
          rw [if_pos hc2] at hp
          refine ⟨_, rfl, .inl ⟨rfl, _, SqL.of hv⟩, _, rfl, _, rfl, _, rfl, _, rfl, _, rfl, _, rfl, sl_lines (sm.seqT hA) fun H6 p s56 hp6 => ?_⟩
          refine ⟨p, _, rfl, hp6, _, rfl, _, rfl, _, rfl, _, rfl, _, rfl, sl_lines ((sm.trans s56).seqT hB) fun H7 r s67 hr7 => ?_⟩
          refine ⟨r, _, rfl, hr7, by show 3 ≤ sizeLine; decide, fun z hz => ?_⟩
          have s57 := s56.trans s67
          have hv7 : H7 fo = some (.lst vs) := s57 _ _ hv
          have nfz : fo ≠ z := ne_of_none hv7 hz
          have hv8 : upd H7 z (.tup [.int (i : Int), .ref p, .ref r]) fo = some (.lst vs) := by rw [upd_ne nfz]; exact hv7
          have lvs : vs.length < 2000 := by
            have q1 := dpAll_len hdd
            rw [List.length_map] at q1
            omega
          refine ⟨fo, vs, _, rfl, rfl, hv8, Nat.lt_of_lt_of_le lvs (by decide), ?_⟩
          have tk8 : TK K H5 (upd (upd H7 z (.tup [.int (i : Int), .ref p, .ref r])) fo (.lst (vs ++ [.ref z]))) := ((TK.same s57).trans (TK.new hz)).trans (TK.lst hv8)
          refine hn _ _ ⟨rfl, vs ++ [.ref z], dn ++ [⟨i, cutL one i h, cutL two j t⟩], ?_, tk.trans tk8, upd_same, ?_, ?_, ?_⟩
          · exact same_mut ((sm.trans s57).trans (same_new hz)) hfo
          · rw [List.map_append]
            refine dpAll_app (hunks_keep tk8 hdd) (dpAll_one (dp_hunk (b := p) (c := r) ?_ ?_ ?_))
            · exact TK.lst hv8 _ _ (.inl (.inl upd_same))
            · exact ((TK.new hz).trans (TK.lst hv8)) _ _ (s67.seqT hp6)
            · exact ((TK.new hz).trans (TK.lst hv8)) _ _ hr7
          · rw [List.append_assoc]; exact hp
          · rw [List.length_append]; exact Nat.succ_le_succ hl
        · have hc2 : ¬ (i < h ∨ j < t) := by
            intro q
            apply e
            rw [Bool.or_eq_true, decide_eq_true_eq, decide_eq_true_eq]
            omega
          rw [if_neg hc2] at hp
          exact hn _ _ ⟨rfl, vs, dn, sm, tk, hv, hdd, hp, Nat.le_succ_of_le hl⟩
      · rintro σ6 H6 ⟨rfl, vs', dn', p1, p2, p4, p5, p6, p7⟩
        exact ⟨_, rfl, _, _, rfl, rfl, _, rfl, _, _, rfl, rfl, _, _, rfl, fin _ _ _ p1 p2 p4 p5 p6 p7⟩
    · rintro σ H5 ⟨i, j, vs, dn, x5, x6, rfl, sm, tk, hv, hdd, hp, hl⟩
      rw [ln, List.drop_length] at hp
      have hp : dn = hunksL one two := by rw [← hp]; exact (List.append_nil dn).symm
      refine ⟨_, rfl, fo, _, rfl, .inl ⟨SqL.of hv, fun l hl2 => ?_⟩⟩
      refine k _ _ (sm.trans (same_new hl2)) ?_
      refine .tup (.inl (.inl upd_same)) ?_
      rw [← hp]
      exact hunks_keep (TK.new hl2) hdd
end
end VK
end

section
set_option Elab.async false
set_option linter.all false
set_option pp.maxSteps 1500
set_option maxRecDepth 100000
set_option maxHeartbeats 4000000
namespace VK
open PySem L2
abbrev s_far : Stmt := topS 12
theorem sc_far : FnScope ["one", "two"] ["one", "two"] (defScope s_far) := ⟨rfl, rfl, rfl, by decide +kernel, rfl, by decide +kernel, by decide +kernel⟩
abbrev s_likeness : Stmt := topS 13
theorem sc_likeness : FnScope ["one", "two"] ["one", "two"] (defScope s_likeness) := ⟨rfl, rfl, rfl, by decide +kernel, rfl, by decide +kernel, by decide +kernel⟩
def spFar (K : PySem.W.Frag) : Sp := fun vs H Q _ => ∃ (a b : Addr) (one two : List Str), vs = [.ref a, .ref b] ∧ SqT K H a (one.map V.str) ∧ SqT K H b (two.map V.str) ∧ one.length ≤ 1000 ∧ two.length ≤ 1000 ∧ one.length * two.length ≤ 40000 ∧
  ∀ (H' : Hp), Same H H' → Q (.int ((one.length : Int) + (two.length : Int) - 2 * ((pairs one two).length : Int))) H'
def spLike (K : PySem.W.Frag) : Sp := fun vs H Q _ => ∃ (a b : Addr) (one two : List Str), vs = [.ref a, .ref b] ∧ SqT K H a (one.map V.str) ∧ SqT K H b (two.map V.str) ∧ one.length ≤ 1000 ∧ two.length ≤ 1000 ∧ one.length * two.length ≤ 40000 ∧
  ∀ (H' : Hp) (p : Addr), Same H H' → SqT K H' p [.int ((pairs one two).length : Int), .int ((one.length : Int) + (two.length : Int))] → Q (.ref p) H'
section
variable {P : Program} {w : World} {K : PySem.W.Frag} {mg : Str → Option Value} {base : Heap}
theorem ok_far {f fC C : Addr} {fd fdC : FuncData} (F : Fun K "far" "far" s_far f fd) (T0 : Txt0 mg) (L : TL K mg C) {tM : Tok} (hc : mg "MOST_PLACES" = some (.int 40000 tM)) (DC : Df K mg "common_table" s_common_table ["one", "two"] fC fdC) : FnOk P w K mg base CX0 2 f fd ["one", "two"] (spFar K) := by
  have GC : FnOk P w K mg base (L2N.CX P w) 1 fC fdC ["one", "two"] (spTable K C) := ok_table DC.F T0 L hc
  refine F.ok sc_far (fun vs H Q E h => ?_) (fun cdv A outer s H vs Q E hr h => ?_)
  · obtain ⟨a, b, one, two, rfl, _⟩ := h
    rfl
  · obtain ⟨a, b, one, two, rfl, hA, hB, ha, hb, hm, k⟩ := h
    refine ⟨_, (pss_one (ps_ret (pe_op op_sub (pe_op op_add (pe_callB call_len_seq (by rfl) T0.z_len PySem.boot_len (pa_cons (pv 0) pa_nil)) (pe_callB call_len_seq (by rfl) T0.z_len PySem.boot_len (pa_cons (pv 1) pa_nil))) (pe_op op_mul pe_int (pe_ix ix_list (pe_ix ix_list (pe_call GC hr rfl DC.m DC.F.kp DC.b .nil (pass_no) (pa_cons (pv 0) (pa_cons (pv 1) pa_nil))) pe_int (fun _ _ => rfl)) pe_int (fun _ _ => rfl)))))), ?_⟩
    refine ⟨_, rfl, a, _, rfl, .inr hA, _, rfl, b, _, rfl, .inr hB, _, _, rfl, rfl, ?_⟩
    refine ⟨_, rfl, _, rfl, a, b, one, two, rfl, hA, hB, ha, hb, fun z => by omega, fun _ H1 t s1 tab => ?_⟩
    obtain ⟨as, r, row, hT, hr1, hr2, hr3⟩ := tab.ok.get (i := 0) (j := 0) (Nat.zero_le _) (Nat.zero_le _)
    refine ⟨t, as, _, _, rfl, rfl, SqL.of hT, atI_nat (j := 0) hr1, r, row, _, _, rfl, rfl, SqL.of hr2, atI_nat (j := 0) hr3, _, _, rfl, rfl, ?_, _, _, rfl, rfl, ?_⟩
    · exact .inl ⟨by decide, by decide⟩
    have q := k H1 s1
    rw [pairs_len] at q
    rw [List.length_map, List.length_map]
    exact q
theorem ok_like {f fC C : Addr} {fd fdC : FuncData} (F : Fun K "likeness" "likeness" s_likeness f fd) (T0 : Txt0 mg) (L : TL K mg C) {tM : Tok} (hc : mg "MOST_PLACES" = some (.int 40000 tM)) (DC : Df K mg "common_table" s_common_table ["one", "two"] fC fdC) : FnOk P w K mg base CX0 2 f fd ["one", "two"] (spLike K) := by
  have GC : FnOk P w K mg base (L2N.CX P w) 1 fC fdC ["one", "two"] (spTable K C) := ok_table DC.F T0 L hc
  refine F.ok sc_likeness (fun vs H Q E h => ?_) (fun cdv A outer s H vs Q E hr h => ?_)
  · obtain ⟨a, b, one, two, rfl, _⟩ := h
    rfl
  · obtain ⟨a, b, one, two, rfl, hA, hB, ha, hb, hm, k⟩ := h
    refine ⟨_, (pss_one (ps_ret (pe_tup (pa_cons (pe_ix ix_list (pe_ix ix_list (pe_call GC hr rfl DC.m DC.F.kp DC.b .nil pass_no (pa_cons (pv 0) (pa_cons (pv 1) pa_nil))) pe_int (fun _ _ => rfl)) pe_int (fun _ _ => rfl)) (pa_cons (pe_op op_add (pe_callB call_len_seq (by rfl) T0.z_len PySem.boot_len (pa_cons (pv 0) pa_nil)) (pe_callB call_len_seq (by rfl) T0.z_len PySem.boot_len (pa_cons (pv 1) pa_nil))) pa_nil))))), ?_⟩
    refine ⟨_, rfl, _, rfl, a, b, one, two, rfl, hA, hB, ha, hb, fun z => by omega, fun _ H1 t s1 tab => ?_⟩
    obtain ⟨as, r, row, hT, hr1, hr2, hr3⟩ := tab.ok.get (i := 0) (j := 0) (Nat.zero_le _) (Nat.zero_le _)
    refine ⟨t, as, _, _, rfl, rfl, SqL.of hT, atI_nat (j := 0) hr1, r, row, _, _, rfl, rfl, SqL.of hr2, atI_nat (j := 0) hr3, ?_⟩
    refine ⟨_, rfl, a, _, rfl, .inr (s1.seqT hA), _, rfl, b, _, rfl, .inr (s1.seqT hB), _, _, rfl, rfl, by show 2 ≤ sizeLine; decide, fun p hp => ?_⟩
    refine k _ p (s1.trans (same_new hp)) (.inl (.inl ?_))
    rw [upd_same, pairs_len, List.length_map, List.length_map]
end
end VK
end

section
set_option Elab.async false
set_option linter.all false
set_option pp.maxSteps 1500
set_option maxRecDepth 100000
set_option maxHeartbeats 4000000
namespace VK
open PySem L2
/-- the context of a row of changes: one more -/
def ctx1 (n ar : Int) (fs : List (Int × Int)) (h : Hunk) : List (Int × Int) :=
  let low := max 0 ((h.start : Int) - ar)
  let high := min n ((h.start : Int) + (h.gone.length : Int) + ar)
  match fs.getLast? with
  | none => fs ++ [(low, high)]
  | some z => if low ≤ z.2 then fs.dropLast ++ [(z.1, max high z.2)] else fs ++ [(low, high)]
def ctxL (n ar : Int) : List Hunk → List (Int × Int) → List (Int × Int)
  | [], fs => fs
  | h :: hs, fs => ctxL n ar hs (ctx1 n ar fs h)
abbrev ipD (p : Int × Int) : PyData := .tuple [.int p.1, .int p.2]
theorem imm_ip (p : Int × Int) : imm (ipD p) = true := rfl
theorem ips_keep {K : PySem.W.Frag} {H H' : Hp} (t : TK K H H') {vs : List V} {ps : List (Int × Int)} (h : DpAll K H vs (ps.map ipD)) : DpAll K H' vs (ps.map ipD) :=
  dpAll_keep t _ _ (immAll_map _ imm_ip ps) h
theorem dp_ip {K : PySem.W.Frag} {H : Hp} {a : Addr} {i j : Int} (h : SqT K H a [.int i, .int j]) : Dp K H (.ref a) (ipD (i, j)) := .tup h (.cons (.int _) (.cons (.int _) .nil))
theorem of_ip {K : PySem.W.Frag} {H : Hp} {v : V} {p : Int × Int} (h : Dp K H v (ipD p)) : ∃ a, v = .ref a ∧ SqT K H a [.int p.1, .int p.2] := by
  cases h with
  | tup q r =>
    cases r with
    | cons a b =>
      cases a
      cases b with
      | cons a b =>
        cases a
        cases b
        exact ⟨_, rfl, q⟩
abbrev ctxD (n ar : Int) (hs : List Hunk) : PyData := .tuple ((ctxL n ar hs []).map ipD)
abbrev s__law_context : Stmt := topS 23
theorem sc__law_context : FnScope ["one", "hunks", "around", "found", "start", "gone", "come", "low", "high"] ["one", "hunks", "around"] (defScope s__law_context) := ⟨rfl, rfl, rfl, by decide +kernel, rfl, by decide +kernel, by decide +kernel⟩
abbrev s_context_of : Stmt := topS 14
theorem sc_context_of : FnScope ["one", "hunks", "around", "found", "start", "gone", "_", "low", "high"] ["one", "hunks", "around"] (defScope s_context_of) := ⟨rfl, rfl, rfl, by decide +kernel, rfl, by decide +kernel, by decide +kernel⟩
theorem set_last (xs : List V) (v w : V) : (xs ++ [v]).set xs.length w = xs ++ [w] := by
  induction xs with
  | nil => rfl
  | cons x xs ih => show x :: (xs ++ [v]).set xs.length w = _; rw [ih]; rfl
theorem ixN_last (xs : List V) (v : V) : ixN (xs ++ [v]).length (-1) = some xs.length := by
  unfold ixN
  rw [List.length_append, if_neg (by decide), if_pos (by simp; omega)]
  congr 1
  simp
  omega
def spCtx (K : PySem.W.Frag) : Sp := fun vs H Q _ => ∃ (a b : Addr) (ls : List Str) (hs : List Hunk) (ar : Int), vs = [.ref a, .ref b, .int ar] ∧ SqT K H a (ls.map V.str) ∧ Dp K H (.ref b) (hunksD hs) ∧ hs.length ≤ 10000 ∧
  ∀ (H' : Hp) (v : V), Same H H' → Dp K H' v (ctxD ls.length ar hs) → Q v H'
section
variable {P : Program} {w : World} {K : PySem.W.Frag} {mg : Str → Option Value} {base : Heap}
theorem ok_lctx {f : Addr} {fd : FuncData} (F : Fun K "_law_context" "_law_context" s__law_context f fd) (T0 : Txt0 mg) : FnOk P w K mg base CX0 1 f fd ["one", "hunks", "around"] (spCtx K) := by
  refine F.ok sc__law_context (fun vs H Q E h => ?_) (fun cdv A outer s H vs Q E hr h => ?_)
  · obtain ⟨a, b, ls, hs, ar, rfl, _⟩ := h
    rfl
  · obtain ⟨a, b, ls, hs, ar, rfl, hA, hB, hlen, k⟩ := h
    refine ⟨_, (pss_cons (ps_set (i := 3) sc__law_context.nd rfl (Or.inl rfl) (pe_lst pa_nil))
      (pss_cons (ps_for PassesOwn.never rfl (pi_tup (pv 1)) (pg_tup rfl (pgs_cons (pg_name (i := 4) sc__law_context.nd rfl (Or.inl rfl)) (pgs_cons (pg_name (i := 5) sc__law_context.nd rfl (Or.inl rfl)) (pgs_cons (pg_name (i := 6) sc__law_context.nd rfl (Or.inl rfl)) pgs_nil))))
        (pss_cons (ps_set (i := 7) sc__law_context.nd rfl (Or.inl rfl) (pe_callB (call_max2 rfl) (by rfl) T0.z_max (by decide +kernel) (pa_cons pe_int (pa_cons (pe_op op_sub (pv 4) (pv 2)) pa_nil))))
        (pss_cons (ps_set (i := 8) sc__law_context.nd rfl (Or.inl rfl) (pe_callB (call_min2 rfl) (by rfl) T0.z_min (by decide +kernel) (pa_cons (pe_callB call_len_seq (by rfl) T0.z_len PySem.boot_len (pa_cons (pv 0) pa_nil)) (pa_cons (pe_op op_add (pe_op op_add (pv 4) (pe_callB call_len_seq (by rfl) T0.z_len PySem.boot_len (pa_cons (pv 5) pa_nil))) (pv 2)) pa_nil))))
        (pss_one (ps_if (PW.pt (pw_and (pt_cmpR op_gt (pe_callB call_len_seq (by rfl) T0.z_len PySem.boot_len (pa_cons (pv 3) pa_nil)) pe_int (nomark _)) (pw_and1 (pt_cmpR op_le (pv 7) (pe_ix ix_tup (pe_ix ix_list (pv 3) (pe_un un_neg pe_int) (fun _ _ => rfl)) pe_int (fun _ _ => rfl)) (nomark _)))))
          (pss_one (ps_set (i := 3) sc__law_context.nd rfl (Or.inl rfl) (pe_op op_cat (pe_slice sl_list (pv 3) po_none (po_some (pe_un un_neg pe_int))) (pe_lst (pa_cons (pe_tup (pa_cons (pe_ix ix_tup (pe_ix ix_list (pv 3) (pe_un un_neg pe_int) (fun _ _ => rfl)) pe_int (fun _ _ => rfl)) (pa_cons (pe_callB (call_max2 rfl) (by rfl) T0.z_max (by decide +kernel) (pa_cons (pv 8) (pa_cons (pe_ix ix_tup (pe_ix ix_list (pv 3) (pe_un un_neg pe_int) (fun _ _ => rfl)) pe_int (fun _ _ => rfl)) pa_nil))) pa_nil))) pa_nil)))))
          (pss_one (ps_expr (pe_bm PySem.F.plainAttrs_list PySem.F.slot_list_append PySem.F.type_list_append mt_append (pv 3) (pa_cons (pe_tup (pa_cons (pv 7) (pa_cons (pv 8) pa_nil))) pa_nil)))))))))
      (pss_one (ps_ret (pe_callTy call_tuple_of (by rfl) T0.z_tuple (by decide +kernel) (pa_cons (pv 3) pa_nil)))))), ?_⟩
    obtain ⟨b', ws, eb, hb, hd⟩ := of_tupD hB
    cases eb
    have ln : ws.length = hs.length := by rw [dpAll_len hd, List.length_map]
    refine ⟨by show 0 ≤ sizeLine; decide, fun f0 hf0 => ?_⟩
    have s0 : Same H (upd H f0 (.lst [])) := same_new hf0
    refine ⟨_, rfl, b, rfl, ⟨_, s0.seqT hb⟩, ?_⟩
    refine for_it (walk_tup (xs := ws)) (fun c σ H' => ∃ (fo : Addr) (fs : List (Int × Int)) (vs : List V) (x4 x5 x6 x7 x8 : Option V), σ = [some (.ref a), some (.ref b), some (.int ar), some (.ref fo), x4, x5, x6, x7, x8] ∧ Same H H' ∧ H fo = none ∧ H' fo = some (.lst vs) ∧ DpAll K H' vs (fs.map ipD) ∧ fs.length ≤ c ∧ ctxL ls.length ar (hs.drop c) fs = ctxL ls.length ar hs []) ?_ (fun c σ H' _ h => ?_) ?_ ?_
    · exact ⟨f0, [], [], none, none, none, none, none, rfl, s0, hf0, upd_same, .nil, Nat.le_refl _, rfl⟩
    · obtain ⟨fo, fs, vs, x4, x5, x6, x7, x8, rfl, h1, h2, h3⟩ := h
      exact h1.seqT hb
    · rintro c x σ H5o H5 hc ⟨fo, fs, vs, x4, x5, x6, x7, x8, rfl, sm, hfo, hv, hdd, hl, hp⟩ ⟨rfl, hx⟩
      have hcf : c < hs.length := by rw [← ln]; exact hc
      obtain ⟨h, ht⟩ : ∃ h, h = hs[c] := ⟨_, rfl⟩
      have hf : hs[c]? = some h := by rw [List.getElem?_eq_getElem hcf, ht]
      obtain ⟨v, hv1, hv2⟩ := dpAll_at (hunks_keep (TK.same sm) hd) (k := c) (d := hunkD h) (by rw [List.getElem?_map, hf]; rfl)
      obtain rfl : v = x := Option.some.inj (hv1.symm.trans hx)
      obtain ⟨z, g, m, rfl, hz, hg, hm⟩ := of_hunk hv2
      have ed : hs.drop c = h :: hs.drop (c + 1) := by rw [List.drop_eq_getElem_cons hcf, ← ht]
      rw [ed, ctxL] at hp
      refine ⟨z, _, rfl, hz, rfl, _, _, rfl, _, _, rfl, _, _, rfl, rfl, ?_⟩
      refine ⟨_, rfl, _, rfl, _, _, rfl, rfl, _, _, rfl, ?_⟩
      refine ⟨_, rfl, a, _, rfl, .inr (sm.seqT hA), _, rfl, _, rfl, g, _, rfl, .inr hg, _, _, rfl, rfl, _, rfl, _, _, rfl, rfl, _, _, rfl, ?_⟩
      obtain ⟨low, elow⟩ : ∃ low, low = max 0 ((h.start : Int) - ar) := ⟨_, rfl⟩
      obtain ⟨high, ehigh⟩ : ∃ high, high = min (ls.length : Int) ((h.start : Int) + (h.gone.length : Int) + ar) := ⟨_, rfl⟩
      have e1 : (if ((h.start : Int) - ar) > 0 then ((h.start : Int) - ar) else 0) = low := by rw [elow]; split <;> omega
      have e2 : (if (h.start : Int) + ((h.gone.map V.str).length : Int) + ar < ((ls.map V.str).length : Int) then (h.start : Int) + ((h.gone.map V.str).length : Int) + ar else ((ls.map V.str).length : Int)) = high := by
        rw [ehigh, List.length_map, List.length_map]; split <;> omega
      rw [e1, e2]
      dsimp only [gName]
      have app : ctx1 ls.length ar fs h = fs ++ [(low, high)] → ∀ (nx : St → Hp → Prop), (∀ σ' H', (∃ (fo : Addr) (fs : List (Int × Int)) (vs : List V) (x4 x5 x6 x7 x8 : Option V), σ' = [some (.ref a), some (.ref b), some (.int ar), some (.ref fo), x4, x5, x6, x7, x8] ∧ Same H H' ∧ H fo = none ∧ H' fo = some (.lst vs) ∧ DpAll K H' vs (fs.map ipD) ∧ fs.length ≤ c + 1 ∧ ctxL ls.length ar (hs.drop (c + 1)) fs = ctxL ls.length ar hs []) → nx σ' H') →
          ∀ p, H5 p = none → rAppend (.ref fo) [.ref p] (upd H5 p (.tup [.int low, .int high])) fun _ H' => nx [some (.ref a), some (.ref b), some (.int ar), some (.ref fo), some (.int (h.start : Int)), some (.ref g), some (.ref m), some (.int low), some (.int high)] H' := by
        intro ec nx hn p hp5
        have hv6 : upd H5 p (.tup [.int low, .int high]) fo = some (.lst vs) := by rw [upd_ne (ne_of_none hv hp5)]; exact hv
        have lvs : vs.length < 20000 := by
          have q1 := dpAll_len hdd
          rw [List.length_map] at q1
          omega
        refine ⟨fo, vs, _, rfl, rfl, hv6, Nat.lt_of_lt_of_le lvs (by decide), hn _ _ ?_⟩
        have tk : TK K H5 (upd (upd H5 p (.tup [.int low, .int high])) fo (.lst (vs ++ [.ref p]))) := (TK.new hp5).trans (TK.lst hv6)
        refine ⟨fo, fs ++ [(low, high)], vs ++ [.ref p], _, _, _, _, _, rfl, same_mut (sm.trans (same_new hp5)) hfo, hfo, upd_same, ?_, ?_, ?_⟩
        · rw [List.map_append]
          refine dpAll_app (ips_keep tk hdd) (dpAll_one (dp_ip ?_))
          exact TK.lst hv6 _ _ (.inl (.inl upd_same))
        · rw [List.length_append]; exact Nat.succ_le_succ hl
        · rw [← hp, ec]
      rcases List.eq_nil_or_concat fs with e0 | ⟨fs0, z, e0⟩
      · subst e0
        have ev : vs = [] := List.eq_nil_of_length_eq_zero (dpAll_len hdd)
        subst ev
        refine ⟨_, rfl, fo, _, rfl, .inl (SqL.of hv), _, _, rfl, rfl, _, rfl, ?_⟩
        refine ite2 (fun e => ?_) (fun e => ?_)
        · cases e
        · refine ⟨_, rfl, .inl ⟨rfl, _, SqL.of hv⟩, _, rfl, _, rfl, by show 2 ≤ sizeLine; decide, fun p hp5 => ?_⟩
          refine app ?_ _ (fun _ _ q => q) p hp5
          unfold ctx1
          rw [← elow, ← ehigh]; rfl
      · rw [List.concat_eq_append] at e0
        subst e0
        rw [List.map_append] at hdd
        obtain ⟨vs0, w', ev, hd0, hdw⟩ := dpAll_split hdd
        subst ev
        obtain ⟨zq, rfl, hzq⟩ := of_ip hdw
        refine ⟨_, rfl, fo, _, rfl, .inl (SqL.of hv), _, _, rfl, rfl, _, rfl, ?_⟩
        refine ite2 (fun _ => ?_) (fun e => ?_)
        · refine ⟨_, rfl, _, rfl, _, rfl, fo, _, _, _, rfl, rfl, SqL.of hv, atI_last _ _, zq, _, _, _, rfl, rfl, hzq, atI_nat (j := 1) rfl, _, _, rfl, rfl, _, rfl, ?_⟩
          refine ite2 (fun e => ?_) (fun e => ?_)
          · have e' : low ≤ z.2 := of_decide_eq_true e
            refine ⟨_, rfl, _, rfl, _, rfl, ?_⟩
            dsimp only [tNoPart]
            refine ⟨fo, _, rfl, SqL.of hv, fun p1 hp1 => ?_⟩
            rw [cutV_init]
            have s1 := same_new (o := .lst vs0) hp1
            have hv1 : upd H5 p1 (.lst vs0) fo = some (.lst (vs0 ++ [.ref zq])) := s1 _ _ hv
            refine ⟨_, rfl, _, rfl, fo, _, _, _, rfl, rfl, SqL.of hv1, atI_last _ _, zq, _, _, _, rfl, rfl, s1.seqT hzq, atI_nat (j := 0) rfl, ?_⟩
            refine ⟨_, rfl, _, rfl, _, rfl, fo, _, _, _, rfl, rfl, SqL.of hv1, atI_last _ _, zq, _, _, _, rfl, rfl, s1.seqT hzq, atI_nat (j := 1) rfl, _, _, rfl, by show 2 ≤ sizeLine; decide, fun p2 hp2 => ⟨by show 1 ≤ sizeLine; decide, fun p3 hp3 => ?_⟩⟩
            have em : (if z.2 > high then z.2 else high) = max high z.2 := by split <;> omega
            rw [em]
            rw [em] at hp3
            obtain ⟨H7, e7⟩ : ∃ H7, H7 = upd (upd H5 p1 (.lst vs0)) p2 (.tup [.int z.1, .int (max high z.2)]) := ⟨_, rfl⟩
            rw [← e7] at hp3 ⊢
            have s7 : Same (upd H5 p1 (.lst vs0)) H7 := by rw [e7]; exact same_new hp2
            have h27 : H7 p2 = some (.tup [.int z.1, .int (max high z.2)]) := by rw [e7, upd_same]
            have s8 := same_new (o := .lst [.ref p2]) hp3
            have lvs : vs0.length < 20000 := by
              have q1 := dpAll_len hd0
              rw [List.length_map] at q1
              rw [List.length_append] at hl
              simp at hl
              omega
            refine ⟨p1, p3, vs0, [.ref p2], rfl, rfl, (s7.trans s8) _ _ upd_same, upd_same, Nat.le_trans (show vs0.length + 1 ≤ 30000 by omega) (by decide), fun p4 hp4 => ?_⟩
            have s9 := same_new (o := .lst (vs0 ++ [.ref p2])) hp4
            have sall : Same H5 (upd (upd H7 p3 (.lst [.ref p2])) p4 (.lst (vs0 ++ [.ref p2]))) := s1.trans (s7.trans (s8.trans s9))
            refine ⟨p4, fs0 ++ [(z.1, max high z.2)], vs0 ++ [.ref p2], _, _, _, _, _, rfl, sm.trans sall, none_of (sm.trans (s1.trans (s7.trans s8))) hp4, upd_same, ?_, ?_, ?_⟩
            · rw [List.map_append]
              refine dpAll_app (ips_keep (TK.same sall) hd0) (dpAll_one (dp_ip ?_))
              exact (s8.trans s9).seqT (.inl (.inl h27))
            · rw [List.length_append] at hl ⊢
              simp at hl ⊢
              omega
            · rw [← hp]
              congr 1
              unfold ctx1
              rw [← elow, ← ehigh, List.getLast?_concat]
              dsimp only
              rw [if_pos e', List.dropLast_concat]
          · have e' : ¬ low ≤ z.2 := fun q => e (decide_eq_true q)
            refine ⟨_, rfl, .inl ⟨rfl, _, SqL.of hv⟩, _, rfl, _, rfl, by show 2 ≤ sizeLine; decide, fun p hp5 => ?_⟩
            refine app ?_ _ (fun _ _ q => q) p hp5
            unfold ctx1
            rw [← elow, ← ehigh, List.getLast?_concat]
            exact if_neg e'
        · exact absurd (decide_eq_true (show (0 : Int) < (((vs0 ++ [V.ref zq]).length : Nat) : Int) by simp)) e
    · rintro σ H5 ⟨fo, fs, vs, x4, x5, x6, x7, x8, rfl, sm, hfo, hv, hdd, hl, hp⟩
      rw [ln, List.drop_length, ctxL] at hp
      refine ⟨_, rfl, fo, _, rfl, .inl ⟨SqL.of hv, fun l hl2 => ?_⟩⟩
      refine k _ _ (sm.trans (same_new hl2)) ?_
      refine .tup (.inl (.inl upd_same)) ?_
      rw [← hp]
      exact ips_keep (TK.new hl2) hdd
theorem ok_ctx {f : Addr} {fd : FuncData} (F : Fun K "context_of" "context_of" s_context_of f fd) (T0 : Txt0 mg) : FnOk P w K mg base CX0 1 f fd ["one", "hunks", "around"] (spCtx K) := by
  refine F.ok sc_context_of (fun vs H Q E h => ?_) (fun cdv A outer s H vs Q E hr h => ?_)
  · obtain ⟨a, b, ls, hs, ar, rfl, _⟩ := h
    rfl
  · obtain ⟨a, b, ls, hs, ar, rfl, hA, hB, hlen, k⟩ := h
    refine ⟨_, (pss_cons (ps_set (i := 3) sc_context_of.nd rfl (Or.inl rfl) (pe_lst pa_nil))
      (pss_cons (ps_for PassesOwn.never rfl (pi_tup (pv 1)) (pg_tup rfl (pgs_cons (pg_name (i := 4) sc_context_of.nd rfl (Or.inl rfl)) (pgs_cons (pg_name (i := 5) sc_context_of.nd rfl (Or.inl rfl)) (pgs_cons (pg_name (i := 6) sc_context_of.nd rfl (Or.inl rfl)) pgs_nil))))
        (pss_cons (ps_par (i := 7) (j := 8) (by rfl) sc_context_of.nd rfl rfl (by decide) rfl rfl (pa_cons (pe_callB (call_max2 rfl) (by rfl) T0.z_max (by decide +kernel) (pa_cons pe_int (pa_cons (pe_op op_sub (pv 4) (pv 2)) pa_nil))) (pa_cons (pe_callB (call_min2 rfl) (by rfl) T0.z_min (by decide +kernel) (pa_cons (pe_callB call_len_seq (by rfl) T0.z_len PySem.boot_len (pa_cons (pv 0) pa_nil)) (pa_cons (pe_op op_add (pe_op op_add (pv 4) (pe_callB call_len_seq (by rfl) T0.z_len PySem.boot_len (pa_cons (pv 5) pa_nil))) (pv 2)) pa_nil))) pa_nil)) (by rfl))
        (pss_one (ps_if (PW.pt (pw_and (pt_truth (pv 3) (by intro _; rfl)) (pw_and1 (pt_cmpR op_le (pv 7) (pe_ix ix_tup (pe_ix ix_list (pv 3) (pe_un un_neg pe_int) (fun _ _ => rfl)) pe_int (fun _ _ => rfl)) (nomark _)))))
          (pss_one (ps_asg (pe_tup (pa_cons (pe_ix ix_tup (pe_ix ix_list (pv 3) (pe_un un_neg pe_int) (fun _ _ => rfl)) pe_int (fun _ _ => rfl)) (pa_cons (pe_callB (call_max2 rfl) (by rfl) T0.z_max (by decide +kernel) (pa_cons (pe_ix ix_tup (pe_ix ix_list (pv 3) (pe_un un_neg pe_int) (fun _ _ => rfl)) pe_int (fun _ _ => rfl)) (pa_cons (pv 8) pa_nil))) pa_nil))) (pg_sub (pv 3) (pe_un un_neg pe_int) set_list)))
          (pss_one (ps_expr (pe_bm PySem.F.plainAttrs_list PySem.F.slot_list_append PySem.F.type_list_append mt_append (pv 3) (pa_cons (pe_tup (pa_cons (pv 7) (pa_cons (pv 8) pa_nil))) pa_nil))))))))
      (pss_one (ps_ret (pe_callTy call_tuple_of (by rfl) T0.z_tuple (by decide +kernel) (pa_cons (pv 3) pa_nil)))))), ?_⟩
    obtain ⟨b', ws, eb, hb, hd⟩ := of_tupD hB
    cases eb
    have ln : ws.length = hs.length := by rw [dpAll_len hd, List.length_map]
    refine ⟨by show 0 ≤ sizeLine; decide, fun f0 hf0 => ?_⟩
    have s0 : Same H (upd H f0 (.lst [])) := same_new hf0
    refine ⟨_, rfl, b, rfl, ⟨_, s0.seqT hb⟩, ?_⟩
    refine for_it (walk_tup (xs := ws)) (fun c σ H' => ∃ (fo : Addr) (fs : List (Int × Int)) (vs : List V) (x4 x5 x6 x7 x8 : Option V), σ = [some (.ref a), some (.ref b), some (.int ar), some (.ref fo), x4, x5, x6, x7, x8] ∧ Same H H' ∧ H fo = none ∧ H' fo = some (.lst vs) ∧ DpAll K H' vs (fs.map ipD) ∧ fs.length ≤ c ∧ ctxL ls.length ar (hs.drop c) fs = ctxL ls.length ar hs []) ?_ (fun c σ H' _ h => ?_) ?_ ?_
    · exact ⟨f0, [], [], none, none, none, none, none, rfl, s0, hf0, upd_same, .nil, Nat.le_refl _, rfl⟩
    · obtain ⟨fo, fs, vs, x4, x5, x6, x7, x8, rfl, h1, h2, h3⟩ := h
      exact h1.seqT hb
    · rintro c x σ H5o H5 hc ⟨fo, fs, vs, x4, x5, x6, x7, x8, rfl, sm, hfo, hv, hdd, hl, hp⟩ ⟨rfl, hx⟩
      have hcf : c < hs.length := by rw [← ln]; exact hc
      obtain ⟨h, ht⟩ : ∃ h, h = hs[c] := ⟨_, rfl⟩
      have hf : hs[c]? = some h := by rw [List.getElem?_eq_getElem hcf, ht]
      obtain ⟨v, hv1, hv2⟩ := dpAll_at (hunks_keep (TK.same sm) hd) (k := c) (d := hunkD h) (by rw [List.getElem?_map, hf]; rfl)
      obtain rfl : v = x := Option.some.inj (hv1.symm.trans hx)
      obtain ⟨z, g, m, rfl, hz, hg, hm⟩ := of_hunk hv2
      have ed : hs.drop c = h :: hs.drop (c + 1) := by rw [List.drop_eq_getElem_cons hcf, ← ht]
      rw [ed, ctxL] at hp
      refine ⟨z, _, rfl, hz, rfl, _, _, rfl, _, _, rfl, _, _, rfl, rfl, ?_⟩
      refine ⟨_, rfl, _, rfl, _, _, rfl, rfl, _, _, rfl, ?_⟩
      refine ⟨_, rfl, a, _, rfl, .inr (sm.seqT hA), _, rfl, _, rfl, g, _, rfl, .inr hg, _, _, rfl, rfl, _, rfl, _, _, rfl, rfl, _, _, rfl, _, _, rfl, ?_⟩
      obtain ⟨low, elow⟩ : ∃ low, low = max 0 ((h.start : Int) - ar) := ⟨_, rfl⟩
      obtain ⟨high, ehigh⟩ : ∃ high, high = min (ls.length : Int) ((h.start : Int) + (h.gone.length : Int) + ar) := ⟨_, rfl⟩
      have e1 : (if ((h.start : Int) - ar) > 0 then ((h.start : Int) - ar) else 0) = low := by rw [elow]; split <;> omega
      have e2 : (if (h.start : Int) + ((h.gone.map V.str).length : Int) + ar < ((ls.map V.str).length : Int) then (h.start : Int) + ((h.gone.map V.str).length : Int) + ar else ((ls.map V.str).length : Int)) = high := by
        rw [ehigh, List.length_map, List.length_map]; split <;> omega
      rw [e1, e2]
      dsimp only
      have app : ctx1 ls.length ar fs h = fs ++ [(low, high)] → ∀ (nx : St → Hp → Prop), (∀ σ' H', (∃ (fo : Addr) (fs : List (Int × Int)) (vs : List V) (x4 x5 x6 x7 x8 : Option V), σ' = [some (.ref a), some (.ref b), some (.int ar), some (.ref fo), x4, x5, x6, x7, x8] ∧ Same H H' ∧ H fo = none ∧ H' fo = some (.lst vs) ∧ DpAll K H' vs (fs.map ipD) ∧ fs.length ≤ c + 1 ∧ ctxL ls.length ar (hs.drop (c + 1)) fs = ctxL ls.length ar hs []) → nx σ' H') →
          ∀ p, H5 p = none → rAppend (.ref fo) [.ref p] (upd H5 p (.tup [.int low, .int high])) fun _ H' => nx [some (.ref a), some (.ref b), some (.int ar), some (.ref fo), some (.int (h.start : Int)), some (.ref g), some (.ref m), some (.int low), some (.int high)] H' := by
        intro ec nx hn p hp5
        have hv6 : upd H5 p (.tup [.int low, .int high]) fo = some (.lst vs) := by rw [upd_ne (ne_of_none hv hp5)]; exact hv
        have lvs : vs.length < 20000 := by
          have q1 := dpAll_len hdd
          rw [List.length_map] at q1
          omega
        refine ⟨fo, vs, _, rfl, rfl, hv6, Nat.lt_of_lt_of_le lvs (by decide), hn _ _ ?_⟩
        have tk : TK K H5 (upd (upd H5 p (.tup [.int low, .int high])) fo (.lst (vs ++ [.ref p]))) := (TK.new hp5).trans (TK.lst hv6)
        refine ⟨fo, fs ++ [(low, high)], vs ++ [.ref p], _, _, _, _, _, rfl, same_mut (sm.trans (same_new hp5)) hfo, hfo, upd_same, ?_, ?_, ?_⟩
        · rw [List.map_append]
          refine dpAll_app (ips_keep tk hdd) (dpAll_one (dp_ip ?_))
          exact TK.lst hv6 _ _ (.inl (.inl upd_same))
        · rw [List.length_append]; exact Nat.succ_le_succ hl
        · rw [← hp, ec]
      rcases List.eq_nil_or_concat fs with e0 | ⟨fs0, z, e0⟩
      · subst e0
        have ev : vs = [] := List.eq_nil_of_length_eq_zero (dpAll_len hdd)
        subst ev
        refine ⟨_, rfl, _, .inl ⟨_, SqL.of hv, rfl⟩, ?_⟩
        refine ite2 (fun e => ?_) (fun e => ?_)
        · cases e
        · refine ⟨_, rfl, .inl ⟨rfl, _, SqL.of hv⟩, _, rfl, _, rfl, by show 2 ≤ sizeLine; decide, fun p hp5 => ?_⟩
          refine app ?_ _ (fun _ _ q => q) p hp5
          unfold ctx1
          rw [← elow, ← ehigh]; rfl
      · rw [List.concat_eq_append] at e0
        subst e0
        rw [List.map_append] at hdd
        obtain ⟨vs0, w', ev, hd0, hdw⟩ := dpAll_split hdd
        subst ev
        obtain ⟨zq, rfl, hzq⟩ := of_ip hdw
        refine ⟨_, rfl, _, .inl ⟨_, SqL.of hv, rfl⟩, ?_⟩
        refine ite2 (fun _ => ?_) (fun e => ?_)
        · refine ⟨_, rfl, _, rfl, _, rfl, fo, _, _, _, rfl, rfl, SqL.of hv, atI_last _ _, zq, _, _, _, rfl, rfl, hzq, atI_nat (j := 1) rfl, _, _, rfl, rfl, _, rfl, ?_⟩
          refine ite2 (fun e => ?_) (fun e => ?_)
          · have e' : low ≤ z.2 := of_decide_eq_true e
            refine ⟨_, rfl, _, rfl, fo, _, _, _, rfl, rfl, SqL.of hv, atI_last _ _, zq, _, _, _, rfl, rfl, hzq, atI_nat (j := 0) rfl, ?_⟩
            refine ⟨_, rfl, _, rfl, fo, _, _, _, rfl, rfl, SqL.of hv, atI_last _ _, zq, _, _, _, rfl, rfl, hzq, atI_nat (j := 1) rfl, _, rfl, _, _, rfl, by show 2 ≤ sizeLine; decide, fun p2 hp2 => ?_⟩
            have em : (if high > z.2 then high else z.2) = max high z.2 := by split <;> omega
            rw [em]
            have s6 := same_new (o := .tup [.int z.1, .int (max high z.2)]) hp2
            have hv6 := s6 _ _ hv
            refine ⟨_, rfl, _, rfl, fo, _, _, vs0.length, rfl, rfl, hv6, ixN_last _ _, ?_⟩
            rw [set_last]
            have tk : TK K H5 (upd (upd H5 p2 (.tup [.int z.1, .int (max high z.2)])) fo (.lst (vs0 ++ [.ref p2]))) := (TK.new hp2).trans (TK.lst hv6)
            refine ⟨fo, fs0 ++ [(z.1, max high z.2)], vs0 ++ [.ref p2], _, _, _, _, _, rfl, same_mut (sm.trans s6) hfo, hfo, upd_same, ?_, ?_, ?_⟩
            · rw [List.map_append]
              refine dpAll_app (ips_keep tk hd0) (dpAll_one (dp_ip ?_))
              exact TK.lst hv6 _ _ (.inl (.inl upd_same))
            · rw [List.length_append] at hl ⊢
              simp at hl ⊢
              omega
            · rw [← hp]
              congr 1
              unfold ctx1
              rw [← elow, ← ehigh, List.getLast?_concat]
              dsimp only
              rw [if_pos e', List.dropLast_concat]
          · have e' : ¬ low ≤ z.2 := fun q => e (decide_eq_true q)
            refine ⟨_, rfl, .inl ⟨rfl, _, SqL.of hv⟩, _, rfl, _, rfl, by show 2 ≤ sizeLine; decide, fun p hp5 => ?_⟩
            refine app ?_ _ (fun _ _ q => q) p hp5
            unfold ctx1
            rw [← elow, ← ehigh, List.getLast?_concat]
            exact if_neg e'
        · exact absurd (by simp) e
    · rintro σ H5 ⟨fo, fs, vs, x4, x5, x6, x7, x8, rfl, sm, hfo, hv, hdd, hl, hp⟩
      rw [ln, List.drop_length, ctxL] at hp
      refine ⟨_, rfl, fo, _, rfl, .inl ⟨SqL.of hv, fun l hl2 => ?_⟩⟩
      refine k _ _ (sm.trans (same_new hl2)) ?_
      refine .tup (.inl (.inl upd_same)) ?_
      rw [← hp]
      exact ips_keep (TK.new hl2) hdd
end
end VK
end

section
set_option Elab.async false
set_option linter.all false
set_option pp.maxSteps 1500
set_option maxRecDepth 100000
set_option maxHeartbeats 4000000
/-! enumerate(text), after HandS.Iter's enumerate(list) -/
namespace VK
open PySem PySem.Spec PyProof.Rows L2
/-- the signs of a text, each in a new pair -/
def Ites (x : Str) : It :=
  ⟨fun i _ => i < x.cps.size, fun i H v H' => ∃ T c, v = .ref T ∧ H T = none ∧ H' = upd H T (.tup [.int (i : Nat), .str ⟨#[c]⟩]) ∧ x.cps[i]? = some c, fun i _ => x.cps.size ≤ i⟩
theorem turn_enumS {P : Program} {w : World} {K : PySem.W.Frag} {elts : List Expr} {kk : Nat} {tpos : Pos} (x : Str) (t : Tok) (e it : Addr) :
    Turn P w K (.Tuple elts kk tpos) (Ites x) [e, it] e (fun i h => (∃ old, IsEnum h e it ((i : Nat) : Int) old) ∧ h.IsStrIter it (strIterType x) x t i ∧ e ≠ it ∧ i ≤ x.cps.size) where
  mem := by simp
  obj := fun i h st b hb => by
    obtain ⟨⟨old, he⟩, ⟨o, ho, hc, hd⟩, _⟩ := st
    have e' : b = e ∨ b = it := by simpa using hb
    rcases e' with z | z
    · rw [z]; exact ⟨_, he, fun v q => nomatch q⟩
    · rw [z]; exact ⟨o, ho, fun v q => by rw [hd] at q; cases q⟩
  keep := fun i h h' st k => let ⟨⟨old, he⟩, ⟨o, ho, r⟩, hne⟩ := st; ⟨⟨old, k e (by simp) _ he⟩, ⟨o, k it (by simp) o ho, r⟩, hne⟩
  item := by
    intro X hP hw hK hc i pins s σ H E I hf st hg
    subst hP hw hK
    obtain ⟨⟨old, he⟩, hit, hne, hle⟩ := st
    have hlt : i < x.cps.size := hg
    have hel : e < s.heap.objs.size := Heap.lt_size he
    have hil : it < s.heap.objs.size := by obtain ⟨_, q, _⟩ := hit; exact Heap.lt_size q
    have hh : X.A.in1.handled = none := I.ok.hd hc
    refine wpAny_pyNext_enum_itemD (Draws.text hh it x t) he hit hg hne (fun z => hne (by simpa using z)) fun v h' tk hP ho hit' hT hsz hk => ?_
    obtain ⟨c, u, hcx, rfl⟩ := hP
    refine ⟨_, rfl, wpAny_letOwnedTupleGo_enum (s := { s with heap := h', toks := tk + 1 }) ho fun h'' he' sb => ?_⟩
    have hT2 : h''.get? s.heap.objs.size = some { cls := .type "tuple", data := .seq #[.int i tk, .str ⟨#[c]⟩ u] } := (sb.2 _ (Nat.ne_of_gt hel)).trans hT
    have new : ObjOk X.prog X.w (upd H s.heap.objs.size (.tup [.int (i : Nat), .str ⟨#[c]⟩])) h'' s.heap.objs.size (.tup [.int (i : Nat), .str ⟨#[c]⟩]) :=
      ⟨by show 2 ≤ sizeLine; decide, [.int i tk, .str ⟨#[c]⟩ u], .cons ⟨_, rfl⟩ (.cons ⟨_, rfl⟩ .nil), ⟨_, hT2, rfl, _, rfl⟩⟩
    have I1 : Inv X pins σ (upd H s.heap.objs.size (.tup [.int (i : Nat), .str ⟨#[c]⟩])) { s with heap := h'', toks := tk + 1 } :=
      I.turnedNew (ch := [e, it]) (fun b ob hb q => (sb.2 b (fun z => hb (by simp [z]))).trans (hk b ob (fun z => hb (by simp [z])) (fun z => hb (by simp [z])) q)) hf (Nat.le_refl _) new
    refine ⟨.ref s.heap.objs.size, _, I1, rfl, ⟨_, c, rfl, I.hok.fresh (Nat.le_refl _), rfl, hcx⟩, ⟨⟨.str ⟨#[c]⟩ u, ?_⟩, ?_, hne, hlt⟩, fun b hb => ?_⟩
    · have e1 : ((i + 1 : Nat) : Int) = (i : Int) + 1 := by omega
      rw [e1]; exact he'
    · obtain ⟨o, q, r⟩ := hit'
      exact ⟨o, (sb.2 it (Ne.symm hne)).trans q, r⟩
    · have hb' : b < s.heap.objs.size := by
        have e' : b = e ∨ b = it := by simpa using hb
        rcases e' with z | z
        · rw [z]; exact hel
        · rw [z]; exact hil
      rw [upd_ne (Nat.ne_of_lt hb')]
      exact (hf b hb).1
  done := by
    intro X hP hw hK hc i pins s σ H E I hf st hg
    subst hP hw hK
    obtain ⟨⟨old, he⟩, hit, hne, hle⟩ := st
    have hh : X.A.in1.handled = none := I.ok.hd hc
    obtain ⟨f0, f1, f2, f3, f4, f5⟩ := hf it (by simp)
    have hn : x.cps.size ≤ i := hg
    have hi : i = x.cps.size := Nat.le_antisymm hle hn
    rw [hi] at hit
    exact wpAny_pyNext_enum_endD (Draws.text hh it x t) he hit fun h' eb => ⟨rfl, I.turned (t' := s.toks) (fun b o hb q => eb b o hb q) f0 f1 f3 f4 f5⟩
  self := fun A i s Q E st h => let ⟨⟨_, he⟩, _⟩ := st; wpAny_pyIter_enum he h
def iEnumS (ta : TA) : TI := fun σ H R => ta σ H fun vs H1 => ∃ x, vs = [.str x] ∧ R (Ites x) H1
theorem pi_enumS {X : Cx} {e : Expr} {ta : TA} {p pos tpos : Pos} {elts : List Expr} {kk : Nat} (hg : Gl X "enumerate") (hm : X.mg "enumerate" = none) (ha : PA X [e] ta) (hs : starEach [e] X.env = [(false, eval e X.env)] := by rfl) :
    PI X (.Tuple elts kk tpos) (.Call (.Name "enumerate" p) [e] [] pos) (iEnumS ta) := by
  refine ⟨fun pins s σ H R I h => ?_⟩
  refine Call_ (ld_blt I hg hm boot_enumerate (PyProof.Rows.callWith_type1 (thn (ha.run pos pins s σ H _ I h) fun us s1 ⟨vs, H1, I1, r1, q1⟩ => ?_) hs rfl))
  obtain ⟨x, ex, q⟩ := q1
  subst ex
  cases r1 with
  | cons r rr =>
    cases rr
    obtain ⟨t, rfl⟩ := r
    refine call_enumerate_str fun h' he hit hsz hk => wpAny_pyIter_enum he ?_
    have I2 : Inv X pins σ H1 { s1 with heap := h' } := I1.kept (t' := s1.toks) hk
    refine ⟨s1.heap.objs.size + 1, [s1.heap.objs.size + 1, s1.heap.objs.size], _, _, H1, rfl, I2, turn_enumS x t (s1.heap.objs.size + 1) s1.heap.objs.size, ⟨⟨.none, he⟩, hit, Nat.succ_ne_self _, Nat.zero_le _⟩, fun b hb => ?_, q⟩
    have e' : b = s1.heap.objs.size + 1 ∨ b = s1.heap.objs.size := by simpa using hb
    have hle : s1.heap.objs.size ≤ b := by
      rcases e' with z | z
      · rw [z]; exact Nat.le_add_right _ _
      · rw [z]; exact Nat.le_refl _
    exact I1.fpOk hle (I1.hok.fresh hle)
theorem walk_enumS {z : Str} : Walk (Ites z) z.cps.size (fun _ => True) (fun i H v H' => ∃ T c, v = .ref T ∧ H T = none ∧ H' = upd H T (.tup [.int (i : Nat), .str ⟨#[c]⟩]) ∧ z.cps[i]? = some c) :=
  ⟨fun _ _ hi _ => hi, fun _ _ => Nat.le_refl _, fun _ _ _ _ _ _ y => y⟩
end VK
end

section
set_option Elab.async false
set_option linter.all false
set_option pp.maxSteps 1500
set_option maxRecDepth 100000
set_option maxHeartbeats 4000000
namespace VK
open PySem L2
abbrev mkS (l : List Nat) : Str := ⟨l.toArray⟩
/-- the lines of signs: each ends behind its 10 -/
def linesN : List Nat → List Nat → List (List Nat)
  | cur, [] => if cur = [] then [] else [cur]
  | cur, c :: r => if c = 10 then (cur ++ [10]) :: linesN [] r else linesN (cur ++ [c]) r
theorem linesN_len : ∀ (r cur : List Nat), (linesN cur r).length ≤ r.length + 1
  | [], cur => by rw [linesN]; split <;> simp
  | c :: r, cur => by
    rw [linesN]
    split
    · have := linesN_len r []
      simp only [List.length_cons]; omega
    · have := linesN_len r (cur ++ [c])
      simp only [List.length_cons]; omega
theorem cutL_snoc {α : Type} {xs : List α} {s i : Nat} {x : α} (h : s ≤ i) (e : xs[i]? = some x) : cutL xs s (i + 1) = cutL xs s i ++ [x] := by
  rw [cutL_app xs h (Nat.le_succ i), cutL_one e]
theorem cutL_of {α : Type} (xs : List α) (i h : Nat) : (xs.drop (min i xs.length)).take (min h xs.length - min i xs.length) = cutL xs i h := by
  unfold cutL
  by_cases h1 : xs.length ≤ i
  · rw [Nat.min_eq_right h1, List.drop_eq_nil_of_le (Nat.le_refl _), List.drop_eq_nil_of_le h1]; simp
  · rw [Nat.min_eq_left (a := i) (by omega)]
    by_cases h2 : h ≤ xs.length
    · rw [Nat.min_eq_left h2]
    · rw [Nat.min_eq_right (a := h) (by omega), List.take_of_length_le (by rw [List.length_drop]; omega), List.take_of_length_le (by rw [List.length_drop]; omega)]
theorem cutS_nat (z : Str) (i h : Nat) : cutS z (some (i : Int)) (some (h : Int)) = mkS (cutL z.cps.toList i h) := by
  have e : z.length = z.cps.toList.length := (Array.length_toList).symm
  unfold cutS
  rw [HT.sIx_nat, HT.sIx_nat, e, cutL_of]
theorem cutS_from (z : Str) (i : Nat) : cutS z (some (i : Int)) none = mkS (cutL z.cps.toList i z.cps.toList.length) := by
  have e : z.length = z.cps.toList.length := (Array.length_toList).symm
  unfold cutS
  rw [HT.sIx_nat, HT.sIx_none, e]
  have := cutL_of z.cps.toList i z.cps.toList.length
  rw [Nat.min_self] at this
  rw [this]
abbrev s_lines_of : Stmt := topS 5
theorem sc_lines_of : FnScope ["text", "found", "start", "place", "sign"] ["text"] (defScope s_lines_of) := ⟨rfl, rfl, rfl, by decide +kernel, rfl, by decide +kernel, by decide +kernel⟩
def spLinesOf (K : PySem.W.Frag) : Sp := fun vs H Q _ => ∃ (z : Str), vs = [.str z] ∧ z.length ≤ 10000 ∧
  ∀ (H' : Hp) (p : Addr), Same H H' → SqT K H' p (((linesN [] z.cps.toList).map mkS).map V.str) → Q (.ref p) H'
section
variable {P : Program} {w : World} {K : PySem.W.Frag} {mg : Str → Option Value} {base : Heap}
theorem ok_lines_of {f : Addr} {fd : FuncData} (F : Fun K "lines_of" "lines_of" s_lines_of f fd) (T0 : Txt0 mg) : FnOk P w K mg base CX0 1 f fd ["text"] (spLinesOf K) := by
  refine F.ok sc_lines_of (fun vs H Q E h => ?_) (fun cdv A outer s H vs Q E hr h => ?_)
  · obtain ⟨z, rfl, _⟩ := h
    rfl
  · obtain ⟨z, rfl, hz, k⟩ := h
    refine ⟨_, (pss_cons (ps_par (i := 1) (j := 2) (by rfl) sc_lines_of.nd rfl rfl (by decide) rfl rfl (pa_cons (pe_lst pa_nil) (pa_cons pe_int pa_nil)) (by rfl))
      (pss_cons (ps_for PassesOwn.never rfl (pi_enumS (by rfl) T0.z_enumerate (pa_cons (pv 0) pa_nil)) (pg_tup rfl (pgs_cons (pg_name (i := 3) sc_lines_of.nd rfl (Or.inl rfl)) (pgs_cons (pg_name (i := 4) sc_lines_of.nd rfl (Or.inl rfl)) pgs_nil)))
        (pss_one (ps_if (pt_cmpR op_eq (pv 4) pe_str (nomark _))
          (pss_cons (ps_expr (pe_bm PySem.F.plainAttrs_list PySem.F.slot_list_append PySem.F.type_list_append mt_append (pv 1) (pa_cons (pe_slice sl_str (pv 0) (po_some (pv 2)) (po_some (pe_op op_add (pv 3) pe_int))) pa_nil)))
          (pss_one (ps_set (i := 2) sc_lines_of.nd rfl (Or.inl rfl) (pe_op op_add (pv 3) pe_int))))
          pss_nil)))
      (pss_cons (ps_if (pt_cmpR op_lt (pv 2) (pe_callB call_len_str (by rfl) T0.z_len PySem.boot_len (pa_cons (pv 0) pa_nil)) (nomark _))
        (pss_one (ps_expr (pe_bm PySem.F.plainAttrs_list PySem.F.slot_list_append PySem.F.type_list_append mt_append (pv 1) (pa_cons (pe_slice sl_str (pv 0) (po_some (pv 2)) po_none) pa_nil))))
        pss_nil)
      (pss_one (ps_ret (pe_callTy call_tuple_of (by rfl) T0.z_tuple (by decide +kernel) (pa_cons (pv 1) pa_nil))))))), ?_⟩
    refine ⟨by show 0 ≤ sizeLine; decide, fun fo hfo => ⟨_, _, rfl, ?_⟩⟩
    have s0 : Same H (upd H fo (.lst [])) := same_new hfo
    refine ⟨_, rfl, _, rfl, ?_⟩
    refine for_it walk_enumS (fun i σ H' => ∃ (s : Nat) (fs : List (List Nat)) (x3 x4 : Option V), σ = [some (.str z), some (.ref fo), some (.int (s : Int)), x3, x4] ∧ Same H H' ∧ H' fo = some (.lst ((fs.map mkS).map V.str)) ∧ s ≤ i ∧ fs.length ≤ i ∧ fs ++ linesN (cutL z.cps.toList s i) (z.cps.toList.drop i) = linesN [] z.cps.toList) ?_ (fun _ _ _ _ _ => trivial) ?_ ?_
    · refine ⟨0, [], none, none, rfl, s0, upd_same, Nat.le_refl _, Nat.le_refl _, ?_⟩
      rw [cutL_self]; rfl
    · rintro i x σ H5o H5 hi ⟨s, fs, x3, x4, rfl, sm, hv, hs, hl, hp⟩ ⟨T, c, rfl, hT, rfl, hc⟩
      have sT := same_new (o := .tup [.int (i : Nat), .str ⟨#[c]⟩]) hT
      refine ⟨T, _, rfl, .inl (.inl upd_same), rfl, _, _, rfl, _, _, rfl, rfl, ?_⟩
      have h0 : i < z.cps.toList.length := by rw [Array.length_toList]; exact hi
      have hc' : z.cps.toList[i]? = some c := by rw [Array.getElem?_toList]; exact hc
      have ed : z.cps.toList.drop i = c :: z.cps.toList.drop (i + 1) := by
        obtain ⟨q1, q2⟩ := List.getElem?_eq_some_iff.mp hc'
        rw [List.drop_eq_getElem_cons q1, q2]
      rw [ed, linesN, ← cutL_snoc hs hc'] at hp
      have hv2 := sT _ _ hv
      refine ⟨_, rfl, rfl, _, rfl, ?_⟩
      refine ite2 (fun e => ?_) (fun e => ?_)
      · have e' : c = 10 := by
          have := V.str.inj (of_decide_eq_true e)
          have h2 := congrArg (fun q : Str => q.cps.toList) this
          have h3 : [c] = [10] := h2
          exact (List.cons.inj h3).1
        subst e'
        rw [if_pos rfl, ← cutL_snoc hs hc'] at hp
        refine ⟨_, rfl, .inl ⟨rfl, _, SqL.of hv2⟩, _, rfl, _, rfl, _, rfl, _, rfl, _, _, rfl, rfl, _, rfl, z, rfl, Nat.le_trans hz (by decide), ?_⟩
        have e1 : ((i : Nat) : Int) + 1 = ((i + 1 : Nat) : Int) := by omega
        have lz : z.length = z.cps.toList.length := (Array.length_toList).symm
        refine ⟨fo, _, _, rfl, rfl, hv2, ?_, ?_⟩
        · rw [List.length_map, List.length_map]
          exact Nat.lt_of_lt_of_le (show fs.length < 20000 by omega) (by decide)
        · refine ⟨_, rfl, _, _, rfl, rfl, i + 1, fs ++ [cutL z.cps.toList s (i + 1)], some (.int (i : Int)), some (.str ⟨#[10]⟩), ?_, ?_, ?_, Nat.le_refl _, ?_, ?_⟩
          · dsimp only
            rw [e1]; rfl
          · exact same_mut (sm.trans sT) hfo
          · rw [upd_same, e1, cutS_nat, List.map_append, List.map_append]; rfl
          · rw [List.length_append]; exact Nat.succ_le_succ hl
          · rw [← hp, cutL_self, List.append_assoc]; rfl
      · have e' : ¬ c = 10 := fun q => e (decide_eq_true (by rw [q]; rfl))
        rw [if_neg e'] at hp
        exact ⟨s, fs, _, _, rfl, sm.trans sT, hv2, by omega, by omega, hp⟩
    · rintro σ H5 ⟨s, fs, x3, x4, rfl, sm, hv, hs, hl, hp⟩
      have lz : z.length = z.cps.toList.length := (Array.length_toList).symm
      have lz2 : z.cps.size = z.cps.toList.length := lz
      rw [lz2] at hp hs hl
      rw [List.drop_length, linesN] at hp
      dsimp only
      refine cut (fun σ' H' => ∃ gs : List (List Nat), σ' = [some (.str z), some (.ref fo), some (.int (s : Int)), x3, x4] ∧ Same H H' ∧ H' fo = some (.lst ((gs.map mkS).map V.str)) ∧ gs = linesN [] z.cps.toList) (fun nx hn => ?_) ?_
      · refine ⟨_, rfl, _, rfl, z, rfl, Nat.le_trans hz (by decide), _, _, rfl, rfl, _, rfl, ?_⟩
        refine ite2 (fun e => ?_) (fun e => ?_)
        · have e' : (s : Int) < (z.length : Int) := of_decide_eq_true e
          refine ⟨_, rfl, .inl ⟨rfl, _, SqL.of hv⟩, _, rfl, _, rfl, _, rfl, ?_⟩
          dsimp only [tNoPart]
          refine ⟨z, rfl, Nat.le_trans hz (by decide), fo, _, _, rfl, rfl, hv, ?_, hn _ _ ⟨fs ++ [cutL z.cps.toList s z.cps.toList.length], rfl, same_mut sm hfo, ?_, ?_⟩⟩
          · rw [List.length_map, List.length_map]
            exact Nat.lt_of_lt_of_le (show fs.length < 20000 by omega) (by decide)
          · rw [upd_same, cutS_from, List.map_append, List.map_append]; rfl
          · have ne : cutL z.cps.toList s z.cps.toList.length ≠ [] := fun q => by
              have := congrArg List.length q
              rw [cutL_length _ (Nat.le_refl _)] at this
              simp at this
              omega
            rw [if_neg ne] at hp
            exact hp
        · have e' : ¬ (s : Int) < (z.length : Int) := fun q => e (decide_eq_true q)
          have es : s = z.cps.toList.length := by omega
          rw [es, cutL_self, if_pos rfl, List.append_nil] at hp
          exact hn _ _ ⟨fs, rfl, sm, hv, hp⟩
      · rintro σ6 H6 ⟨gs, rfl, s6, hv6, rfl⟩
        refine ⟨_, rfl, fo, _, rfl, .inl ⟨SqL.of hv6, fun l hl2 => ?_⟩⟩
        exact k _ l (s6.trans (same_new hl2)) (.inl (.inl upd_same))
end
end VK
end

section
set_option Elab.async false
set_option linter.all false
set_option pp.maxSteps 1500
set_option maxRecDepth 100000
set_option maxHeartbeats 4000000
namespace VK
open PySem L2
abbrev s_text_from : Stmt := topS 6
theorem sc_text_from : FnScope ["lines"] ["lines"] (defScope s_text_from) := ⟨rfl, rfl, rfl, by decide +kernel, rfl, by decide +kernel, by decide +kernel⟩
def spText (K : PySem.W.Frag) : Sp := fun vs H Q _ => ∃ (a : Addr) (ls : List Str), vs = [.ref a] ∧ SqT K H a (ls.map V.str) ∧ (ls.map (·.length)).sum ≤ 16777216 ∧ Q (.str (Txt.join ("" : Str) ls)) H
section
variable {P : Program} {w : World} {K : PySem.W.Frag} {mg : Str → Option Value} {base : Heap}
theorem ok_text {f : Addr} {fd : FuncData} (F : Fun K "text_from" "text_from" s_text_from f fd) : FnOk P w K mg base CX0 1 f fd ["lines"] (spText K) := by
  refine F.ok sc_text_from (fun vs H Q E h => ?_) (fun cdv A outer s H vs Q E hr h => ?_)
  · obtain ⟨a, ls, rfl, _⟩ := h
    rfl
  · obtain ⟨a, ls, rfl, hA, hz, k⟩ := h
    refine ⟨_, (pss_one (ps_ret (pe_join pe_str (pv 0)))), ?_⟩
    refine ⟨⟨_, rfl⟩, _, rfl, _, a, ls, rfl, rfl, .inr hA, ?_, k⟩
    show _ + ls.length * 0 ≤ _
    omega
end
end VK
end

section
set_option Elab.async false
set_option linter.all false
set_option pp.maxSteps 1500
set_option maxRecDepth 100000
set_option maxHeartbeats 4000000
/-! any, all of a generator expression over a tuple, after HandS.AnyAll and HandS.JoinGen -/
namespace VK
open PySem PySem.Spec PyProof.Rows L2
/-- what a name of the module or a builtin is read from -/
structure GEnv (mg : Str → Option Value) (cenv : Env) (s : Shared) : Prop where
  kind : cenv.scope.kind = .function
  g : s.heap.Ns cenv.globals mg
  b : ∃ mb, s.heap.Ns cenv.builtins mb ∧ ∀ x : Str, x ≠ "__name__" → mb x = bootBuiltins x
/-- a value's truth -/
def Tru (prog : Program) (w : World) (y : Value) (b : Bool) : Prop := ∀ (A : Around) (s : Shared) (Q : Bool → Shared → Prop) (E : Value → Shared → Prop), (∀ k, s.toks ≤ k → Q b { s with toks := k }) → wpAny (model prog w) A (truthy y) Q E s
/-- the element: of an item v with Pz a value of the truth pb v -/
def EltV (prog : Program) (w : World) (mg : Str → Option Value) (scope : Scope) (x : Str) (elt : Expr) (Pz : V → Prop) (pb : V → Bool) : Prop :=
  ∀ (cenv : Env) (A' : Around) (E' : Value → Shared → Prop) (v : V) (u : Value) (s₂ : Shared) (m₂ : Str → Option Value), cenv.scope = scope → Pz v → RelV v u → GEnv mg cenv s₂ → s₂.heap.Ns cenv.locals m₂ → m₂ x = some u →
    wpAny (model prog w) A' (eval elt cenv) (fun y s₃ => Tru prog w y (pb v) ∧ Keeps s₂ s₃) E' s₂
def trV (pb : V → Bool) (l : List V) (j : Nat) : Bool := match l[j]? with
  | some b => pb b
  | none => false
theorem trV_some {pb : V → Bool} {l : List V} {j : Nat} {b : V} (h : l[j]? = some b) : trV pb l j = pb b := by
  unfold trV
  rw [h]
theorem any_trV (l : List V) (pb : V → Bool) : (List.range l.length).any (trV pb l) = l.any pb := by
  rw [Bool.eq_iff_iff, List.any_eq_true, List.any_eq_true]
  constructor
  · intro ⟨j, hj, h⟩
    have hj' := List.mem_range.mp hj
    rw [trV_some (List.getElem?_eq_getElem hj')] at h
    exact ⟨l[j], List.getElem_mem hj', h⟩
  · intro ⟨b, hb, h⟩
    obtain ⟨j, hj, e⟩ := List.getElem_of_mem hb
    refine ⟨j, List.mem_range.mpr hj, ?_⟩
    rw [trV_some (List.getElem?_eq_getElem hj), e]
    exact h
theorem all_trV (l : List V) (pb : V → Bool) : (List.range l.length).all (trV pb l) = l.all pb := by
  rw [Bool.eq_iff_iff, List.all_eq_true, List.all_eq_true]
  constructor
  · intro h b hb
    obtain ⟨j, hj, e⟩ := List.getElem_of_mem hb
    have q := h j (List.mem_range.mpr hj)
    rw [trV_some (List.getElem?_eq_getElem hj), e] at q
    exact q
  · intro h j hj
    have hj' := List.mem_range.mp hj
    rw [trV_some (List.getElem?_eq_getElem hj')]
    exact h _ (List.getElem_mem hj')
/-- the truth of what is yielded; behind it tokens may be taken -/
def TruthT (prog : Program) (w : World) (A : Around) (P : Nat → Value → Prop) (tr : Nat → Bool) : Prop :=
  ∀ i v (s : Shared) (Q : Bool → Shared → Prop) (E : Value → Shared → Prop), P i v → (∀ k, s.toks ≤ k → Q (tr i) { s with toks := k }) → wpAny (model prog w) A (truthy v) Q E s
section
variable {prog : Program} {w : World} {A : Around} {R : Result → Shared → Prop} {I : Addr} {fp wr : List Addr} {G : Array GenState → Array GenState → Prop} {n : Nat} {P : Nat → Value → Prop} {St : Nat → Shared → Prop} {E : Value → Shared → Prop} {s : Shared}
theorem all_loopT (W : WalksS prog w A.in1 I fp wr G n P St) (tr : Nat → Bool) (htr : TruthT prog w A.in1 P tr) : ∀ (k i : Nat) (s : Shared), n - i = k → i ≤ n → St i s →
    (∀ s', Moved wr G s s' → R (.ok (.ret (.bool (((List.range n).drop i).all tr)))) s') → codeAny (model prog w) A (.builtin "all.loop" ⟨[.ref I], []⟩) R s := by
  intro k
  induction k with
  | zero =>
    intro i s hk hi hst hR
    have hin : i = n := by omega
    subst hin
    refine codeAny_builtin F.entry_all_loop ?_
    rw [Around.under_plainId F.plain_all_loop _]
    show wpAny _ A.in1 (pyNext (.ref I) >>= _) _ _ s
    refine wpAny_bind (W.done s _ _ hst fun s' hm => ?_)
    refine wpAny_bind (wpAny_rule (wpAny_pure ?_))
    have := hR s' hm
    rw [List.drop_of_length_le (by simp)] at this
    exact this
  | succ k ih =>
    intro i s hk hi hst hR
    have hlt : i < n := by omega
    have hd : (List.range n).drop i = i :: (List.range n).drop (i + 1) := by
      rw [List.drop_eq_getElem_cons (by simpa using hlt)]; simp
    refine codeAny_builtin F.entry_all_loop ?_
    rw [Around.under_plainId F.plain_all_loop _]
    show wpAny _ A.in1 (pyNext (.ref I) >>= _) _ _ s
    refine wpAny_bind (W.item i s _ _ hlt hst fun v s' hP hst' hm => ?_)
    refine wpAny_bind (wpAny_holding (htr i v _ _ _ hP fun kt hkt => ?_))
    refine wpAny_bind (wpAny_letGo ?_)
    have hst2 : St (i + 1) { s' with toks := kt } := W.frame (i + 1) s' s'.heap kt hst' hkt fun b _ o e => e
    have hm2 : Moved wr G s { s' with toks := kt } := hm.then_heap (h' := s'.heap) hkt fun b o _ e => e
    cases hb : tr i with
    | true =>
      simp only [if_true]
      refine wpAny_pure ⟨plainId_quiet F.plain_all_loop _, ih (i + 1) _ (by omega) hlt hst2 fun s'' hm' => ?_⟩
      have := hR s'' (hm2.trans W.gtrans hm')
      rw [hd, List.all_cons, hb, Bool.true_and] at this
      exact this
    | false =>
      simp only [Bool.false_eq_true, if_false]
      refine wpAny_bind (wpAny_rule (wpAny_pure ?_))
      have := hR _ hm2
      rw [hd, List.all_cons, hb, Bool.false_and] at this
      exact this
theorem any_loopT (W : WalksS prog w A.in1 I fp wr G n P St) (tr : Nat → Bool) (htr : TruthT prog w A.in1 P tr) : ∀ (k i : Nat) (s : Shared), n - i = k → i ≤ n → St i s →
    (∀ s', Moved wr G s s' → R (.ok (.ret (.bool (((List.range n).drop i).any tr)))) s') → codeAny (model prog w) A (.builtin "any.loop" ⟨[.ref I], []⟩) R s := by
  intro k
  induction k with
  | zero =>
    intro i s hk hi hst hR
    have hin : i = n := by omega
    subst hin
    refine codeAny_builtin F.entry_any_loop ?_
    rw [Around.under_plainId F.plain_any_loop _]
    show wpAny _ A.in1 (pyNext (.ref I) >>= _) _ _ s
    refine wpAny_bind (W.done s _ _ hst fun s' hm => ?_)
    refine wpAny_bind (wpAny_rule (wpAny_pure ?_))
    have := hR s' hm
    rw [List.drop_of_length_le (by simp)] at this
    exact this
  | succ k ih =>
    intro i s hk hi hst hR
    have hlt : i < n := by omega
    have hd : (List.range n).drop i = i :: (List.range n).drop (i + 1) := by
      rw [List.drop_eq_getElem_cons (by simpa using hlt)]; simp
    refine codeAny_builtin F.entry_any_loop ?_
    rw [Around.under_plainId F.plain_any_loop _]
    show wpAny _ A.in1 (pyNext (.ref I) >>= _) _ _ s
    refine wpAny_bind (W.item i s _ _ hlt hst fun v s' hP hst' hm => ?_)
    refine wpAny_bind (wpAny_holding (htr i v _ _ _ hP fun kt hkt => ?_))
    refine wpAny_bind (wpAny_letGo ?_)
    have hst2 : St (i + 1) { s' with toks := kt } := W.frame (i + 1) s' s'.heap kt hst' hkt fun b _ o e => e
    have hm2 : Moved wr G s { s' with toks := kt } := hm.then_heap (h' := s'.heap) hkt fun b o _ e => e
    cases hb : tr i with
    | false =>
      simp only [Bool.false_eq_true, if_false]
      refine wpAny_pure ⟨plainId_quiet F.plain_any_loop _, ih (i + 1) _ (by omega) hlt hst2 fun s'' hm' => ?_⟩
      have := hR s'' (hm2.trans W.gtrans hm')
      rw [hd, List.any_cons, hb, Bool.false_or] at this
      exact this
    | true =>
      simp only [if_true]
      refine wpAny_bind (wpAny_rule (wpAny_pure ?_))
      have := hR _ hm2
      rw [hd, List.any_cons, hb, Bool.true_or] at this
      exact this
theorem call_all_T {x : Value} {Q : Value → Shared → Prop}
    (h : wpAny (model prog w) A.in1 (pyIter x) (fun it s₂ => ∃ I fp wr G n P St tr, it = .ref I ∧ WalksS prog w A.in1 I fp wr G n P St ∧ St 0 s₂ ∧ TruthT prog w A.in1 P tr ∧
      ∀ s', Moved wr G s₂ s' → Q (.bool ((List.range n).all tr)) s') E s) :
    wpAny (model prog w) A (call (.builtin "all") [x]) Q E s := by
  refine call_function_tree F.kind_all F.plain_all F.entry_all (F.args_all1 _) ?_
  unfold Builtin.«all»
  refine wpAny_bind (m := oneArg "all" _) (wpAny_pure ?_)
  refine wpAny_bind (wpAny_mono h (fun it s₂ h₂ => ?_) fun _ _ e => e)
  obtain ⟨I, fp, wr, G, n, P, St, tr, rfl, W, hst, htr, hQ⟩ := h₂
  exact wpAny_pure ⟨plainId_quiet F.plain_all_loop _, all_loopT W tr htr n 0 s₂ rfl (Nat.zero_le _) hst fun s' hm => by simpa using hQ s' hm⟩
theorem call_any_T {x : Value} {Q : Value → Shared → Prop}
    (h : wpAny (model prog w) A.in1 (pyIter x) (fun it s₂ => ∃ I fp wr G n P St tr, it = .ref I ∧ WalksS prog w A.in1 I fp wr G n P St ∧ St 0 s₂ ∧ TruthT prog w A.in1 P tr ∧
      ∀ s', Moved wr G s₂ s' → Q (.bool ((List.range n).any tr)) s') E s) :
    wpAny (model prog w) A (call (.builtin "any") [x]) Q E s := by
  refine call_function_tree F.kind_any F.plain_any F.entry_any (F.args_any1 _) ?_
  unfold Builtin.«any»
  refine wpAny_bind (m := oneArg "any" _) (wpAny_pure ?_)
  refine wpAny_bind (wpAny_mono h (fun it s₂ h₂ => ?_) fun _ _ e => e)
  obtain ⟨I, fp, wr, G, n, P, St, tr, rfl, W, hst, htr, hQ⟩ := h₂
  exact wpAny_pure ⟨plainId_quiet F.plain_any_loop _, any_loopT W tr htr n 0 s₂ rfl (Nat.zero_le _) hst fun s' hm => by simpa using hQ s' hm⟩
end
section
variable {X : Cx} {pins : List (Addr × Obj)} {σ : L2.St} {H : Hp} {s : Shared}
/-- the generator g over the items xs, ready to be walked, in the state s5; H1: what was held before -/
def ReadyV (X : Cx) (pins : List (Addr × Obj)) (σ : L2.St) (H1 : Hp) (P : Addr) (xs : List V) (pb : V → Bool) (g : Addr) (s5 : Shared) : Prop :=
  ∃ (fp wr : List Addr) (G : Array GenState → Array GenState → Prop) (F : Nat → Value → Prop) (St : Nat → Shared → Prop),
    WalksS X.prog X.w X.A.in1 g fp wr G xs.length F St ∧ St 0 s5 ∧ TruthT X.prog X.w X.A.in1 F (trV pb xs) ∧
    ∀ s', Moved wr G s5 s' → ∃ H2, GxR.Tabbed P H1 H2 ∧ Inv X pins σ H2 s'
theorem gen_tupV {c P : Addr} {elt iter : Expr} {x : Str} {px gpos : Pos} {scope : Scope} {Pz : V → Prop} {pb : V → Bool} {te : TE} {k : Nat} {Q' : Value → Shared → Prop} {R : List V → Hp → Prop}
    (hr : Room k X.A) (TB : GxR.TabB X.base X.mg c P) (hcode : X.env.code = .ref c) (S : GxR.GenS X.env scope x) (hi : PE X iter te) (hel : EltV X.prog X.w X.mg scope x elt Pz pb)
    (hs : ∀ v, genFold iter X.env v = pure v) (I : Inv X pins σ H s) (h : te σ H fun v H1 => ∃ (yl : Addr) (xs : List V), v = .ref yl ∧ SqT X.K H1 yl xs ∧ (∀ a ∈ xs, Pz a) ∧ GxR.TabG H1 P ∧ R xs H1)
    (hQ : ∀ xs H1 g s5, R xs H1 → ReadyV X pins σ H1 P xs pb g s5 → Q' (.ref g) s5) :
    wpAny (model X.prog X.w) X.A (eval (.GeneratorExp elt [⟨.Name x px, iter, [], 0⟩] scope gpos) X.env) Q' X.xe s := by
  refine wpAny_GeneratorExp_walksQ hr.hd S.co (closure_ok S.free) S.cell S.dot S.loc S.kind (by have := hr.dp; omega) ?_ hs
  refine thn (hi.run pins s σ H _ I h) fun xv s1 ⟨v, H1, I1, r1, q1⟩ => ?_
  obtain ⟨yl, xs, rfl, hyl, hPz, ⟨ps, hP, ht⟩, q1⟩ := q1
  obtain rfl : xv = Value.ref yl := r1
  obtain ⟨its, rv, hl, hz⟩ := I1.tuple hyl
  have hIL : s1.heap.IsTuple yl its.toArray := hl
  have hlen : its.length = xs.length := rv.length.symm
  have hat : ∀ (i : Nat) (v : Value), its.toArray[i]? = some v → ∃ a : V, xs[i]? = some a ∧ RelV a v := fun i v hv => by
    have hv2 : its[i]? = some v := by simpa using hv
    have hi2 : i < its.length := (List.getElem?_eq_some_iff.mp hv2).1
    obtain ⟨a, ha⟩ : ∃ a, xs[i]? = some a := ⟨xs[i]'(by omega), List.getElem?_eq_getElem _⟩
    obtain ⟨u, hu, ru⟩ := rv.get ha
    rw [hv2] at hu
    cases hu
    exact ⟨a, ha, ru⟩
  refine wpAny_pyIter_tuple hIL ?_
  generalize ho : ({ cls := .type "tuple_iterator", data := .fields #[.ref yl, .int 0 0] } : Obj) = o
  have hitr : (s1.heap.push o).IsTupleIter s1.heap.objs.size yl 0 := by
    subst ho
    exact ⟨_, Heap.get?_push_size _ rfl, rfl, rfl⟩
  have hylt : yl < s1.heap.objs.size := by
    obtain ⟨_, e, _⟩ := _root_.id hIL
    exact Heap.lt_size e
  have hPs : s1.heap.get? P = some { cls := .none, data := .fields ps } := I1.hok P _ hP
  have hPlt : P < s1.heap.objs.size := Heap.lt_size hPs
  have hP2 : (s1.heap.push o).get? P = some { cls := .none, data := .fields ps } := Heap.get?_push_of_some _ hPs
  have cd : PySem.W.CodeHd (s1.heap.push o) c P := TB.code.keeps fun b u e => Heap.get?_push_of_some _ (I1.bk b u e)
  have lim2 : (s1.heap.push o).NoLimit := I1.nolimit.push o
  obtain ⟨mb, hb1, hb2⟩ := I1.mod.blt
  have nsP : ∀ {a : Addr} {m : Str → Option Value}, X.base.Ns a m → a ≠ P := fun {a m} hn e => by
    obtain ⟨o', es, ep, ho', hd, _⟩ := hn
    have := I1.bk _ _ ho'
    rw [e, hPs] at this
    cases this
    cases hd
  have cont : ∀ (code : Value) (h3 : Heap) (tk : Nat) (ps' : Array Value), Heap.ExtBut P (s1.heap.push o) h3 → (s1.heap.push o).objs.size ≤ h3.objs.size → h3.get? P = some { cls := .none, data := .fields ps' } → (∃ more, ps' = ps ++ more) → TriplesOk ps'.toList →
      wpAny (model X.prog X.w) X.A (builtinsFor X.env.globals X.env.builtins) (fun bi s₄ =>
        ∃ Ia fp wr n₀ Pf St₀ pz F, Value.ref s1.heap.objs.size = .ref Ia ∧ (∀ A' : Around, A'.handled = none → Walks X.prog X.w A' Ia fp wr n₀ Pf St₀) ∧ St₀ 0 s₄.heap ∧ (∀ b ∈ fp, b < s₄.heap.objs.size) ∧ s₄.heap.NoLimit ∧ cStatics ∉ wr ∧
          (∀ href : Heap, (∀ b o, s₄.heap.get? b = some o → href.get? b = some o) →
            QuietGen X.prog X.w (genEnv scope (cloFrom X.env.cells scope.names []) s₄.heap.objs.size code bi X.env) x [] elt (List.range s₄.heap.objs.size) wr Pf pz F href) ∧
          (∀ a h₅ tk gs, gs.bare = true → s₄.heap.objs.size < a → h₅.objs.size = a + 1 → (∀ b o, s₄.heap.get? b = some o → h₅.get? b = some o) →
            WalksS X.prog X.w X.A.in4 a (a :: s₄.heap.objs.size :: List.range s₄.heap.objs.size) (s₄.heap.objs.size :: wr) (GenOnlyQ s₄.gens.size) (passing pz n₀ 0).length
              (fun j y => ∃ i, (passing pz n₀ 0)[j]? = some i ∧ F i y) (GenAt X.prog X.w X.A.in4 a s₄.gens.size s₄.heap.objs.size (List.range s₄.heap.objs.size) wr pz n₀ F) →
            GenAt X.prog X.w X.A.in4 a s₄.gens.size s₄.heap.objs.size (List.range s₄.heap.objs.size) wr pz n₀ F 0 { s₄ with gens := s₄.gens.push gs, toks := tk, heap := h₅ } →
            Q' (.ref a) { s₄ with gens := s₄.gens.push gs, toks := tk, heap := h₅ })) X.xe { s1 with heap := h3, toks := tk } := by
    intro code h3 tk ps' hx hsz hP3 hmore ht3
    obtain ⟨bm, ob, e1, e2, e3, e4, e5, e6, e7, e8⟩ := TB.bm
    have hcP : cStatics ≠ P := fun e => by
      obtain ⟨_, hns, _⟩ := I1.nolimit
      obtain ⟨o', es, ep, ho, hd, _⟩ := hns
      rw [e, hPs] at ho
      cases ho
      cases hd
    have hcl : cStatics < s1.heap.objs.size := let ⟨_, hns, _⟩ := I1.nolimit; hns.lt
    have sz2 : (s1.heap.push o).objs.size = s1.heap.objs.size + 1 := Heap.size_push ..
    have keep3 : ∀ b u, b ≠ P → s1.heap.get? b = some u → h3.get? b = some u := fun b u hb e => hx b u hb (Heap.get?_push_of_some _ e)
    refine wpAny_builtinsFor (m := X.mg) (by rw [I1.ok.glob]; exact ((I1.mod.glob.keeps I1.bk).push o).extBut hx TB.gP) e1 e2 (keep3 _ _ e4 (I1.bk _ _ e5)) e6 e7 e8 ?_
    have hylP : yl ≠ P := fun z => by
      obtain ⟨_, e, hc1, _, hd1⟩ := _root_.id hIL
      rw [z, hPs] at e
      cases e
      cases hd1
    have hIL3 : h3.IsTuple yl its.toArray := by
      obtain ⟨ob, e, r⟩ := _root_.id hIL
      exact ⟨ob, keep3 _ _ hylP e, r⟩
    have hItr3 : h3.IsTupleIter s1.heap.objs.size yl 0 := hitr.at fun u e => hx _ u (Nat.ne_of_gt hPlt) e
    refine ⟨s1.heap.objs.size, [s1.heap.objs.size, yl], [s1.heap.objs.size], its.toArray.size, (fun i v => its.toArray[i]? = some v), (fun i h => h.IsTupleIter s1.heap.objs.size yl i ∧ h.IsTuple yl its.toArray), (fun _ => true),
      (fun i y => ∃ a : V, xs[i]? = some a ∧ Tru X.prog X.w y (pb a)), rfl, (fun A' hA => Walks.tuple hA _ _ (Nat.ne_of_lt hylt) _), ⟨hItr3, hIL3⟩, ?_, lim2.extBut hx hcP, ?_, ?_, ?_⟩
    · intro b hb
      rcases List.mem_cons.mp hb with z | z
      · rw [z]
        show s1.heap.objs.size < h3.objs.size
        omega
      · rcases List.mem_cons.mp z with z | z
        · rw [z]
          have e9 : s1.heap.objs.size ≤ h3.objs.size := by omega
          exact Nat.lt_of_lt_of_le hylt e9
        · cases z
    · intro z
      rcases List.mem_cons.mp z with z | z
      · exact Nat.ne_of_lt hcl z
      · cases z
    · intro href hhref
      refine ⟨fun A' E' i v s₂ m₂ hA hPv hn hm hk => ?_, fun A' E' i v s₂ m₂ hA hPv hp hn hm hk => ?_⟩
      · simp only [List.forIn_nil]
        exact wpAny_pure ⟨rfl, GxR.keeps_refl _⟩
      · obtain ⟨a, ha, ra⟩ := hat i v hPv
        have nsK : ∀ {a : Addr} {m : Str → Option Value}, X.base.Ns a m → s₂.heap.Ns a m := fun {a m} hn0 => by
          have nP := nsP hn0
          obtain ⟨o', es, ep, ho', r⟩ := hn0
          have e1 := I1.bk _ _ ho'
          have hl := Heap.lt_size e1
          have e2 := hhref _ _ (keep3 _ _ nP e1)
          refine ⟨o', es, ep, hk a (List.mem_range.mpr ?_) ?_ _ e2, r⟩
          · have e9 : s1.heap.objs.size ≤ h3.objs.size := by omega
            exact Nat.lt_of_lt_of_le hl e9
          · intro z
            rcases List.mem_cons.mp z with z | z
            · rw [z] at hl; exact Nat.lt_irrefl _ hl
            · cases z
        have ge : GEnv X.mg (genEnv scope (cloFrom X.env.cells scope.names []) h3.objs.size code builtinsNs X.env) s₂ :=
          ⟨S.kind, by show s₂.heap.Ns X.env.globals X.mg; rw [I1.ok.glob]; exact nsK I1.mod.glob, mb, nsK hb1, hb2⟩
        refine wpAny_mono (hel _ A' E' a v s₂ m₂ rfl (hPz a (List.mem_of_getElem? ha)) ra ge hn hm) (fun y s3 r => ?_) fun _ _ e => e
        exact ⟨⟨a, ha, r.1⟩, r.2⟩
    · intro g h5 tk5 gs hgb hag hsz5 hk5 W5 hgat
      simp only [GxR.passing_true, List.length_range] at W5
      have hn5 : its.toArray.size = xs.length := by rw [List.size_toArray, hlen]
      rw [hn5] at W5 hgat
      refine hQ xs H1 g _ q1 ⟨_, _, _, _, _, W5.in4_1, hgat, ?_, fun s' hm => ?_⟩
      · intro j v sj Qj Ej hv hQj
        obtain ⟨i, hij, a, ha, e⟩ := hv
        obtain ⟨hj, ej⟩ := List.getElem?_eq_some_iff.mp hij
        rw [List.getElem_range] at ej
        subst ej
        rw [trV_some ha] at hQj
        exact e _ _ _ _ hQj
      · obtain ⟨more, em⟩ := hmore
        have nwr : ∀ b u, s1.heap.get? b = some u → b ∉ h3.objs.size :: [s1.heap.objs.size] := fun b u e hb => by
          have hl := Heap.lt_size e
          rcases List.mem_cons.mp hb with z | z
          · rw [z] at hl
            have h9 : (h3.objs.size : Nat) < s1.heap.objs.size := hl
            omega
          · rcases List.mem_cons.mp z with z | z
            · rw [z] at hl
              exact Nat.lt_irrefl _ hl
            · cases z
        have J := GxR.inv_tab (more := more) (h' := s'.heap) (g' := s'.gens) (d' := s'.drawn) (t' := s'.toks) I1 hP (fun b u hb e => hm.heap b u (nwr b u e) (hk5 b u (keep3 b u hb e)))
          (by rw [← em]; exact hm.heap P _ (nwr P _ hPs) (hk5 P _ hP3)) (AllBare.movedS (I1.bare.push hgb) hm)
        rw [GxR.sh_eta s1 s' hm.os] at J
        refine ⟨upd H1 P (.tbl (ps ++ more)), ⟨⟨ps ++ more, upd_same, by rw [← em]; exact ht3⟩, fun b hb => upd_ne hb⟩, J⟩
  refine ⟨lim2, ?_⟩
  cases hf : codeAmong gpos ps.toList with
  | none =>
    refine wpAny_genexprCodeX hcode (cd.code hP2 ht) (cd.tab hP2) hf fun c' h' tk hx hge hlt hco' _ htab' _ => ?_
    obtain ⟨o1, vs, f1, tf, fl, tg, inF, tx, tt, op, _, _, _, _, _, _, _, _, _, htr, _⟩ := hco'
    exact cont _ h' tk _ hx (Nat.le_trans hge (Nat.le_of_lt hlt)) htab'.2 ⟨_, rfl⟩ htr
  | some cv =>
    refine wpAny_genexprCode_hit hcode (cd.code hP2 ht) hf ?_
    exact cont cv (s1.heap.push o) s1.toks ps (Heap.ExtBut.refl _ _) (Nat.le_refl _) hP2 ⟨#[], by simp⟩ ht
/-- any(test for x in e), all(test for x in e), e a tuple; behind it the def's table may have grown -/
def tAnyV (K : PySem.W.Frag) (P : Addr) (Pz : V → Prop) (pb : V → Bool) (te : TE) : TE := fun σ H Q => te σ H fun v H1 => ∃ (yl : Addr) (xs : List V), v = .ref yl ∧ SqT K H1 yl xs ∧ (∀ a ∈ xs, Pz a) ∧ GxR.TabG H1 P ∧ ∀ H2, GxR.Tabbed P H1 H2 → Q (.bl (xs.any pb)) H2
def tAllV (K : PySem.W.Frag) (P : Addr) (Pz : V → Prop) (pb : V → Bool) (te : TE) : TE := fun σ H Q => te σ H fun v H1 => ∃ (yl : Addr) (xs : List V), v = .ref yl ∧ SqT K H1 yl xs ∧ (∀ a ∈ xs, Pz a) ∧ GxR.TabG H1 P ∧ ∀ H2, GxR.Tabbed P H1 H2 → Q (.bl (xs.all pb)) H2
theorem pe_anyV {c P : Addr} {elt iter : Expr} {x : Str} {px p pos gpos : Pos} {scope : Scope} {Pz : V → Prop} {pb : V → Bool} {te : TE} {k : Nat}
    (hr : Room k X.A) (hg : Gl X "any") (hm : X.mg "any" = none) (TB : GxR.TabB X.base X.mg c P) (hcode : X.env.code = .ref c) (S : GxR.GenS X.env scope x) (hi : PE X iter te) (hel : EltV X.prog X.w X.mg scope x elt Pz pb)
    (hs : ∀ v, genFold iter X.env v = pure v)
    (he : starEach [.GeneratorExp elt [⟨.Name x px, iter, [], 0⟩] scope gpos] X.env = (false, eval (.GeneratorExp elt [⟨.Name x px, iter, [], 0⟩] scope gpos) X.env) :: starEach [] X.env := by rfl) :
    PE X (.Call (.Name "any" p) [.GeneratorExp elt [⟨.Name x px, iter, [], 0⟩] scope gpos] [] pos) (tAnyV X.K P Pz pb te) := by
  refine ⟨fun pins s σ H Q I h => ?_⟩
  refine wpAny_Call_Name_kw (ld_blt I hg hm boot_any ?_)
  refine PyProof.Rows.callWith_builtin1 ?_ he (by rfl)
  rw [he]
  show wpAny _ _ (spliced ((false, eval (.GeneratorExp elt [⟨.Name x px, iter, [], 0⟩] scope gpos) X.env) :: backTo pos (starEach [] X.env))) _ _ s
  refine Calls.spliced_cons (gen_tupV (R := fun xs H1 => ∀ H2, GxR.Tabbed P H1 H2 → Q (.bl (xs.any pb)) H2) hr TB hcode S hi hel hs I h fun xs H1 g s5 hR hG => ?_)
  obtain ⟨fp, wr, G, F, St, W, hst, htr, hI⟩ := hG
  refine Calls.spliced_nil ?_
  refine call_any_T (W.self 0 _ _ _ hst ⟨g, fp, wr, G, _, F, St, _, rfl, W, hst, htr, fun s' hmv => ?_⟩)
  obtain ⟨H2, hT, J⟩ := hI s' hmv
  refine ⟨.bl _, H2, J, rfl, ?_⟩
  rw [any_trV xs pb]
  exact hR H2 hT
theorem pe_allV {c P : Addr} {elt iter : Expr} {x : Str} {px p pos gpos : Pos} {scope : Scope} {Pz : V → Prop} {pb : V → Bool} {te : TE} {k : Nat}
    (hr : Room k X.A) (hg : Gl X "all") (hm : X.mg "all" = none) (hb : bootBuiltins "all" = some (.builtin "all")) (TB : GxR.TabB X.base X.mg c P) (hcode : X.env.code = .ref c) (S : GxR.GenS X.env scope x) (hi : PE X iter te) (hel : EltV X.prog X.w X.mg scope x elt Pz pb)
    (hs : ∀ v, genFold iter X.env v = pure v)
    (he : starEach [.GeneratorExp elt [⟨.Name x px, iter, [], 0⟩] scope gpos] X.env = (false, eval (.GeneratorExp elt [⟨.Name x px, iter, [], 0⟩] scope gpos) X.env) :: starEach [] X.env := by rfl) :
    PE X (.Call (.Name "all" p) [.GeneratorExp elt [⟨.Name x px, iter, [], 0⟩] scope gpos] [] pos) (tAllV X.K P Pz pb te) := by
  refine ⟨fun pins s σ H Q I h => ?_⟩
  refine wpAny_Call_Name_kw (ld_blt I hg hm hb ?_)
  refine PyProof.Rows.callWith_builtin1 ?_ he (by rfl)
  rw [he]
  show wpAny _ _ (spliced ((false, eval (.GeneratorExp elt [⟨.Name x px, iter, [], 0⟩] scope gpos) X.env) :: backTo pos (starEach [] X.env))) _ _ s
  refine Calls.spliced_cons (gen_tupV (R := fun xs H1 => ∀ H2, GxR.Tabbed P H1 H2 → Q (.bl (xs.all pb)) H2) hr TB hcode S hi hel hs I h fun xs H1 g s5 hR hG => ?_)
  obtain ⟨fp, wr, G, F, St, W, hst, htr, hI⟩ := hG
  refine Calls.spliced_nil ?_
  refine call_all_T (W.self 0 _ _ _ hst ⟨g, fp, wr, G, _, F, St, _, rfl, W, hst, htr, fun s' hmv => ?_⟩)
  obtain ⟨H2, hT, J⟩ := hI s' hmv
  refine ⟨.bl _, H2, J, rfl, ?_⟩
  rw [all_trV xs pb]
  exact hR H2 hT
end
end VK
end

section
set_option Elab.async false
set_option linter.all false
set_option pp.maxSteps 1500
set_option maxRecDepth 100000
set_option maxHeartbeats 4000000
/-! elements of generator expressions over tuples of texts -/
namespace VK
open PySem PySem.Spec PyProof.Rows L2
theorem keeps_push (s : Shared) (o : Obj) (k : Nat) : Keeps s { s with heap := s.heap.push o, toks := k } := ⟨_, _, rfl, fun _ _ e => Heap.get?_push_of_some _ e⟩
theorem sliceMade_cut {a : Str} {t : Tok} {l u : Option (Int × Tok)} {Q : Value → Shared → Prop} {s : Shared} (h : (cutS a (l.map (·.1)) (u.map (·.1))).length ≤ sizeLine ∧ ∀ t' k, Q (.str (cutS a (l.map (·.1)) (u.map (·.1))) t') { s with toks := k }) : (sliceMade a t l u none).post Q s := by
  rw [← sliceText_cut] at h
  unfold PySem.StrLaws.sliceText at h
  exact post_val_or_str h
section
variable {prog : Program} {w : World} {mg : Str → Option Value} {scope : Scope} {x : Str}
theorem tru_bool (b : Bool) : Tru prog w (.bool b) b := fun A s Q E h => wpAny_truthy_bool (h s.toks (Nat.le_refl _))
theorem tru_str {a : Str} {t : Tok} (h : a.length ≤ sizeLine) : Tru prog w (.str a t) ((a.length : Int) != 0) := fun A s Q E q => by
  have hl := line63
  have hs : sizeLine = 16777216 := sizeLine_eq
  exact PySem.P.truthy_str (by omega) (q _ (by omega))
/-- a text of fit length, or an int -/
def ItemSI (v : V) : Prop := (∃ a : Str, v = .str a ∧ a.length ≤ sizeLine) ∨ ∃ i, v = .int i
def pbSI : V → Bool
  | .str a => (a.length : Int) != 0
  | _ => false
/-- isinstance(x, str) and x -/
theorem elt_isi {p1 p2 p3 p4 p5 p6 : Pos} (hk : scope.kind = .function) (hl : scope.names.lookup x = some .local) (h1 : scope.names.lookup ("isinstance" : Str) = some .globalImplicit) (h2 : scope.names.lookup ("str" : Str) = some .globalImplicit) (m1 : mg "isinstance" = none) (m2 : mg "str" = none)
    (hd : (x == ("__debug__" : Str)) = false := by decide) :
    EltV prog w mg scope x (.BoolOp .And [.Call (.Name "isinstance" p1) [.Name x p2, .Name "str" p3] [] p4, .Name x p5] p6) ItemSI pbSI := by
  intro cenv A' E' v u s₂ m₂ hs hz hr ge hn hm
  obtain ⟨mb, hb1, hb2⟩ := ge.b
  refine wpAny_And2 ?_
  refine wpAny_Call_Name_kw (Calls.Name_function_global ge.kind (by show cenv.scope.names.lookup _ = _; rw [hs]; exact h1) (Calls.loadGlobal_builtin ge.g m1 hb1 ((hb2 "isinstance" (by decide)).trans boot_isinstance) ?_) (by decide))
  refine PyProof.Rows.callWith_builtin1 ?_ rfl rfl
  show wpAny _ _ (spliced [(false, eval (.Name x p2) cenv), (false, eval (.Name "str" p3) cenv)]) _ _ s₂
  refine Calls.spliced_cons (wpAny_Name (wpAny_loadName_local (by rw [hs]; exact hk) (show cenv.scope.names.lookup x = some .local by rw [hs]; exact hl) hn hm ?_) hd)
  refine Calls.spliced_cons (Calls.Name_function_global ge.kind (by show cenv.scope.names.lookup _ = _; rw [hs]; exact h2) (Calls.loadGlobal_builtin ge.g m2 hb1 ((hb2 "str" (by decide)).trans boot_str) ?_) (by decide))
  refine Calls.spliced_nil ?_
  rcases hz with ⟨a, rfl, ha⟩ | ⟨i, rfl⟩
  · obtain ⟨t, rfl⟩ := hr
    refine IsiPair.str_str (wpAny_truthy_bool ?_)
    rw [if_pos rfl]
    refine wpAny_Name (wpAny_loadName_local (by rw [hs]; exact hk) (show cenv.scope.names.lookup x = some .local by rw [hs]; exact hl) hn hm ?_) hd
    exact ⟨tru_str ha, GxR.keeps_refl _⟩
  · obtain ⟨t, rfl⟩ := hr
    refine IsiPair.int_str (wpAny_truthy_bool ?_)
    rw [if_neg (by decide)]
    exact ⟨tru_bool false, GxR.keeps_tok _ _⟩
/-- 'k' in x[:-1] -/
def pbIn (k : Str) : V → Bool
  | .str a => Txt.contains (cutS a none (some (-1))) k
  | _ => false
def ItemS (v : V) : Prop := ∃ a : Str, v = .str a ∧ a.length ≤ sizeLine
theorem elt_in {k : Str} {j j2 : Nat} {p1 p2 p3 p4 p5 p6 p7 : Pos} (hk : scope.kind = .function) (hl : scope.names.lookup x = some .local) (hd : (x == ("__debug__" : Str)) = false := by decide) :
    EltV prog w mg scope x (.Compare (.Constant (.str k) j p1) [.In] [.Subscript (.Name x p2) (.Slice none (some (.UnaryOp .USub (.Constant (.int 1) j2 p3) p4)) none p5) p6] p7) ItemS (pbIn k) := by
  intro cenv A' E' v u s₂ m₂ hs hz hr ge hn hm
  obtain ⟨a, rfl, ha⟩ := hz
  obtain ⟨t, rfl⟩ := hr
  refine wpAny_Compare1 ?_
  refine Calls.Constant_str ?_
  refine wpAny_Subscript_str_slice ?_
  refine wpAny_Name (wpAny_loadName_local (by rw [hs]; exact hk) (show cenv.scope.names.lookup x = some .local by rw [hs]; exact hl) hn hm ?_) hd
  rw [evalPart_none, evalPart_some]
  refine wpAny_pure ?_
  refine UnaryOp_ (wpAny_Constant_int (neg_int ?_))
  refine ⟨a, t, none, some (-1, _), rfl, rfl, rfl, ?_⟩
  refine sliceMade_cut ?_
  refine ⟨Nat.le_trans (cutS_length a _ _) ha, fun t' kk => ?_⟩
  refine PySem.P.in_str ?_
  exact ⟨tru_bool _, ⟨_, _, rfl, fun b o q => Heap.get?_push_of_some _ q⟩⟩
/-- x[-1] == 'k', x not empty -/
def pbLast (k : Str) : V → Bool
  | .str a => match a.cps.toList.getLast? with
    | some c => ([c] == k.cps.toList)
    | none => false
  | _ => false
def ItemS1 (v : V) : Prop := ∃ a : Str, v = .str a ∧ a.length ≤ sizeLine ∧ a.length ≠ 0
theorem elt_last {k : Str} {j j2 : Nat} {p1 p2 p3 p4 p5 p6 : Pos} (hk : scope.kind = .function) (hl : scope.names.lookup x = some .local) (hd : (x == ("__debug__" : Str)) = false := by decide) :
    EltV prog w mg scope x (.Compare (.Subscript (.Name x p1) (.UnaryOp .USub (.Constant (.int 1) j2 p2) p3) p4) [.Eq] [.Constant (.str k) j p5] p6) ItemS1 (pbLast k) := by
  intro cenv A' E' v u s₂ m₂ hs hz hr ge hn hm
  obtain ⟨a, rfl, ha, hne⟩ := hz
  obtain ⟨t, rfl⟩ := hr
  refine wpAny_Compare1 ?_
  refine Subscript_ ?_
  refine wpAny_Name (wpAny_loadName_local (by rw [hs]; exact hk) (show cenv.scope.names.lookup x = some .local by rw [hs]; exact hl) hn hm ?_) hd
  refine UnaryOp_ (wpAny_Constant_int (neg_int ?_))
  have hln : a.cps.toList.length = a.length := Array.length_toList
  rcases List.eq_nil_or_concat a.cps.toList with e | ⟨l, c, e⟩
  · exfalso
    rw [e] at hln
    exact hne hln.symm
  · rw [List.concat_eq_append] at e
    have hat : atI a.cps.toList (-1) = some c := by rw [e]; exact atI_last l c
    obtain ⟨jj, h1, h2, h3, h4, h5⟩ := atI_get hat
    rw [hln] at h1 h4 h5
    have hpb : pbLast k (.str a) = ([c] == k.cps.toList) := by
      show (match a.cps.toList.getLast? with
        | some c => ([c] == k.cps.toList)
        | none => false) = _
      rw [e, List.getLast?_concat]
    refine tail_any (typeIs_str _ a t) slot_str_getitem.lookup (getItem_str (c := c) (by decide) (by rw [h1]; simpa using h2) ?_) (by with_unfolding_all rfl)
    refine Calls.Constant_str ?_
    refine PySem.P.eq_str ⟨?_, _, _, rfl, fun b o q => q⟩
    rw [hpb]
    exact tru_bool _
end
end VK
end

section
set_option Elab.async false
set_option linter.all false
set_option pp.maxSteps 1500
set_option maxRecDepth 100000
set_option maxHeartbeats 4000000
namespace VK
open PySem PyProof.Rows L2
/-- a def whose code object is known -/
structure FunC (K : PySem.W.Frag) (x qual : Str) (st : Stmt) (f c : Addr) (fd : FuncData) : Prop where
  ex : ∃ (oc : Value) (od : Option Addr) (kV doc pm : Value) (an : Option Addr) (ct : Value) (osl : Array (Option Value)),
    fd = PySem.W.fnOf x qual (defArgs st) (defBody st) (defScope st) .none kV doc pm an (.ref c) ct ∧ K.lookup f = some ⟨oc, od, .func fd, osl⟩ ∧ PySem.W.codeIn K (.ref c) qual = true
  kp : PySem.W.keepIn K (.ref f) = true
section
variable {P : Program} {w : World} {K : PySem.W.Frag} {mg : Str → Option Value} {base : Heap}
theorem FunC.ok {x qual : Str} {st : Stmt} {f c : Addr} {fd : FuncData} {N ps : List Str} {k : Nat} {sp : Sp} (F : FunC K x qual st f c fd) (S : FnScope N ps (defScope st)) (len : ∀ vs H Q E, sp vs H Q E → vs.length = ps.length)
    (hbody : ∀ (A : Around) (outer : List Env) (s : Shared) (H : Hp) (vs : List V) (Q : VK) (E : XK), Room k (A.deeper (envOfC qual (defScope st) s.heap.objs.size f (.ref c))) → sp vs H Q E →
      ∃ t, PSs (cxOf CX0 P w K mg base N qual (defScope st) f (.ref c) A outer s H E).nox (defBody st) t ∧ t { nx := fun _ H' => Q .non H', rt := Q } (start N vs) H) : FnOk P w K mg base CX0 (k + 1) f fd ps sp := by
  obtain ⟨oc, od, kV, doc, pm, an, ct, osl, rfl, lk, hcd⟩ := F.ex
  refine fn_of lk hcd S len fun A outer s H vs Q E hr hsp => ?_
  obtain ⟨t, h, q⟩ := hbody A outer s H vs Q E hr hsp
  exact ⟨t, h.nox, q⟩
end
theorem gen_s {env : Env} {scope : Scope} {x : Str} (k : scope.kind = .function) (co : scope.isCoroutine = false) (h : scope.names.all (fun y => match y.2 with | .cell => false | .free => false | _ => true) = true) (d : scope.names.lookup (".0" : Str) = some NameKind.local) (l : scope.names.lookup x = some .local) : GxR.GenS env scope x := by
  refine ⟨k, co, fun y hy e => ?_, d, l, fun y hy e => ?_⟩
  · have q := List.all_eq_true.mp h y hy
    rw [e] at q; cases q
  · have q := List.all_eq_true.mp h y hy
    rw [e] at q; cases q
theorem ty_of_sqt {K : PySem.W.Frag} {H : Hp} {a : Addr} {xs : List V} (h : SqT K H a xs) : TyX K H (.ref a) (.type "tuple") := by
  rcases h with (h | ⟨o, h⟩) | ⟨o, its, n, hk, hc, _⟩
  · exact .base (.tup h)
  · exact .fTuple h
  · exact .kTuple hk hc
/-- what is_lines says of a tuple -/
def islB (xs : List V) : Bool := xs.all pbSI && (!xs.any (pbIn ("\n" : Str)) && xs.dropLast.all (pbLast ("\n" : Str)))
abbrev s_is_lines : Stmt := topS 7
theorem sc_is_lines : FnScope ["value"] ["value"] (defScope s_is_lines) := ⟨rfl, rfl, rfl, by decide +kernel, rfl, by decide +kernel, by decide +kernel⟩
def spIsl (K : PySem.W.Frag) (Pt : Addr) : Sp := fun vs H Q _ => ∃ v, vs = [v] ∧ ((∃ t, TyX K H v t ∧ PySem.W.kitOne K t (.type "tuple") = some false ∧ Q (.bl false) H) ∨
  ∃ a xs, v = .ref a ∧ SqT K H a xs ∧ (∀ x ∈ xs, ItemSI x) ∧ GxR.TabG H Pt ∧ ∀ H', Sv Pt H H' → GxR.TabG H' Pt → Q (.bl (islB xs)) H')
theorem sv_tab {Pt : Addr} {H H' : Hp} (h : GxR.Tabbed Pt H H') : Sv Pt H H' := fun a o n e => by rw [h.2 a n]; exact e
theorem sv_sqt {K : PySem.W.Frag} {Pt : Addr} {H H' : Hp} (s : Sv Pt H H') (t : GxR.TabG H Pt) {a : Addr} {xs : List V} (h : SqT K H a xs) : SqT K H' a xs := by
  rcases h with h | h
  · have n : a ≠ Pt := by
      rintro rfl
      obtain ⟨ps, e, _⟩ := t
      rcases h with h | ⟨o, h⟩
      · rw [e] at h; cases h
      · rw [e] at h; cases h
    exact .inl (s.rd h n)
  · exact .inr h
section
variable {P : Program} {w : World} {K : PySem.W.Frag} {mg : Str → Option Value} {base : Heap}
theorem ok_isl {f c Pt : Addr} {fd : FuncData} (F : FunC K "is_lines" "is_lines" s_is_lines f c fd) (TB : GxR.TabB base mg c Pt) (z_isi : mg "isinstance" = none) (z_str : mg "str" = none) (z_tuple : mg "tuple" = none) (z_all : mg "all" = none) (z_any : mg "any" = none) : FnOk P w K mg base CX0 3 f fd ["value"] (spIsl K Pt) := by
  refine F.ok sc_is_lines (fun vs H Q E h => ?_) (fun A outer s H vs Q E hr h => ?_)
  · obtain ⟨v, rfl, _⟩ := h
    rfl
  · obtain ⟨v, rfl, h⟩ := h
    refine ⟨_, (pss_cons (ps_if (PW.pt (pw_or (pt_not (pt_truth (pe_callB call_isi (by rfl) z_isi boot_isinstance (pa_cons (pv 0) (pa_cons (pe_bltn (v := .ty "tuple") (by rfl) z_tuple boot_tuple rfl) pa_nil))) (by intro _; rfl))) (pw_or1 (pt_not (pt_truth (pe_allV hr (by rfl) z_all (by decide +kernel) TB rfl (gen_s rfl rfl rfl rfl rfl) (pv 0) (elt_isi rfl rfl rfl rfl z_isi z_str) (fun _ => rfl)) (by intro _; rfl))))))
        (pss_one (ps_ret pe_bl))
        pss_nil)
      (pss_cons (ps_if (pt_truth (pe_anyV hr (by rfl) z_any TB rfl (gen_s rfl rfl rfl rfl rfl) (pv 0) (elt_in rfl rfl) (fun _ => rfl)) (by intro _; rfl))
        (pss_one (ps_ret pe_bl))
        pss_nil)
      (pss_one (ps_ret (pe_allV hr (by rfl) z_all (by decide +kernel) TB rfl (gen_s rfl rfl rfl rfl rfl) (pe_slice sl_tupA (pv 0) po_none (po_some (pe_un un_neg pe_int))) (elt_last rfl rfl) (fun _ => rfl)))))), ?_⟩
    rcases h with ⟨t, ht, hk, q⟩ | ⟨a, xs, rfl, hA, hx, tab, q⟩
    · refine ⟨_, rfl, v, .ty "tuple", t, .type "tuple", false, rfl, .ty _, ht, hk, _, rfl, ?_⟩
      refine ite2 (fun _ => ?_) (fun e => absurd rfl e)
      exact q
    · refine ⟨_, rfl, .ref a, .ty "tuple", _, .type "tuple", true, rfl, .ty _, ty_of_sqt hA, rfl, _, rfl, ?_⟩
      refine ite2 (fun e => absurd e Bool.false_ne_true) (fun _ => ?_)
      refine ⟨_, rfl, a, xs, rfl, hA, hx, tab, fun H2 t2 => ⟨_, rfl, ?_⟩⟩
      have s2 := sv_tab t2
      refine ite2 (fun e => ?_) (fun e => ?_)
      · have e1 : xs.all pbSI = false := by simpa using e
        have := q H2 s2 t2.1
        unfold islB at this
        rw [e1, Bool.false_and] at this
        exact this
      · have e1 : xs.all pbSI = true := by simpa using e
        have hA2 := sv_sqt s2 tab hA
        have hx1 : ∀ x ∈ xs, ItemS1 x := fun x hm => by
          have q1 := List.all_eq_true.mp e1 x hm
          rcases hx x hm with ⟨z, rfl, hz⟩ | ⟨i, rfl⟩
          · refine ⟨z, rfl, hz, fun e0 => ?_⟩
            have q2 : ((z.length : Int) != 0) = true := q1
            rw [e0] at q2
            exact absurd q2 (by decide)
          · cases q1
        refine ⟨_, rfl, a, xs, rfl, hA2, fun x hm => ?_, t2.1, fun H3 t3 => ⟨_, rfl, ?_⟩⟩
        · obtain ⟨z, hz, h1, _⟩ := hx1 x hm
          exact ⟨z, hz, h1⟩
        have s3 := sv_tab t3
        refine ite2 (fun e => ?_) (fun e => ?_)
        · have := q H3 (s2.trans s3) t3.1
          unfold islB at this
          rw [e1, e] at this
          exact this
        · have e2 : xs.any (pbIn ("\n" : Str)) = false := by simpa using e
          have hA3 := sv_sqt s3 t2.1 hA2
          refine ⟨_, rfl, _, rfl, _, rfl, ?_⟩
          dsimp only
          refine sl_tupK hA3 fun H4 p s34 hp => ?_
          have ec : cutV xs none (some (-1)) = xs.dropLast := by
            rcases List.eq_nil_or_concat xs with e0 | ⟨ys, y, e0⟩
            · rw [e0]; rfl
            · rw [e0, List.concat_eq_append, cutV_init, List.dropLast_concat]
          rw [ec] at hp
          have tab4 : GxR.TabG H4 Pt := by
            obtain ⟨ps, e3, hok⟩ := t3.1
            exact ⟨ps, s34 _ _ e3, hok⟩
          refine ⟨p, _, rfl, hp, fun x hm => hx1 x (List.dropLast_subset _ hm), tab4, fun H5 t5 => ?_⟩
          have := q H5 ((s2.trans s3).trans ((Sv.same s34).trans (sv_tab t5))) t5.1
          unfold islB at this
          rw [e1, e2] at this
          exact this
end
end VK
end

section
set_option Elab.async false
set_option linter.all false
set_option pp.maxSteps 1500
set_option maxRecDepth 100000
set_option maxHeartbeats 4000000
/-! min of a list of rows of pairs -/
namespace VK
open PySem PySem.Spec PyProof.Rows L2
section
variable {prog : Program} {w : World} {A : Around} {R : Result → Shared → Prop} {E : Value → Shared → Prop} {I : Addr} {fp wr : List Addr} {n : Nat} {P : Nat → Value → Prop} {St : Nat → Heap → Prop} {h₀ : Heap}
/-- x < y where the heap h₀ is kept -/
def LtOn (prog : Program) (w : World) (A : Around) (h₀ : Heap) (P : Nat → Value → Prop) (bt : Nat → Nat → Bool) : Prop :=
  ∀ i j vi vj (s : Shared) (Q : Value → Shared → Prop) (E : Value → Shared → Prop), (∀ b o, h₀.get? b = some o → s.heap.get? b = some o) → P i vi → P j vj → Q (.bool (bt i j)) s → wpAny (model prog w) A (richCompare .Lt vi vj) Q E s
theorem min_loopT (W : Walks prog w A.in1 I fp wr n P St) (bt : Nat → Nat → Bool) (hcmp : LtOn prog w A.in1 h₀ P bt) (hw : ∀ b o, h₀.get? b = some o → b ∉ wr) (S : Addr) (hSf : S ∉ fp) (hS0 : ∀ b o, h₀.get? b = some o → b ≠ S) :
    ∀ (k j : Nat) (s : Shared) (vb : Value) (c : Nat), n - (j + 1) = k → j + 1 ≤ n → St (j + 1) s.heap → (∀ b o, h₀.get? b = some o → s.heap.get? b = some o) → P (argBest bt j) vb →
    s.heap.get? S = some { cls := .type "list", dict := none, data := .seq #[vb, vb] c, slots := #[] } →
    (∀ v h' tk, P (argBest bt (n - 1)) v → (∀ b o, b ∉ wr → b ≠ S → s.heap.get? b = some o → h'.get? b = some o) → R (.ok (.ret v)) { s with heap := h', toks := tk }) →
    codeAny (model prog w) A (.builtin "min.loop" ⟨[.ref I, .none, .ref S], []⟩) R s := by
  have hSw : S ∉ wr := fun h => hSf (W.sub _ h)
  have hname : (toString "min" ++ toString ".loop" : String) = "min.loop" := by decide
  intro k
  induction k with
  | zero =>
    intro j s vb c hk hj hst h0 hPb hS hR
    have hin : j + 1 = n := by omega
    refine codeAny_builtin F.entry_min_loop ?_
    rw [Around.under_plainId F.plain_min_loop _]
    show wpAny _ A.in1 (seqItems? (.ref S) >>= _) _ _ s
    refine wpAny_bind (wpAny_seqItems hS rfl ?_)
    show wpAny _ A.in1 (tryCatch (pyNext (.ref I)) _ >>= _) _ _ s
    refine wpAny_bind (wpAny_tryCatch (W.done s _ _ (hin ▸ hst) fun h' tk hk' => ?_))
    have hS' := hk' S _ hSw hS
    show wpAny _ A.in1 (updateSeq S (fun _ => #[]) >>= _) _ _ _
    refine wpAny_bind ?_
    refine wpAny_updateSeq hS' rfl (wpAny_bind (wpAny_letGo (wpAny_pure ?_)))
    refine hR vb _ tk (by rw [← hin]; exact hPb) fun b o hbw hbS e => (Heap.get?_update_other _ _ (Ne.symm hbS)).trans (hk' b o hbw e)
  | succ k ih =>
    intro j s vb c hk hj hst h0 hPb hS hR
    have hlt : j + 1 < n := by omega
    refine codeAny_builtin F.entry_min_loop ?_
    rw [Around.under_plainId F.plain_min_loop _]
    show wpAny _ A.in1 (seqItems? (.ref S) >>= _) _ _ s
    refine wpAny_bind (wpAny_seqItems hS rfl ?_)
    show wpAny _ A.in1 (tryCatch (pyNext (.ref I)) _ >>= _) _ _ s
    refine wpAny_bind (wpAny_tryCatch (W.item (j + 1) s _ _ hlt hst fun v h' tk hP hst' hk' => ?_))
    have hS' := hk' S _ hSw hS
    have h1 : ∀ b o, h₀.get? b = some o → h'.get? b = some o := fun b o e => hk' b o (hw b o e) (h0 b o e)
    show wpAny _ A.in1 (tryCatch (holding [v, v] (richCompare .Lt v vb >>= _)) _ >>= _) _ _ _
    refine wpAny_bind (wpAny_tryCatch (wpAny_holding (wpAny_bind (hcmp (j + 1) (argBest bt j) v vb _ _ _ h1 hP hPb ?_))))
    refine wpAny_bind (wpAny_holding (wpAny_truthy_bool ?_))
    refine wpAny_bind (wpAny_letGo (wpAny_pure ?_))
    cases hb : bt (j + 1) (argBest bt j) with
    | true =>
      simp only [if_true]
      refine wpAny_bind ?_
      refine wpAny_updateSeq hS' rfl (wpAny_bind (wpAny_letGo ?_))
      rw [hname]
      refine wpAny_pure ⟨plainId_quiet F.plain_min_loop _, ih (j + 1) _ v _ (by omega) hlt (W.frame _ _ _ hst' fun b hbf o e => ?_) (fun b o e => (Heap.get?_update_other _ _ (Ne.symm (hS0 b o e))).trans (h1 b o e)) (by simp only [argBest, hb, if_true]; exact hP) (Heap.get?_update_self _ hS' rfl)
        fun v' h'' tk'' hP' hk'' => ?_⟩
      · exact (Heap.get?_update_other _ _ (fun h : S = b => hSf (by rw [h]; exact hbf))).trans e
      · exact hR v' h'' tk'' hP' fun b o hbw hbS e => hk'' b o hbw hbS ((Heap.get?_update_other _ _ (Ne.symm hbS)).trans (hk' b o hbw e))
    | false =>
      simp only [Bool.false_eq_true, if_false]
      refine wpAny_bind (wpAny_letGo ?_)
      rw [hname]
      refine wpAny_pure ⟨plainId_quiet F.plain_min_loop _, ih (j + 1) _ vb c (by omega) hlt hst' h1 (by simp only [argBest, hb, Bool.false_eq_true, if_false]; exact hPb) hS' fun v' h'' tk'' hP' hk'' => ?_⟩
      exact hR v' h'' tk'' hP' fun b o hbw hbS e => hk'' b o hbw hbS (hk' b o hbw e)
theorem min_firstT (W : Walks prog w A.in1 I fp wr n P St) (bt : Nat → Nat → Bool) (hcmp : LtOn prog w A.in1 h₀ P bt) (hw : ∀ b o, h₀.get? b = some o → b ∉ wr) (S : Addr) (hSf : S ∉ fp) (hS0 : ∀ b o, h₀.get? b = some o → b ≠ S) (hn : 0 < n) {s : Shared} {c : Nat} (hst : St 0 s.heap) (h0 : ∀ b o, h₀.get? b = some o → s.heap.get? b = some o)
    (hS : s.heap.get? S = some { cls := .type "list", dict := none, data := .seq #[] c, slots := #[] })
    (hR : ∀ v h' tk, P (argBest bt (n - 1)) v → (∀ b o, b ∉ wr → b ≠ S → s.heap.get? b = some o → h'.get? b = some o) → R (.ok (.ret v)) { s with heap := h', toks := tk }) :
    codeAny (model prog w) A (.builtin "min.loop" ⟨[.ref I, .none, .ref S], []⟩) R s := by
  have hSw : S ∉ wr := fun h => hSf (W.sub _ h)
  have hname : (toString "min" ++ toString ".loop" : String) = "min.loop" := by decide
  refine codeAny_builtin F.entry_min_loop ?_
  rw [Around.under_plainId F.plain_min_loop _]
  show wpAny _ A.in1 (seqItems? (.ref S) >>= _) _ _ s
  refine wpAny_bind (wpAny_seqItems hS rfl ?_)
  show wpAny _ A.in1 (tryCatch (pyNext (.ref I)) _ >>= _) _ _ s
  refine wpAny_bind (wpAny_tryCatch (W.item 0 s _ _ hn hst fun v h' tk hP hst' hk' => ?_))
  have hS' := hk' S _ hSw hS
  have h1 : ∀ b o, h₀.get? b = some o → h'.get? b = some o := fun b o e => hk' b o (hw b o e) (h0 b o e)
  show wpAny _ A.in1 (updateSeq S (fun _ => #[v, v]) >>= _) _ _ _
  refine wpAny_bind ?_
  refine wpAny_updateSeq hS' rfl ?_
  rw [hname]
  refine wpAny_pure ⟨plainId_quiet F.plain_min_loop _, min_loopT W bt hcmp hw S hSf hS0 _ 0 _ v _ rfl hn (W.frame _ _ _ hst' fun b hbf o e => ?_) (fun b o e => (Heap.get?_update_other _ _ (Ne.symm (hS0 b o e))).trans (h1 b o e)) hP (Heap.get?_update_self _ hS' rfl) fun v' h'' tk'' hP' hk'' => ?_⟩
  · exact (Heap.get?_update_other _ _ (fun h : S = b => hSf (by rw [h]; exact hbf))).trans e
  · exact hR v' h'' tk'' hP' fun b o hbw hbS e => hk'' b o hbw hbS ((Heap.get?_update_other _ _ (Ne.symm hbS)).trans (hk' b o hbw e))
/-- min of a list -/
theorem min_list {s : Shared} {l : Addr} {items : Array Value} {Q : Value → Shared → Prop} (hh : A.handled = none) (hl : s.heap.IsList l items) (hne : 0 < items.size) (bt : Nat → Nat → Bool) (hcmp : LtOn prog w A.in1 s.heap (fun i v => items[i]? = some v) bt)
    (h : ∀ v h' tk, items[argBest bt (items.size - 1)]? = some v → (∀ b o, s.heap.get? b = some o → h'.get? b = some o) → Q v { s with heap := h', toks := tk }) :
    wpAny (model prog w) A (call (.builtin "min") [.ref l]) Q E s := by
  have hname : (toString "min" ++ toString ".loop" : String) = "min.loop" := by decide
  have hlt : l < s.heap.objs.size := by obtain ⟨_, e, _⟩ := hl; exact Heap.lt_size e
  refine call_function_tree F.kind_min F.plain_min F.entry_min (F.args_min1 _) ?_
  show wpAny _ A.in1 (Builtin.Builtins.bindParams "min" ["key", "default"] 0 ⟨[], []⟩ >>= _) _ _ s
  refine wpAny_bind (wpAny_of_eq (show Builtin.Builtins.bindParams "min" ["key", "default"] 0 ⟨[], []⟩ = pure [none, none] from rfl) ?_)
  refine wpAny_bind (wpAny_pure ?_)
  refine wpAny_bind (wpAny_pyIter_list hl ?_)
  generalize ho : ({ cls := .type "list_iterator", data := .fields #[.ref l, .int 0 0] } : Obj) = o
  have hit : (s.heap.push o).IsListIter s.heap.objs.size l 0 := by
    subst ho
    exact ⟨_, Heap.get?_push_size _ rfl, rfl, rfl⟩
  have hl2 := hl.push o
  have hz : (s.heap.push o).objs.size = s.heap.objs.size + 1 := Heap.size_push ..
  refine wpAny_bind (wpAny_newObj_type ?_)
  rw [hname]
  have W := Walks.list (prog := prog) (w := w) (A := A.in1) hh s.heap.objs.size l (Nat.ne_of_lt hlt) items
  have lts : ∀ b o, s.heap.get? b = some o → b < s.heap.objs.size := fun b o e => Heap.lt_size e
  have hSf : (s.heap.push o).objs.size ∉ [s.heap.objs.size, l] := by
    rw [hz]
    intro hm
    rcases List.mem_cons.mp hm with e | hm
    · exact absurd e (Nat.succ_ne_self _)
    · rcases List.mem_cons.mp hm with e | hm
      · exact Nat.lt_irrefl _ (Nat.lt_trans (Nat.lt_succ_self _) (e ▸ hlt))
      · cases hm
  refine wpAny_pure ⟨plainId_quiet F.plain_min_loop _, min_firstT (h₀ := s.heap) W bt hcmp (fun b o e hm => ?_) (s.heap.push o).objs.size hSf (fun b o e he => ?_) hne ⟨?_, hl2.push _⟩ (fun b o e => Heap.get?_push_of_some _ (Heap.get?_push_of_some _ e)) (Heap.get?_push_size _ rfl) fun v h' tk hP hk => ?_⟩
  · rcases List.mem_cons.mp hm with e2 | hm
    · exact Nat.lt_irrefl _ (e2 ▸ lts b o e)
    · cases hm
  · have := lts b o e
    rw [he, hz] at this
    exact Nat.lt_irrefl _ (Nat.lt_trans (Nat.lt_succ_self _) this)
  · exact hit.at fun u e => Heap.get?_push_of_some _ e
  · refine h v h' tk hP fun b o e => hk b o (fun hm => ?_) (fun he => ?_) (Heap.get?_push_of_some _ (Heap.get?_push_of_some _ e))
    · rcases List.mem_cons.mp hm with e2 | hm
      · exact Nat.lt_irrefl _ (e2 ▸ lts b o e)
      · cases hm
    · have := lts b o e
      rw [he, hz] at this
      exact Nat.lt_irrefl _ (Nat.lt_trans (Nat.lt_succ_self _) this)
end
end VK
end

section
set_option Elab.async false
set_option linter.all false
set_option maxRecDepth 100000
set_option maxHeartbeats 4000000
namespace VK
open PySem L2
/-! ### the greedy row is the least of the longest -/
theorem T_mono1s (one two : List Str) (j : Nat) : ∀ (d i : Nat), T one two (i + d) j ≤ T one two i j
  | 0, i => Nat.le_refl _
  | d + 1, i => by
    have h1 := T_mono1 one two (i + d) j
    have h2 := T_mono1s one two j d i
    have e : i + (d + 1) = i + d + 1 := by omega
    rw [e]; omega
theorem T_mono {one two : List Str} {i j a b : Nat} (h1 : i ≤ a) (h2 : j ≤ b) : T one two a b ≤ T one two i j := by
  have e1 := T_mono1s one two b (a - i) i
  have e2 := T_mono2s one two i (b - j) j
  have e3 : i + (a - i) = a := by omega
  have e4 : j + (b - j) = b := by omega
  rw [e3] at e1
  rw [e4] at e2
  omega
theorem T_at {one two : List Str} {a b : Nat} (h1 : a < one.length) (h : one[a]? = two[b]?) : T one two a b = T one two (a + 1) (b + 1) + 1 := by
  have n1 : one[a]? = some one[a] := List.getElem?_eq_getElem h1
  exact T_eq n1 (by rw [← h, n1])
theorem row_le {one two : List Str} : ∀ {r : List (Nat × Nat)} {i j : Nat}, Row one two i j r → r.length ≤ T one two i j
  | [], _, _, _ => Nat.zero_le _
  | (a, b) :: r, i, j, ⟨h1, h2, h3, h4, h5, h6⟩ => by
    have := row_le h6
    have e := T_at h3 h5
    have m := T_mono (one := one) (two := two) h1 h2
    simp only [List.length_cons]
    omega
def ltP (p q : Nat × Nat) : Bool := if p.1 = q.1 then decide (p.2 < q.2) else decide (p.1 < q.1)
def ltL : List (Nat × Nat) → List (Nat × Nat) → Bool
  | [], [] => false
  | [], _ :: _ => true
  | _ :: _, [] => false
  | p :: ps, q :: qs => if p = q then ltL ps qs else ltP p q
theorem ltL_refl : ∀ r : List (Nat × Nat), ltL r r = false
  | [] => rfl
  | p :: r => by rw [ltL, if_pos rfl]; exact ltL_refl r
theorem PR_least {one two : List Str} : ∀ (d i j : Nat) (r : List (Nat × Nat)), one.length - i = d → Row one two i j r → r.length = T one two i j → r = PR one two i j ∨ (ltL (PR one two i j) r = true ∧ ltL r (PR one two i j) = false)
  | 0, i, j, r, e, _, hl => by
    left
    rw [T_end1 (by omega)] at hl
    rw [PR_end (by omega)]
    exact List.eq_nil_of_length_eq_zero hl
  | d + 1, i, j, [], e, _, hl => by
    left
    rw [PR_zero hl.symm]
  | d + 1, i, j, (a, b) :: r, e, ⟨h1, h2, h3, h4, h5, h6⟩, hl => by
    have hi : i < one.length := by omega
    have hr := row_le h6
    simp only [List.length_cons] at hl
    have eT := T_at h3 h5
    -- a place at i is a hit
    have hb : a = i → hitP one two i j b = true := fun ea => by
      subst ea
      have m := T_mono (one := one) (two := two) (Nat.le_refl a) h2
      unfold hitP
      rw [decide_eq_true h5, decide_eq_true (show T one two (a + 1) (b + 1) + 1 = T one two a j by omega)]
      rfl
    cases h : hit one two i j with
    | some k =>
      rw [PR_some h]
      obtain ⟨k1, k2, k3, k4, k5, k6⟩ := hit_some h
      by_cases ea : a = i
      · have hb' := hb ea
        subst ea
        rcases Nat.lt_trichotomy b k with z | z | z
        · rw [k6 b h2 z] at hb'; cases hb'
        · subst z
          have el : r.length = T one two (a + 1) (b + 1) := by omega
          rcases PR_least d (a + 1) (b + 1) r (by omega) h6 el with q | q
          · left; rw [q]
          · right
            rw [ltL, if_pos rfl, ltL, if_pos rfl]
            exact q
        · right
          have n1 : ¬ ((a, k) : Nat × Nat) = (a, b) := fun q => by
            have := (Prod.mk.inj q).2
            omega
          have n2 : ¬ ((a, b) : Nat × Nat) = (a, k) := fun q => n1 q.symm
          rw [ltL, if_neg n1, ltL, if_neg n2]
          unfold ltP
          rw [if_pos rfl, if_pos rfl]
          exact ⟨decide_eq_true z, decide_eq_false (by show ¬ b < k; omega)⟩
      · right
        have n1 : ¬ ((i, k) : Nat × Nat) = (a, b) := fun q => ea (Prod.mk.inj q).1.symm
        have n2 : ¬ ((a, b) : Nat × Nat) = (i, k) := fun q => n1 q.symm
        rw [ltL, if_neg n1, ltL, if_neg n2]
        unfold ltP
        have n3 : ¬ i = a := fun q => ea q.symm
        rw [if_neg n3, if_neg ea]
        exact ⟨decide_eq_true (by show i < a; omega), decide_eq_false (by show ¬ a < i; omega)⟩
    | none =>
      rw [PR_none h]
      have ea : a ≠ i := fun q => by
        have hb' := hb q
        refine hit_none h h2 h4 ?_
        unfold hitP at hb'
        simpa using hb'
      exact PR_least d (i + 1) j ((a, b) :: r) (by omega) ⟨by omega, h2, h3, h4, h5, h6⟩ (by rw [T_none h]; simp only [List.length_cons]; omega)
theorem pairs_least {one two : List Str} {r : List (Nat × Nat)} (h : Row one two 0 0 r) (hl : r.length = T one two 0 0) : r = pairs one two ∨ (ltL (pairs one two) r = true ∧ ltL r (pairs one two) = false) :=
  PR_least _ 0 0 r rfl h hl
/-! ### the law's rows -/
/-- where a row may go on -/
def nxt (r : List (Nat × Nat)) : Nat := match r.getLast? with
  | some p => p.2 + 1
  | none => 0
def extB (one two : List Str) (i j : Nat) : Bool := decide (one[i]? = two[j]?)
def ext (one two : List Str) (i : Nat) (r : List (Nat × Nat)) : List (List (Nat × Nat)) :=
  ((List.range' (nxt r) (two.length - nxt r)).filter (extB one two i)).map fun j => r ++ [(i, j)]
def allR (one two : List Str) : Nat → List (List (Nat × Nat))
  | 0 => [[]]
  | i + 1 => allR one two i ++ (allR one two i).flatMap (ext one two i)
/-- a row by pairs -/
def RowV (one two : List Str) (r : List (Nat × Nat)) : Prop := (∀ p ∈ r, p.1 < one.length ∧ p.2 < two.length ∧ one[p.1]? = two[p.2]?) ∧ r.Pairwise fun p q => p.1 < q.1 ∧ p.2 < q.2
theorem row_v {one two : List Str} : ∀ {r : List (Nat × Nat)} {i j : Nat}, Row one two i j r ↔ RowV one two r ∧ ∀ p ∈ r, i ≤ p.1 ∧ j ≤ p.2
  | [], i, j => by
    constructor
    · intro _
      exact ⟨⟨(fun p h => nomatch h), .nil⟩, (fun p h => nomatch h)⟩
    · intro _; trivial
  | (a, b) :: r, i, j => by
    constructor
    · rintro ⟨h1, h2, h3, h4, h5, h6⟩
      obtain ⟨⟨q1, q2⟩, q3⟩ := row_v.mp h6
      refine ⟨⟨fun p hp => ?_, List.pairwise_cons.mpr ⟨fun p hp => ?_, q2⟩⟩, fun p hp => ?_⟩
      · rcases List.mem_cons.mp hp with rfl | hp
        · exact ⟨h3, h4, h5⟩
        · exact q1 p hp
      · have := q3 p hp
        exact ⟨this.1, this.2⟩
      · rcases List.mem_cons.mp hp with rfl | hp
        · exact ⟨h1, h2⟩
        · have := q3 p hp
          exact ⟨by omega, by omega⟩
    · rintro ⟨⟨q1, q2⟩, q3⟩
      obtain ⟨q4, q5⟩ := List.pairwise_cons.mp q2
      obtain ⟨h3, h4, h5⟩ := q1 (a, b) (List.mem_cons_self ..)
      obtain ⟨h1, h2⟩ := q3 (a, b) (List.mem_cons_self ..)
      exact ⟨h1, h2, h3, h4, h5, row_v.mpr ⟨⟨fun p hp => q1 p (List.mem_cons_of_mem _ hp), q5⟩, fun p hp => q4 p hp⟩⟩
theorem row0 {one two : List Str} {r : List (Nat × Nat)} : Row one two 0 0 r ↔ RowV one two r := by
  rw [row_v]
  exact ⟨fun h => h.1, fun h => ⟨h, fun p _ => ⟨Nat.zero_le _, Nat.zero_le _⟩⟩⟩
theorem nxt_snoc (r : List (Nat × Nat)) (p : Nat × Nat) : nxt (r ++ [p]) = p.2 + 1 := by
  unfold nxt
  rw [List.getLast?_concat]
theorem nxt_le {one two : List Str} {r : List (Nat × Nat)} (h : RowV one two r) {b : Nat} : (∀ p ∈ r, p.2 < b) ↔ nxt r ≤ b := by
  rcases List.eq_nil_or_concat r with e | ⟨l, q, e⟩
  · subst e
    exact ⟨fun _ => Nat.zero_le _, fun _ p hp => nomatch hp⟩
  · rw [List.concat_eq_append] at e
    subst e
    rw [nxt_snoc]
    constructor
    · intro hp
      exact hp q (by simp)
    · intro hb p hp
      rcases List.mem_append.mp hp with hp | hp
      · have := (List.pairwise_append.mp h.2).2.2 p hp q (by simp)
        omega
      · rw [List.mem_singleton.mp hp]; omega
theorem mem_ext {one two : List Str} {i : Nat} {r x : List (Nat × Nat)} : x ∈ ext one two i r ↔ ∃ j, nxt r ≤ j ∧ j < two.length ∧ one[i]? = two[j]? ∧ x = r ++ [(i, j)] := by
  unfold ext
  rw [List.mem_map]
  constructor
  · rintro ⟨j, hj, rfl⟩
    obtain ⟨h1, h2⟩ := List.mem_filter.mp hj
    rw [List.mem_range'_1] at h1
    exact ⟨j, h1.1, by omega, of_decide_eq_true h2, rfl⟩
  · rintro ⟨j, h1, h2, h3, rfl⟩
    refine ⟨j, List.mem_filter.mpr ⟨?_, decide_eq_true h3⟩, rfl⟩
    rw [List.mem_range'_1]; omega
/-- the rows are just those that end ahead of i -/
theorem mem_allR {one two : List Str} : ∀ {i : Nat}, i ≤ one.length → ∀ {x : List (Nat × Nat)}, x ∈ allR one two i ↔ RowV one two x ∧ ∀ p ∈ x, p.1 < i
  | 0, _, x => by
    constructor
    · intro h
      have : x = [] := List.mem_singleton.mp h
      subst this
      exact ⟨⟨(fun p h => nomatch h), .nil⟩, (fun p h => nomatch h)⟩
    · rintro ⟨_, h⟩
      cases x with
      | nil => exact List.mem_singleton.mpr rfl
      | cons p x => exact absurd (h p (List.mem_cons_self ..)) (Nat.not_lt_zero _)
  | i + 1, hi, x => by
    have ih := fun {y} => mem_allR (one := one) (two := two) (i := i) (by omega) (x := y)
    show x ∈ allR one two i ++ (allR one two i).flatMap (ext one two i) ↔ _
    rw [List.mem_append, List.mem_flatMap]
    constructor
    · rintro (h | ⟨r, hr, h⟩)
      · obtain ⟨q1, q2⟩ := ih.mp h
        exact ⟨q1, fun p hp => Nat.lt_succ_of_lt (q2 p hp)⟩
      · obtain ⟨q1, q2⟩ := ih.mp hr
        obtain ⟨j, h1, h2, h3, rfl⟩ := mem_ext.mp h
        have q3 := (nxt_le q1).mpr h1
        refine ⟨⟨fun p hp => ?_, List.pairwise_append.mpr ⟨q1.2, List.pairwise_singleton _ _, fun p hp q hq => ?_⟩⟩, fun p hp => ?_⟩
        · rcases List.mem_append.mp hp with hp | hp
          · exact q1.1 p hp
          · rw [List.mem_singleton.mp hp]; exact ⟨by show i < one.length; omega, h2, h3⟩
        · rw [List.mem_singleton.mp hq]
          exact ⟨q2 p hp, q3 p hp⟩
        · rcases List.mem_append.mp hp with hp | hp
          · exact Nat.lt_succ_of_lt (q2 p hp)
          · rw [List.mem_singleton.mp hp]; exact Nat.lt_succ_self _
    · rintro ⟨q1, q2⟩
      rcases List.eq_nil_or_concat x with e | ⟨l, q, e⟩
      · left
        exact ih.mpr ⟨q1, fun p hp => by rw [e] at hp; cases hp⟩
      · rw [List.concat_eq_append] at e
        subst e
        obtain ⟨w1, _, w3⟩ := List.pairwise_append.mp q1.2
        have w4 : ∀ p ∈ l, p.1 < q.1 ∧ p.2 < q.2 := fun p hp => w3 p hp q (by simp)
        have hq := q2 q (by simp)
        by_cases eq : q.1 = i
        · right
          have v1 : RowV one two l := ⟨fun p hp => q1.1 p (List.mem_append_left _ hp), w1⟩
          obtain ⟨u1, u2, u3⟩ := q1.1 q (by simp)
          refine ⟨l, ih.mpr ⟨v1, fun p hp => by have := (w4 p hp).1; omega⟩, mem_ext.mpr ⟨q.2, (nxt_le v1).mp fun p hp => (w4 p hp).2, u2, by rw [← eq]; exact u3, ?_⟩⟩
          rw [← eq]
        · left
          refine ih.mpr ⟨q1, fun p hp => ?_⟩
          rcases List.mem_append.mp hp with hp | hp
          · have := (w4 p hp).1; omega
          · rw [List.mem_singleton.mp hp]; omega
theorem allR_row {one two : List Str} {x : List (Nat × Nat)} (h : x ∈ allR one two one.length) : Row one two 0 0 x := row0.mpr ((mem_allR (Nat.le_refl _)).mp h).1
theorem pairs_in (one two : List Str) : pairs one two ∈ allR one two one.length :=
  (mem_allR (Nat.le_refl _)).mpr ⟨row0.mp (pairs_row one two), fun p hp => ((row0.mp (pairs_row one two)).1 p hp).1⟩
theorem ext_len (one two : List Str) (i : Nat) (r : List (Nat × Nat)) : (ext one two i r).length ≤ two.length := by
  unfold ext
  rw [List.length_map]
  refine Nat.le_trans (List.length_filter_le _ _) ?_
  rw [List.length_range']; omega
theorem flat_len (one two : List Str) (i : Nat) : ∀ l : List (List (Nat × Nat)), (l.flatMap (ext one two i)).length ≤ l.length * two.length
  | [] => by simp
  | r :: l => by
    have h1 := flat_len one two i l
    have h2 := ext_len one two i r
    rw [List.flatMap_cons, List.length_append, List.length_cons, Nat.succ_mul]
    omega
theorem allR_len (one two : List Str) : ∀ i, (allR one two i).length ≤ (two.length + 1) ^ i
  | 0 => Nat.le_refl _
  | i + 1 => by
    have h1 := allR_len one two i
    have h2 := flat_len one two i (allR one two i)
    show (allR one two i ++ (allR one two i).flatMap (ext one two i)).length ≤ _
    rw [List.length_append, Nat.pow_succ, Nat.mul_succ]
    have h3 := Nat.mul_le_mul_right two.length h1
    omega
end VK
end

section
set_option Elab.async false
set_option linter.all false
set_option pp.maxSteps 1500
set_option maxRecDepth 100000
set_option maxHeartbeats 4000000
namespace VK
open PySem PySem.Spec PyProof.Rows L2
theorem readsAll_at {h : Heap} : ∀ {vs : List Value} {ds : List PyData} {as : List Addr} {j : Nat} {v : Value}, ReadsAll h vs ds as → vs[j]? = some v → ∃ d as', ds[j]? = some d ∧ Reads h v d as'
  | _, _, _, j, v, .nil, e => by simp at e
  | _, _, _, 0, v, .cons a _, e => by
    simp at e
    subst e
    exact ⟨_, _, rfl, a⟩
  | _, _, _, j + 1, v, .cons _ b, e => by
    obtain ⟨d, as', h1, h2⟩ := readsAll_at (j := j) b (by simpa using e)
    exact ⟨d, as', by simpa using h1, h2⟩
theorem reads_tup {h : Heap} {u : Value} {ds : List PyData} {as : List Addr} (r : Reads h u (.tuple ds) as) : ∃ a vs, u = .ref a ∧ h.IsTuple a vs ∧ ReadsAll h vs.toList ds as := by
  cases r with
  | tuple h1 h2 h3 h4 => exact ⟨_, _, rfl, ⟨_, h1, h2, _, h3⟩, h4⟩
theorem reads_pair {h : Heap} {u : Value} {p : Nat × Nat} {as : List Addr} (r : Reads h u (pairD p) as) : ∃ a t1 t2, u = .ref a ∧ h.IsTuple a #[.int (p.1 : Int) t1, .int (p.2 : Int) t2] := by
  obtain ⟨a, vs, rfl, ht, hr⟩ := reads_tup r
  generalize hvs : vs.toList = l at hr
  cases hr with
  | cons r1 hr =>
    cases r1
    cases hr with
    | cons r2 hr =>
      cases r2
      cases hr
      rename_i t1 t2
      have : vs = #[.int (p.1 : Int) t1, .int (p.2 : Int) t2] := by
        apply Array.toList_inj.mp
        rw [hvs]
      subst this
      exact ⟨a, _, _, rfl, ht⟩
theorem eqv_pair (p q : Nat × Nat) : PyData.eqv (pairD p) (pairD q) = decide (p = q) := by
  show ((p.1 : Int) == (q.1 : Int) && ((p.2 : Int) == (q.2 : Int) && true)) = _
  rw [Bool.and_true]
  by_cases h : p = q
  · subst h; simp
  · rw [decide_eq_false h]
    rw [Bool.and_eq_false_iff]
    by_cases h1 : p.1 = q.1
    · right
      rw [beq_eq_false_iff_ne]
      intro z
      exact h (Prod.ext h1 (by omega))
    · left
      rw [beq_eq_false_iff_ne]
      omega
section
variable {A : Around} {s : Shared}
theorem rc_pair {u v : Value} {p q : Nat × Nat} {as bs : List Addr} (r1 : Reads s.heap u (pairD p) as) (r2 : Reads s.heap v (pairD q) bs) (hu : A.units < cLine) : Ob.RcOp .Lt A s u v (ltP p q) := by
  obtain ⟨a, t1, t2, rfl, ha⟩ := reads_pair r1
  obtain ⟨b, t3, t4, rfl, hb⟩ := reads_pair r2
  have R := Ob.RcOp.tuples_lt (A := A) (s := s) (e := fun j => if j = 0 then ((p.1 : Int) == (q.1 : Int)) else ((p.2 : Int) == (q.2 : Int))) (r := fun j => if j = 0 then decide ((p.1 : Int) < (q.1 : Int)) else decide ((p.2 : Int) < (q.2 : Int))) ha hb hu
    (fun j h1 h2 => by
      match j, h1, h2 with
      | 0, _, _ => exact SeqAt.EqAt.int_int _ _ _ _
      | 1, _, _ => exact SeqAt.EqAt.int_int _ _ _ _
      | n + 2, h, _ => exact absurd h (by simp))
    (fun j h1 h2 _ => by
      match j, h1, h2 with
      | 0, _, _ => exact Ob.RcOp.lt_int _ _ _ _
      | 1, _, _ => exact Ob.RcOp.lt_int _ _ _ _
      | n + 2, h, _ => exact absurd h (by simp))
  have e : Ob.lexAt (fun j => if j = 0 then ((p.1 : Int) == (q.1 : Int)) else ((p.2 : Int) == (q.2 : Int))) (fun j => if j = 0 then decide ((p.1 : Int) < (q.1 : Int)) else decide ((p.2 : Int) < (q.2 : Int))) (decide (2 < 2)) 0 2 = ltP p q := by
    rw [Ob.lexAt_succ, Ob.lexAt_succ, Ob.lexAt_zero]
    unfold ltP
    simp only [if_pos, if_true]
    by_cases h1 : p.1 = q.1
    · rw [if_pos (by rw [h1]; simp), if_pos h1]
      by_cases h2 : p.2 = q.2
      · rw [if_pos (by rw [h2]; simp), h2]; simp
      · rw [if_neg (by simp; omega)]
        simp
    · rw [if_neg (by simp; omega), if_neg h1]
      simp
  rw [← e]
  exact R
theorem lex_ltL (ps qs : List (Nat × Nat)) : ∀ (k i : Nat), min ps.length qs.length - i = k → i ≤ min ps.length qs.length →
    Ob.lexAt (fun j => decide (ps.getD j (0, 0) = qs.getD j (0, 0))) (fun j => ltP (ps.getD j (0, 0)) (qs.getD j (0, 0))) (decide (ps.length < qs.length)) i k = ltL (ps.drop i) (qs.drop i)
  | 0, i, hk, hi => by
    rw [Ob.lexAt_zero]
    rcases Nat.lt_or_ge ps.length qs.length with h | h
    · have e1 : ps.drop i = [] := List.drop_eq_nil_of_le (by omega)
      have h2 : i < qs.length := by omega
      rw [e1, List.drop_eq_getElem_cons h2, decide_eq_true h]; rfl
    · have e1 : qs.drop i = [] := List.drop_eq_nil_of_le (by omega)
      rw [e1, decide_eq_false (by omega)]
      cases ps.drop i <;> rfl
  | k + 1, i, hk, hi => by
    have h1 : i < ps.length := by omega
    have h2 : i < qs.length := by omega
    rw [Ob.lexAt_succ, lex_ltL ps qs k (i + 1) (by omega) (by omega), List.drop_eq_getElem_cons h1, List.drop_eq_getElem_cons h2, ltL]
    have g1 : ps.getD i (0, 0) = ps[i] := by rw [List.getD_eq_getElem?_getD, List.getElem?_eq_getElem h1]; rfl
    have g2 : qs.getD i (0, 0) = qs[i] := by rw [List.getD_eq_getElem?_getD, List.getElem?_eq_getElem h2]; rfl
    rw [g1, g2]
    by_cases h : ps[i] = qs[i]
    · rw [if_pos (decide_eq_true h), if_pos h]
    · rw [if_neg (by rw [decide_eq_false h]; exact Bool.false_ne_true), if_neg h]
theorem rc_rows {u v : Value} {ps qs : List (Nat × Nat)} {as bs : List Addr} (r1 : Reads s.heap u (pairsD ps) as) (r2 : Reads s.heap v (pairsD qs) bs) (hu : A.units + 10 < cLine) : Ob.RcOp .Lt A s u v (ltL ps qs) := by
  obtain ⟨a, vs, rfl, ha, h1⟩ := reads_tup r1
  obtain ⟨b, ws, rfl, hb, h2⟩ := reads_tup r2
  have l1 : vs.size = ps.length := by
    have := SeqAt.ReadsAll.length _ _ _ h1
    rw [List.length_map, Array.length_toList] at this
    exact this
  have l2 : ws.size = qs.length := by
    have := SeqAt.ReadsAll.length _ _ _ h2
    rw [List.length_map, Array.length_toList] at this
    exact this
  have at1 : ∀ j (h : j < vs.size), ∃ as', Reads s.heap vs[j] (pairD (ps.getD j (0, 0))) as' := fun j h => by
    obtain ⟨d, as', e, r⟩ := readsAll_at (j := j) (v := vs[j]) h1 (by rw [Array.getElem?_toList]; exact Array.getElem?_eq_getElem h)
    rw [List.getElem?_map, List.getElem?_eq_getElem (by omega)] at e
    cases e
    refine ⟨as', ?_⟩
    rw [List.getD_eq_getElem?_getD, List.getElem?_eq_getElem (by omega)]
    exact r
  have at2 : ∀ j (h : j < ws.size), ∃ as', Reads s.heap ws[j] (pairD (qs.getD j (0, 0))) as' := fun j h => by
    obtain ⟨d, as', e, r⟩ := readsAll_at (j := j) (v := ws[j]) h2 (by rw [Array.getElem?_toList]; exact Array.getElem?_eq_getElem h)
    rw [List.getElem?_map, List.getElem?_eq_getElem (by omega)] at e
    cases e
    refine ⟨as', ?_⟩
    rw [List.getD_eq_getElem?_getD, List.getElem?_eq_getElem (by omega)]
    exact r
  have R := Ob.RcOp.tuples_lt (A := A) (s := s) (e := fun j => decide (ps.getD j (0, 0) = qs.getD j (0, 0))) (r := fun j => ltP (ps.getD j (0, 0)) (qs.getD j (0, 0))) ha hb (by omega)
    (fun j g1 g2 => by
      obtain ⟨_, q1⟩ := at1 j g1
      obtain ⟨_, q2⟩ := at2 j g2
      have := SeqAt.eqAt_reads _ _ A.in1 s _ _ _ _ q1 q2 rfl rfl (by
        show A.units + 1 + min (PyData.depth (pairD _)) (PyData.depth (pairD _)) < cLine
        have e1 : ∀ p : Nat × Nat, PyData.depth (pairD p) ≤ 5 := fun p => by
          have : PyData.depth (pairD p) = PyData.depth (pairD (0, 0)) := rfl
          rw [this]; decide
        have := e1 (ps.getD j (0, 0))
        omega)
      rw [eqv_pair] at this
      exact this)
    (fun j g1 g2 _ => by
      obtain ⟨_, q1⟩ := at1 j g1
      obtain ⟨_, q2⟩ := at2 j g2
      exact rc_pair q1 q2 (by show A.units + 1 < cLine; omega))
  rw [l1, l2, lex_ltL ps qs (min ps.length qs.length) 0 (Nat.sub_zero _) (Nat.zero_le _)] at R
  exact R
end
theorem argBest_le (bt : Nat → Nat → Bool) : ∀ k, argBest bt k ≤ k
  | 0 => Nat.le_refl _
  | k + 1 => by
    have := argBest_le bt k
    rw [argBest]
    split <;> omega
theorem argBest_row {rows : List (List (Nat × Nat))} {best : List (Nat × Nat)} (h : ∀ r ∈ rows, r = best ∨ (ltL best r = true ∧ ltL r best = false)) : ∀ (k j : Nat), j ≤ k → k < rows.length → rows[j]? = some best →
    rows[argBest (fun i j => ltL (rows.getD i []) (rows.getD j [])) k]? = some best
  | 0, j, hj, hk, e => by
    have : j = 0 := by omega
    subst this
    exact e
  | k + 1, j, hj, hk, e => by
    rw [argBest]
    have gd : ∀ (i : Nat) r, rows[i]? = some r → rows.getD i [] = r := fun i r q => by rw [List.getD_eq_getElem?_getD, q]; rfl
    have hk1 : rows[k + 1]? = some rows[k + 1] := List.getElem?_eq_getElem hk
    have hm : rows[k + 1] ∈ rows := List.getElem_mem hk
    by_cases hjk : j ≤ k
    · have ih := argBest_row h k j hjk (by omega) e
      rw [gd _ _ ih, gd _ _ hk1]
      rcases h _ hm with q | ⟨q1, q2⟩
      · rw [q, ltL_refl, if_neg Bool.false_ne_true]; exact ih
      · rw [q2, if_neg Bool.false_ne_true]; exact ih
    · have ej : j = k + 1 := by omega
      subst ej
      have la := argBest_le (fun i j => ltL (rows.getD i []) (rows.getD j [])) k
      obtain ⟨r, hr⟩ : ∃ r, rows[argBest (fun i j => ltL (rows.getD i []) (rows.getD j [])) k]? = some r := ⟨_, List.getElem?_eq_getElem (by omega)⟩
      rw [gd _ _ e, gd _ _ hr]
      rcases h r (List.mem_of_getElem? hr) with q | ⟨q1, q2⟩
      · subst q
        rw [ltL_refl, if_neg Bool.false_ne_true]; exact hr
      · rw [q1, if_pos rfl]; exact e
/-- min of a list of rows -/
def rMinR (K : PySem.W.Frag) : List V → Hp → VK → Prop := fun vs H Q => ∃ (a : Addr) (xs : List V) (rows : List (List (Nat × Nat))) (best : List (Nat × Nat)), vs = [.ref a] ∧ SqL K H a xs ∧ DpAll K H xs (rows.map pairsD) ∧ best ∈ rows ∧
  (∀ r ∈ rows, r = best ∨ (ltL best r = true ∧ ltL r best = false)) ∧ ∀ v, Dp K H v (pairsD best) → Q v H
theorem cr_minR {X : Cx} (hc : X.calm = true) (hu : X.A.units + 20 < cLine) : CallR X (.builtin "min") (rMinR X.K) := by
  intro pins s σ H vs us Q I r h
  obtain ⟨a, xs, rows, best, rfl, hs, hd, hb, hall, q⟩ := h
  obtain ⟨its, rv, hl, _⟩ := I.list hs
  rw [Vals.ref1 r]
  obtain ⟨as, hR⟩ := Dp.readsAll I _ _ _ hd rv
  have ln : its.length = rows.length := by
    rw [← rv.length, dpAll_len hd, List.length_map]
  obtain ⟨j, hj⟩ := List.getElem?_of_mem hb
  have hjl : j < rows.length := (List.getElem?_eq_some_iff.mp hj).1
  refine min_list (I.ok.hd hc) hl.isList (by rw [List.size_toArray]; omega) (fun i j => ltL (rows.getD i []) (rows.getD j [])) (fun i j vi vj s' Q' E' hk hi hj hQ => ?_) fun v h' tk hv hk => ?_
  · have hi' : its[i]? = some vi := by simpa using hi
    have hj' : its[j]? = some vj := by simpa using hj
    obtain ⟨d1, as1, e1, r1⟩ := readsAll_at hR hi'
    obtain ⟨d2, as2, e2, r2⟩ := readsAll_at hR hj'
    rw [List.getElem?_map] at e1 e2
    obtain ⟨p1, g1, rfl⟩ := Option.map_eq_some_iff.mp e1
    obtain ⟨p2, g2, rfl⟩ := Option.map_eq_some_iff.mp e2
    have R := rc_rows (A := X.A.in1) (s := s') (PyProof.Rows.Reads.keeps hk r1) (PyProof.Rows.Reads.keeps hk r2) (by show X.A.units + 1 + 10 < cLine; omega)
    refine R _ _ _ _ ?_
    have z1 : rows.getD i [] = p1 := by rw [List.getD_eq_getElem?_getD, g1]; rfl
    have z2 : rows.getD j [] = p2 := by rw [List.getD_eq_getElem?_getD, g2]; rfl
    dsimp only at hQ
    rw [z1, z2] at hQ
    exact hQ
  · rw [List.size_toArray] at hv
    have hv' : its[argBest (fun i j => ltL (rows.getD i []) (rows.getD j [])) (its.length - 1)]? = some v := by simpa using hv
    have hbst := argBest_row hall (its.length - 1) j (by omega) (by omega) hj
    obtain ⟨v', e1, e2⟩ := dpAll_at hd (k := argBest (fun i j => ltL (rows.getD i []) (rows.getD j [])) (its.length - 1)) (d := pairsD best) (by rw [List.getElem?_map, hbst]; rfl)
    obtain ⟨u, hu', ru⟩ := rv.get e1
    rw [hv'] at hu'
    cases hu'
    exact ⟨v', H, I.kept hk, ru, q v' e2⟩
end VK
end

section
set_option Elab.async false
set_option linter.all false
set_option pp.maxSteps 1500
set_option maxRecDepth 100000
set_option maxHeartbeats 4000000
namespace VK
open PySem L2
abbrev s__law_best : Stmt := topS 22
theorem sc__law_best : FnScope ["one", "two", "rows", "i", "more", "row", "last", "most", "j"] ["one", "two"] (defScope s__law_best) := ⟨rfl, rfl, rfl, by decide +kernel, rfl, by decide +kernel, by decide +kernel⟩
def spBest (K : PySem.W.Frag) : Sp := fun vs H Q _ => ∃ (a b : Addr) (one two : List Str), vs = [.ref a, .ref b] ∧ SqT K H a (one.map V.str) ∧ SqT K H b (two.map V.str) ∧ one.length ≤ 6 ∧ two.length ≤ 6 ∧
  ∀ (H' : Hp) (v : V), Same H H' → Dp K H' v (pairsD (pairs one two)) → Q v H'
abbrev rowsD (rs : List (List (Nat × Nat))) : List PyData := rs.map pairsD
theorem rows_keep {K : PySem.W.Frag} {H H' : Hp} (t : TK K H H') {vs : List V} {rs : List (List (Nat × Nat))} (h : DpAll K H vs (rs.map pairsD)) : DpAll K H' vs (rs.map pairsD) :=
  dpAll_keep t _ _ (immAll_map _ imm_pairs rs) h
theorem pow_le {m i : Nat} (hm : m ≤ 6) (hi : i ≤ 6) : (m + 1) ^ i ≤ 117649 :=
  Nat.le_trans (Nat.pow_le_pow_left (show m + 1 ≤ 7 by omega) i) (Nat.le_trans (Nat.pow_le_pow_right (by decide) hi) (by decide))
theorem op_catAQ {X : Cx} {K : PySem.W.Frag} (h : X.K = K) : OpR X (binaryOp .Add) (rCatA K) := by
  subst h
  exact op_catA
section
variable {P : Program} {w : World} {K : PySem.W.Frag} {mg : Str → Option Value} {base : Heap}
theorem ok_best {f : Addr} {fd : FuncData} (F : Fun K "_law_best" "_law_best" s__law_best f fd) (T0 : Txt0 mg) : FnOk P w K mg base CX0 2 f fd ["one", "two"] (spBest K) := by
  refine F.ok sc__law_best (fun vs H Q E h => ?_) (fun cdv A outer s H vs Q E hr h => ?_)
  · obtain ⟨a, b, one, two, rfl, _⟩ := h
    rfl
  · obtain ⟨a, b, one, two, rfl, hA, hB, ha, hb, k⟩ := h
    have hu := Nat.lt_of_le_of_lt (Nat.add_le_add (Nat.le_add_right _ _) (by decide : 20 ≤ 200)) hr.un
    refine ⟨_, (pss_cons (ps_set (i := 2) sc__law_best.nd rfl (Or.inl rfl) (pe_lst (pa_cons (pe_tup pa_nil) pa_nil)))
      (pss_cons (ps_for PassesOwn.never rfl (pi_range1 (by rfl) T0.z_range (pa_cons (pe_callB call_len_seq (by rfl) T0.z_len PySem.boot_len (pa_cons (pv 0) pa_nil)) pa_nil)) (pg_name (i := 3) sc__law_best.nd rfl (Or.inr rfl))
        (pss_cons (ps_set (i := 4) sc__law_best.nd rfl (Or.inl rfl) (pe_lst pa_nil))
        (pss_cons (ps_for PassesOwn.never rfl (pi_list (pv 2)) (pg_name (i := 5) sc__law_best.nd rfl (Or.inr rfl))
          (pss_cons (ps_set (i := 6) sc__law_best.nd rfl (Or.inl rfl) (pe_ifExp (pt_cmpR op_gt (pe_callB call_len_seq (by rfl) T0.z_len PySem.boot_len (pa_cons (pv 5) pa_nil)) pe_int (nomark _)) (pe_ix ix_tup (pe_ix ix_tup (pv 5) (pe_un un_neg pe_int) (fun _ _ => rfl)) pe_int (fun _ _ => rfl)) (pe_op op_sub pe_int pe_int)))
          (pss_one (ps_set (i := 4) sc__law_best.nd rfl (Or.inl rfl) (pe_op op_cat (pv 4) (pe_lc (own := [("j", 8)]) (g := gName 8) (tt := _) rfl sc__law_best.nd (pi_range2 (by rfl) T0.z_range (pa_cons (pe_op op_add (pv 6) pe_int) (pa_cons (pe_callB call_len_seq (by rfl) T0.z_len PySem.boot_len (pa_cons (pv 1) pa_nil)) pa_nil))) (blkOk_by (own := [("j", 8)]) (N := ["one", "two", "rows", "i", "more", "row", "last", "most", "j"]) (sc := defScope s__law_best) (by decide +kernel)) (fun _ _ _ _ _ => (pg_name (i := 8) sc__law_best.nd rfl (Or.inl rfl))) (fun _ _ _ _ _ => (pts_one (pt_cmpR op_eq (pe_ix (ix_tupQ (K := K) rfl) (pv 0) (pv 3) (fun _ _ => rfl)) (pe_ix (ix_tupQ (K := K) rfl) (pv 1) (pv 8) (fun _ _ => rfl)) (nomark _)))) (fun _ _ _ _ _ => (pe_op (op_catAQ (K := K) rfl) (pv 5) (pe_tup (pa_cons (pe_tup (pa_cons (pv 3) (pa_cons (pv 8) pa_nil))) pa_nil))))))))))
        (pss_one (ps_set (i := 2) sc__law_best.nd rfl (Or.inl rfl) (pe_op op_cat (pv 2) (pv 4)))))))
      (pss_cons (ps_set (i := 7) sc__law_best.nd rfl (Or.inr rfl) (pe_callB (cr_max rfl) (by rfl) T0.z_max (by decide +kernel) (pa_cons (pe_lc (own := [("row", 5)]) (g := gName 5) (tt := tYes) rfl sc__law_best.nd (pi_list (pv 2)) (blkOk_by (own := [("row", 5)]) (N := ["one", "two", "rows", "i", "more", "row", "last", "most", "j"]) (sc := defScope s__law_best) (by decide +kernel)) (fun _ _ _ _ _ => (pg_name (i := 5) sc__law_best.nd rfl (Or.inl rfl))) (fun _ _ _ _ _ => pts_nil) (fun _ _ _ _ _ => (pe_callB (call_lenQ (K := K) rfl) (by rfl) T0.z_len PySem.boot_len (pa_cons (pv 5) pa_nil)))) pa_nil)))
      (pss_one (ps_ret (pe_callB (cr_minR rfl hu) (by rfl) T0.z_min (by decide +kernel) (pa_cons (pe_lc (own := [("row", 5)]) (g := gName 5) (tt := _) rfl sc__law_best.nd (pi_list (pv 2)) (blkOk_by (own := [("row", 5)]) (N := ["one", "two", "rows", "i", "more", "row", "last", "most", "j"]) (sc := defScope s__law_best) (by decide +kernel)) (fun _ _ _ _ _ => (pg_name (i := 5) sc__law_best.nd rfl (Or.inl rfl))) (fun _ _ _ _ _ => (pts_one (pt_cmpR op_eq (pe_callB (call_lenQ (K := K) rfl) (by rfl) T0.z_len PySem.boot_len (pa_cons (pv 5) pa_nil)) (pv 7) (nomark _)))) (fun _ _ _ _ _ => (pv 5))) pa_nil))))))), ?_⟩
    refine ⟨by show 0 ≤ sizeLine; decide, fun p0 hp0 => ⟨by show 1 ≤ sizeLine; decide, fun r0 hr0 => ?_⟩⟩
    have s0 := (same_new (o := .tup []) hp0).trans (same_new (o := .lst [.ref p0]) hr0)
    refine ⟨_, rfl, a, _, rfl, .inr (s0.seqT hA), _, rfl, by omega, by simp only [List.length_map]; omega, ?_⟩
    have en : (((one.map V.str).length : Nat) : Int).toNat = one.length := by rw [List.length_map]; rfl
    rw [en]
    refine for_it walk_range (fun i σ H' => ∃ (ra : Addr) (vs : List V) (x3 x4 x5 x6 : Option V), σ = [some (.ref a), some (.ref b), some (.ref ra), x3, x4, x5, x6, none, none] ∧ Same H H' ∧ H' ra = some (.lst vs) ∧ DpAll K H' vs ((allR one two i).map pairsD)) ?_ (fun _ _ _ _ _ => trivial) ?_ ?_
    · refine ⟨r0, [.ref p0], none, none, none, none, rfl, s0, upd_same, dpAll_one (.tup (xs := []) (.inl (.inl ?_)) .nil)⟩
      rw [upd_ne (fun e => by rw [e] at hr0; rw [upd_same] at hr0; cases hr0), upd_same]
    · rintro i x σ H1o H1 hi ⟨ra, vs, x3, x4, x5, x6, rfl, s1, hra, hd⟩ ⟨rfl, hx⟩
      have ei : (0 : Int) + (i : Nat) = ((i : Nat) : Int) := by omega
      obtain rfl : x = V.int (i : Int) := hx.trans (congrArg V.int ei)
      have n1 : one[i]? = some one[i] := List.getElem?_eq_getElem hi
      have m1 : (one.map V.str)[i]? = some (V.str one[i]) := by rw [List.getElem?_map, n1]; rfl
      have lv : vs.length = (allR one two i).length := by rw [dpAll_len hd, List.length_map]
      have lr : (allR one two i).length ≤ 117649 := Nat.le_trans (allR_len one two i) (pow_le hb (by omega))
      refine ⟨by show 0 ≤ sizeLine; decide, fun m0 hm0 => ?_⟩
      have sm0 := same_new (o := .lst []) hm0
      refine ⟨_, rfl, ra, rfl, ⟨_, SqL.of (sm0 _ _ hra)⟩, ?_⟩
      refine for_it (walk_list (xs := vs)) (fun c σ H' => ∃ (ma : Addr) (ws : List V) (x5 x6 : Option V), σ = [some (.ref a), some (.ref b), some (.ref ra), some (.int (i : Int)), some (.ref ma), x5, x6, none, none] ∧ Same H1 H' ∧ H' ma = some (.lst ws) ∧
          DpAll K H' ws ((((allR one two i).take c).flatMap (ext one two i)).map pairsD)) ?_ (fun c σ H' _ h => ?_) ?_ ?_
      · exact ⟨m0, [], x5, x6, rfl, sm0, upd_same, .nil⟩
      · obtain ⟨ma, ws, x5, x6, rfl, h1, _⟩ := h
        exact SqL.of (h1 _ _ hra)
      · rintro c x σ H2o H2 hc ⟨ma, ws, x5', x6', rfl, s2, hma, hdw⟩ ⟨rfl, hx⟩
        have hcr : c < (allR one two i).length := by omega
        obtain ⟨r, hr'⟩ : ∃ r, r = (allR one two i)[c] := ⟨_, rfl⟩
        have hrc : (allR one two i)[c]? = some r := by rw [List.getElem?_eq_getElem hcr, hr']
        obtain ⟨v, hv1, hv2⟩ := dpAll_at (rows_keep (TK.same s2) hd) (k := c) (d := pairsD r) (by rw [List.getElem?_map, hrc]; rfl)
        obtain rfl : v = x := Option.some.inj (hv1.symm.trans hx)
        obtain ⟨q, us, rfl, hq, hdu⟩ := of_tupD hv2
        have lu : us.length = r.length := by rw [dpAll_len hdu, List.length_map]
        refine cut (fun σ' H' => σ' = [some (.ref a), some (.ref b), some (.ref ra), some (.int (i : Int)), some (.ref ma), some (.ref q), some (.int ((nxt r : Int) - 1)), none, none] ∧ H' = H2) (fun nx hn => ?_) ?_
        · refine ⟨_, rfl, q, _, rfl, .inr hq, _, _, rfl, rfl, _, rfl, ?_⟩
          rcases List.eq_nil_or_concat r with e0 | ⟨r1, p, e0⟩
          · have us0 : us = [] := List.eq_nil_of_length_eq_zero (by rw [lu, e0]; rfl)
            subst us0
            refine ite2 (fun e => ?_) (fun _ => ?_)
            · cases e
            · refine ⟨_, _, rfl, rfl, hn _ _ ⟨?_, rfl⟩⟩
              rw [e0]; rfl
          · rw [List.concat_eq_append] at e0
            rw [e0, List.map_append] at hdu
            obtain ⟨us0, u, eu, hdu0, hdu1⟩ := dpAll_split hdu
            subst eu
            obtain ⟨z, rfl, hz⟩ := of_pair hdu1
            refine ite2 (fun _ => ?_) (fun e => absurd (decide_eq_true (show (0 : Int) < (((us0 ++ [V.ref z]).length : Nat) : Int) by simp)) e)
            refine ⟨_, rfl, _, rfl, q, _, _, _, rfl, rfl, hq, atI_last _ _, z, _, _, _, rfl, rfl, hz, atI_nat (j := 1) rfl, hn _ _ ⟨?_, rfl⟩⟩
            rw [e0, nxt_snoc]
            have : ((p.2 + 1 : Nat) : Int) - 1 = (p.2 : Int) := by omega
            rw [this]; rfl
        · rintro σ3 H3 ⟨rfl, rfl⟩
          have hB2 := (s1.trans s2).seqT hB
          have hA2 := (s1.trans s2).seqT hA
          have nz : ((nxt r : Int) - 1) + 1 = ((nxt r : Nat) : Int) := by omega
          have rv : RowV one two r := ((mem_allR (one := one) (two := two) (Nat.le_of_lt hi)).mp (List.mem_of_getElem? hrc)).1
          have nle : nxt r ≤ two.length := (nxt_le rv).mp fun p hp => (rv.1 p hp).2.1
          refine ⟨_, rfl, _, rfl, _, _, rfl, rfl, _, rfl, b, _, rfl, .inr hB2, _, _, rfl, ⟨?_, ?_, ?_, ?_⟩, fun D hD => ?_⟩
          · omega
          · omega
          · simp only [List.length_map]; omega
          · simp only [List.length_map]; omega
          have en2 : (((two.map V.str).length : Int) - (((nxt r : Int) - 1) + 1)).toNat = two.length - nxt r := by rw [List.length_map]; omega
          dsimp only
          rw [en2, nz]
          have lws : ws.length ≤ 117649 * 6 := by
            have q1 := dpAll_len hdw
            rw [List.length_map] at q1
            have q2 := flat_len one two i ((allR one two i).take c)
            have q3 : ((allR one two i).take c).length ≤ 117649 := Nat.le_trans (List.length_take_le _ _) (by omega)
            have q4 := Nat.mul_le_mul q3 hb
            omega
          refine lc_range (lo := (nxt r : Int)) (n := two.length - nxt r) (fun t H' => ∃ ys, H' D = some (.lst ys) ∧ Same H3 H' ∧ DpAll K H' ys ((((List.range' (nxt r) t).filter (extB one two i)).map fun j => r ++ [(i, j)]).map pairsD)) ⟨[], upd_same, same_new hD, .nil⟩ ?_ ?_
          · rintro t H4 ht ⟨ys, hys, s4, hdy⟩
            refine ⟨rfl, ?_⟩
            obtain ⟨m, hm⟩ : ∃ m : Nat, m = nxt r + t := ⟨_, rfl⟩
            have hm' : ((nxt r : Nat) : Int) + (t : Nat) = (m : Int) := by omega
            rw [hm']
            have hm2 : m < two.length := by omega
            have n2 : two[m]? = some two[m] := List.getElem?_eq_getElem hm2
            have m2 : (two.map V.str)[m]? = some (V.str two[m]) := by rw [List.getElem?_map, n2]; rfl
            refine ⟨_, rfl, _, rfl, a, _, _, _, rfl, rfl, s4.seqT hA2, atI_nat m1, _, rfl, _, rfl, b, _, _, _, rfl, rfl, s4.seqT hB2, atI_nat m2, rfl, _, rfl, ?_⟩
            have r1 : List.range' (nxt r) (t + 1) = List.range' (nxt r) t ++ [m] := by rw [List.range'_1_concat, hm]
            refine ite2 (fun e => ?_) (fun e => ?_)
            · have e' : one[i] = two[m] := V.str.inj (of_decide_eq_true e)
              have hx1 : extB one two i m = true := by unfold extB; rw [n1, n2, e']; simp
              have yes : (List.range' (nxt r) (t + 1)).filter (extB one two i) = (List.range' (nxt r) t).filter (extB one two i) ++ [m] := by
                rw [r1, List.filter_append, List.filter_cons_of_pos hx1]; rfl
              have lr6 : r.length ≤ 6 := by
                have q1 := row_le (row0.mpr rv)
                have q2 : T one two 0 0 ≤ one.length := lcs_le1 _ _
                omega
              refine ⟨_, rfl, _, rfl, _, rfl, by show 2 ≤ sizeLine; decide, fun z hz => ⟨by show 1 ≤ sizeLine; decide, fun y hy => ?_⟩⟩
              have sz := same_new (o := .tup [.int (i : Int), .int (m : Int)]) hz
              have sy := same_new (o := .tup [.ref z]) hy
              refine cat_tupK (xs := us) (ys := [.ref z]) ((s4.trans (sz.trans sy)).seqT hq) (.inl (.inl upd_same)) (Nat.le_trans (show us.length + 1 ≤ 10 by omega) (by decide)) fun H5 p s5 hp => ?_
              have s45 := sz.trans (sy.trans s5)
              have hys5 := s45 _ _ hys
              have lys : ys.length < 20000 := by
                have q1 := dpAll_len hdy
                rw [List.length_map, List.length_map] at q1
                have q2 := List.length_filter_le (extB one two i) (List.range' (nxt r) t)
                rw [List.length_range'] at q2
                omega
              have tk : TK K H4 (upd H5 D (.lst (ys ++ [.ref p]))) := (TK.same s45).trans (TK.lst hys5)
              refine ⟨ys, hys5, Nat.lt_of_lt_of_le lys (by decide), ys ++ [.ref p], upd_same, same_mut (s4.trans s45) hD, ?_⟩
              rw [yes, List.map_append, List.map_append]
              refine dpAll_app (rows_keep tk hdy) (dpAll_one (.tup (xs := us ++ [.ref z]) (TK.lst hys5 _ _ hp) ?_))
              rw [List.map_append]
              refine dpAll_app (pairs_keep (((TK.same s4).trans tk)) hdu) (dpAll_one (dp_pair ?_))
              exact TK.lst hys5 _ _ ((sy.trans s5).seqT (.inl (.inl upd_same)))
            · have hx1 : extB one two i m = false := by
                unfold extB
                exact decide_eq_false fun z => e (decide_eq_true (congrArg V.str (by rw [n1, n2] at z; exact Option.some.inj z)))
              have no : (List.range' (nxt r) (t + 1)).filter (extB one two i) = (List.range' (nxt r) t).filter (extB one two i) := by
                rw [r1, List.filter_append, List.filter_cons_of_neg (by rw [hx1]; exact Bool.false_ne_true)]; simp
              refine ⟨ys, hys, s4, ?_⟩
              rw [no]; exact hdy
          · rintro H4 ⟨ys, hys, s4, hdy⟩
            have lys : ys.length ≤ 20000 := by
              have q1 := dpAll_len hdy
              rw [List.length_map, List.length_map] at q1
              have q2 := List.length_filter_le (extB one two i) (List.range' (nxt r) (two.length - nxt r))
              rw [List.length_range'] at q2
              omega
            have hma4 := s4 _ _ hma
            refine ⟨ma, D, ws, ys, rfl, rfl, hma4, hys, Nat.le_trans (show ws.length + ys.length ≤ 1000000 by omega) (by decide), fun L hL => ?_⟩
            have sL := same_new (o := .lst (ws ++ ys)) hL
            refine ⟨L, ws ++ ys, some (.ref q), some (.int ((nxt r : Int) - 1)), rfl, s2.trans (s4.trans sL), upd_same, ?_⟩
            have et : ((allR one two i).take (c + 1)).flatMap (ext one two i) = ((allR one two i).take c).flatMap (ext one two i) ++ ext one two i r := by
              rw [List.take_succ, hrc, List.flatMap_append]
              simp
            rw [et, List.map_append]
            refine dpAll_app (rows_keep (TK.same (s4.trans sL)) hdw) (rows_keep (TK.same sL) hdy)
      · rintro σ H2 ⟨ma, ws, x5', x6', rfl, s2, hma, hdw⟩
        have lws : ws.length ≤ 117649 * 6 := by
          have q1 := dpAll_len hdw
          rw [List.length_map] at q1
          have q2 := flat_len one two i ((allR one two i).take vs.length)
          have q3 : ((allR one two i).take vs.length).length ≤ 117649 := Nat.le_trans (List.length_take_le _ _) (by omega)
          have q4 := Nat.mul_le_mul q3 hb
          omega
        rw [lv, List.take_length] at hdw
        refine ⟨_, rfl, _, rfl, ra, ma, vs, ws, rfl, rfl, s2 _ _ hra, hma, Nat.le_trans (show vs.length + ws.length ≤ 1000000 by omega) (by decide), fun L hL => ?_⟩
        have sL := same_new (o := .lst (vs ++ ws)) hL
        refine ⟨L, vs ++ ws, some (.int (i : Int)), some (.ref ma), x5', x6', rfl, s1.trans (s2.trans sL), upd_same, ?_⟩
        show DpAll K _ _ (List.map pairsD (allR one two i ++ (allR one two i).flatMap (ext one two i)))
        rw [List.map_append]
        exact dpAll_app (rows_keep (TK.same (s2.trans sL)) hd) (rows_keep (TK.same sL) hdw)
    · rintro σ H1 ⟨ra, vs, x3, x4, x5, x6, rfl, s1, hra, hd⟩
      obtain ⟨rs, ers⟩ : ∃ rs, rs = allR one two one.length := ⟨_, rfl⟩
      rw [← ers] at hd
      have lv : vs.length = rs.length := by rw [dpAll_len hd, List.length_map]
      have lr : rs.length ≤ 117649 := by rw [ers]; exact Nat.le_trans (allR_len one two _) (pow_le hb ha)
      have hin : pairs one two ∈ rs := by rw [ers]; exact pairs_in one two
      have hrow : ∀ r ∈ rs, Row one two 0 0 r := fun r h => allR_row (by rw [← ers]; exact h)
      refine ⟨_, rfl, ra, rfl, ⟨_, SqL.of hra⟩, fun D hD => ?_⟩
      refine lc_list (xs := vs) (fun t H' => Same H1 H' ∧ H' D = some (.lst (((rs.take t).map List.length).map fun n : Nat => V.int (n : Int)))) ⟨same_new hD, upd_same⟩ (fun t H' _ h => SqL.of (h.1 _ _ hra)) ?_ ?_
      · rintro t x H2 hx ⟨s2, hl⟩
        have ht : t < rs.length := by rw [← lv]; exact (List.getElem?_eq_some_iff.mp hx).1
        have hrt : rs[t]? = some rs[t] := List.getElem?_eq_getElem ht
        obtain ⟨v, hv1, hv2⟩ := dpAll_at (rows_keep (TK.same s2) hd) (k := t) (d := pairsD rs[t]) (by rw [List.getElem?_map, hrt]; rfl)
        obtain rfl : v = x := Option.some.inj (hv1.symm.trans hx)
        obtain ⟨q, us, rfl, hq, hdu⟩ := of_tupD hv2
        have lu : us.length = rs[t].length := by rw [dpAll_len hdu, List.length_map]
        refine ⟨rfl, _, rfl, q, us, rfl, .inr hq, _, hl, ?_, same_mut s2 hD, ?_⟩
        · rw [List.length_map, List.length_map, List.length_take]
          exact Nat.lt_of_lt_of_le (show _ < 1000000 by omega) (by decide)
        · rw [upd_same, lu, List.take_succ, hrt, List.map_append, List.map_append]; rfl
      · rintro H2 ⟨s2, hl⟩
        rw [lv, List.take_length] at hl
        have hl2 : H2 D = some (.lst (((rs.map List.length).map fun n : Nat => (n : Int)).map V.int)) := by rw [hl, List.map_map (f := fun n : Nat => (n : Int)) (g := V.int)]; rfl
        refine ⟨D, (rs.map List.length).map fun n : Nat => (n : Int), rfl, SqL.of hl2, ?_, fun m hm hle => ?_⟩
        · rw [List.length_map, List.length_map]
          exact List.length_pos_of_mem hin
        · obtain ⟨n, hn, rfl⟩ := List.mem_map.mp hm
          obtain ⟨r, hr', rfl⟩ := List.mem_map.mp hn
          have en3 : r.length = T one two 0 0 := by
            have q1 := row_le (hrow r hr')
            have q2 := hle ((pairs one two).length : Int) (List.mem_map.mpr ⟨_, List.mem_map.mpr ⟨_, hin, rfl⟩, rfl⟩)
            rw [pairs_len] at q2
            omega
          have hra2 := s2 _ _ hra
          dsimp only [gName]
          refine ⟨_, rfl, ra, rfl, ⟨_, SqL.of hra2⟩, fun D2 hD2 => ?_⟩
          refine lc_list (xs := vs) (fun t H' => ∃ ys, H' D2 = some (.lst ys) ∧ Same H2 H' ∧ DpAll K H' ys (((rs.take t).filter fun x => decide (x.length = r.length)).map pairsD)) ⟨[], upd_same, same_new hD2, .nil⟩ (fun t H' _ h => by obtain ⟨ys, h1, h2, h3⟩ := h; exact SqL.of (h2 _ _ hra2)) ?_ ?_
          · rintro t x H3 hx ⟨ys, hys, s3, hdy⟩
            have ht : t < rs.length := by rw [← lv]; exact (List.getElem?_eq_some_iff.mp hx).1
            have hrt : rs[t]? = some rs[t] := List.getElem?_eq_getElem ht
            obtain ⟨v, hv1, hv2⟩ := dpAll_at (rows_keep (TK.same (s2.trans s3)) hd) (k := t) (d := pairsD rs[t]) (by rw [List.getElem?_map, hrt]; rfl)
            obtain rfl : v = x := Option.some.inj (hv1.symm.trans hx)
            obtain ⟨q, us, rfl, hq, hdu⟩ := of_tupD hv2
            have lu : us.length = rs[t].length := by rw [dpAll_len hdu, List.length_map]
            have etk : rs.take (t + 1) = rs.take t ++ [rs[t]] := by rw [List.take_succ, hrt]; rfl
            refine ⟨rfl, _, rfl, q, us, rfl, .inr hq, _, rfl, rfl, _, rfl, ?_⟩
            refine ite2 (fun e => ?_) (fun e => ?_)
            · have e' : rs[t].length = r.length := by
                have := V.int.inj (of_decide_eq_true e)
                omega
              have lys : ys.length < 1000000 := by
                have q1 := dpAll_len hdy
                rw [List.length_map] at q1
                have q2 := List.length_filter_le (fun x : List (Nat × Nat) => decide (x.length = r.length)) (rs.take t)
                rw [List.length_take] at q2
                omega
              refine ⟨_, rfl, ys, hys, Nat.lt_of_lt_of_le lys (by decide), ys ++ [.ref q], upd_same, same_mut s3 hD2, ?_⟩
              rw [etk, List.filter_append, List.map_append, List.filter_cons_of_pos (p := fun x : List (Nat × Nat) => decide (x.length = r.length)) (decide_eq_true e')]
              refine dpAll_app (rows_keep (TK.lst hys) hdy) (dpAll_one (dp_keep (TK.lst hys) _ _ (imm_pairs _) hv2))
            · have e' : ¬ rs[t].length = r.length := fun z => e (decide_eq_true (congrArg V.int (by rw [lu, z])))
              refine ⟨ys, hys, s3, ?_⟩
              rw [etk, List.filter_append, List.filter_cons_of_neg (p := fun x : List (Nat × Nat) => decide (x.length = r.length)) (by rw [decide_eq_false e']; exact Bool.false_ne_true)]
              simpa using hdy
          · rintro H3 ⟨ys, hys, s3, hdy⟩
            rw [lv, List.take_length] at hdy
            refine ⟨D2, ys, _, pairs one two, rfl, SqL.of hys, hdy, List.mem_filter.mpr ⟨hin, decide_eq_true (by rw [pairs_len, en3])⟩, fun x hx => ?_, fun v hv => ?_⟩
            · obtain ⟨q1, q2⟩ := List.mem_filter.mp hx
              exact pairs_least (hrow x q1) (by rw [of_decide_eq_true q2, en3])
            · exact k _ v (s1.trans (s2.trans s3)) hv
end
end VK
end

section
set_option Elab.async false
set_option linter.all false
set_option pp.maxSteps 1500
set_option maxRecDepth 100000
set_option maxHeartbeats 4000000
/-! while an exception is handled: the end of a tuple's and a range's iterator, unpacking, min(a, b) -/
namespace VK
open PySem PySem.Spec PyProof.Rows L2 HotX
theorem HotAt.keeps {A : Around} {x1 : Addr} {h h' : Heap} (c : HotAt A x1 h) (k : ∀ o, h.get? x1 = some o → h'.get? x1 = some o) : HotAt A x1 h' := by
  obtain ⟨hh, o, vs, e, r⟩ := c
  exact ⟨hh, o, vs, k _ e, r⟩
section
variable {prog : Program} {w : World} {A : Around} {E : Value → Shared → Prop} {s : Shared}
theorem next_tuple_endH {it t x1 : Addr} {i : Nat} {items : Array Value} {Q : Option Value → Shared → Prop} (hot : HotAt A x1 s.heap) (hx1 : x1 ≠ it)
    (hit : IsTupIter s.heap it t i) (ht : IsTup s.heap t items) (hx : items[i]? = none)
    (hQ : ∀ h', Heap.ExtBut it s.heap h' → Q none { s with heap := h' }) : wpAny (model prog w) A (pyNext (.ref it)) Q E s := by
  obtain ⟨o, ho, hc, hd⟩ := id hit
  obtain ⟨ol, hol, _, nl, hdl⟩ := ht
  obtain ⟨hh, o1, vs1, h1, d1, c1⟩ := hot
  unfold pyNext
  refine wpAny_bind (wpAny_attempt (wpAny_callSpecial?_slot (name := Str.ofString "__next__") hit.typeIs slot_tupleiter_next
    (wpAny_call_entry slot_tupleiter_next hit.typeIs entry_tupleiter_next ?_ (args_tupleiter_next _))))
  show wpAny _ _ (field (.ref it) 0 >>= _) _ _ s
  refine wpAny_bind (wpAny_field ho hd (x := .ref t) rfl ?_)
  show wpAny _ _ (if (Value.ref t == Value.none) = true then _ else _) _ _ s
  rw [if_neg (show ¬ ((Value.ref t == Value.none) = true) from Bool.false_ne_true)]
  show wpAny _ _ (field (.ref it) 1 >>= _) _ _ s
  refine wpAny_bind (wpAny_field ho hd (x := .int i 0) rfl ?_)
  show wpAny _ _ (seqItems? (.ref t) >>= _) _ _ s
  refine wpAny_bind (wpAny_seqItems hol hdl ?_)
  simp only [Int.toNat_natCast, hx]
  refine wpAny_bind (wpAny_rule (wpAny_bind (wpAny_setField ho hd (by simp) ?_)))
  generalize hg : s.heap.update it (Obj.mapFields fun x => x.setIfInBounds 0 Value.none) = g at *
  have h1g : g.get? x1 = some o1 := by
    rw [← hg]
    exact (Heap.get?_update_other _ _ (Ne.symm hx1)).trans h1
  have sb : Heap.SameBut it s.heap g := by rw [← hg]; exact Heap.SameBut.update ..
  show wpAny _ _ (newExc (.type "StopIteration") [] >>= _) _ _ _
  refine wpAny_bind ?_
  simp only [newExc, newTuple]
  refine wpAny_bind (wpAny_newObj_type ?_ (by size_fits))
  refine wpAny_bind (m := firstArgMember _ _) (wpAny_of_eq (a := Value.none) (by first | rfl | (simp only [firstArgMember]; rfl)) ?_)
  refine wpAny_newObj_type ?_ (by size_fits)
  refine raiseNew_hot ⟨hh, o1, vs1, Heap.get?_push_of_some _ (Heap.get?_push_of_some _ h1g), d1, c1⟩ (Nat.ne_of_lt (Heap.lt_size (Heap.get?_push_of_some _ h1g))) (Heap.get?_push_size _ rfl) rfl (by first | (simp; done) | (simp; omega) | (simp only [Array.size_append]; simp; omega)) ?_
  refine wpAny_bind (wpAny_isInstance (T := "StopIteration") (b := true) ⟨_, Heap.get?_update_self _ (Heap.get?_push_size _ rfl) rfl, rfl⟩ isSubtype_stop ?_)
  refine wpAny_pure (hQ _ fun b o hb e => ?_)
  have e1 := sb.extBut b o hb e
  rw [Heap.get?_update_other _ _ (Nat.ne_of_gt (Heap.lt_size (Heap.get?_push_of_some _ e1)))]
  exact Heap.get?_push_of_some _ (Heap.get?_push_of_some _ e1)
theorem unpackItems_tupleH {t x1 : Addr} {items : Array Value} {Q : List Value → Shared → Prop} (hot : HotAt A x1 s.heap) (ht : IsTup s.heap t items)
    (hQ : ∀ h', Heap.ExtBut s.heap.objs.size s.heap h' → Q items.toList { s with heap := h' }) : wpAny (model prog w) A (unpackItems (.ref t) items.size none) Q E s := by
  have hlt : t ≠ s.heap.objs.size := by obtain ⟨o, ho, _⟩ := ht; exact Nat.ne_of_lt (Heap.lt_size ho)
  have hx1 : x1 ≠ s.heap.objs.size := by obtain ⟨_, o, _, ho, _⟩ := hot; exact Nat.ne_of_lt (Heap.lt_size ho)
  unfold unpackItems
  refine wpAny_bind ?_
  · unfold notIterableAtAll
    refine wpAny_bind (wpAny_specialOf ht.typeIs slot_tuple_iter.lookup ?_)
    refine wpAny_pure ?_
    simp only [Bool.false_eq_true, if_false]
    refine wpAny_bind (wpAny_holding (iter_tuple ht ?_))
    refine wpAny_bind (wpAny_holding (draw_tuple hlt items.size 0 _ _ ⟨_, Heap.get?_push_size _ rfl, rfl, rfl⟩ (ht.push _) (by omega) fun h₁ hit₁ hs₁ => ?_))
    have hall : List.take items.size (List.drop 0 items.toList) = items.toList := by
      rw [List.drop_zero]; exact List.take_of_length_le (by simp)
    rw [hall]
    rw [if_neg (by simp)]
    have ht₁ : IsTup h₁ t items := (ht.push _).extBut hs₁.extBut hlt
    have hot₁ : HotAt A x1 h₁ := HotAt.keeps hot fun o e => hs₁.extBut x1 o hx1 (Heap.get?_push_of_some _ e)
    refine wpAny_bind (wpAny_holding (next_tuple_endH hot₁ hx1 hit₁ ht₁ (by simp) fun h₂ he₂ => ?_))
    simp only [Option.isSome_none, Bool.false_eq_true, if_false]
    refine wpAny_pure (hQ h₂ fun b o hb e => he₂ b o hb (hs₁.extBut b o hb (Heap.get?_push_of_some _ e)))
theorem assign_TupleH {env : Env} {elts : List Expr} {k : Nat} {pos : Pos} {t x1 : Addr} {items : Array Value} {Q : Unit → Shared → Prop} (hot : HotAt A x1 s.heap) (ht : IsTup s.heap t items)
    (hn : (assignEach elts env).length = items.size) (hstar : (assignEach elts env).findIdx? (·.1) = none)
    (h : ∀ h', Heap.ExtBut s.heap.objs.size s.heap h' → wpAny (model prog w) A (assignInOrder ((assignEach elts env).map (·.2)) items.toList) Q E { s with heap := h' }) :
    wpAny (model prog w) A (assign (.Tuple elts k pos) env (.ref t)) Q E s := by
  rw [assign_Tuple]
  refine wpAny_bind (wpAny_standAt ?_)
  unfold unpack
  rw [hn, hstar]
  exact wpAny_bind (wpAny_holding (unpackItems_tupleH hot ht h))
end
section
variable {X : Cx} {pos : Pos}
/-- a, b = t where an exception is handled -/
theorem pg_tupH {es : List Expr} {k : Nat} {t : TGs} {n : Nat} (hc : L2H.HotC X) (h : PGs X es t)
    (hn : (assignEach es X.env).length = n := by rfl) (hst : (assignEach es X.env).findIdx? (·.1) = none := by rfl) : PG X (.Tuple es k pos) (gTup X.K n t) := by
  refine ⟨fun pins s σ H v u Q I r hw => ?_⟩
  obtain ⟨a, xs, e1, hq, hl, hw⟩ := hw
  subst e1
  cases r
  obtain ⟨its, rv, ht, hz⟩ := I.tuple hq
  obtain ⟨x1, hot⟩ := hc.at I
  refine assign_TupleH hot ht (by simp [hn, ← hl, rv.length]) hst fun h' hx => ?_
  have I1 : Inv X pins σ H { s with heap := h' } := I.kept (t' := s.toks) fun b o e => hx b o (Nat.ne_of_lt (Heap.lt_size e)) e
  exact h.run pins _ σ H xs _ Q I1 (by simpa using rv) hw
end
end VK
end

section
set_option Elab.async false
set_option linter.all false
set_option pp.maxSteps 1500
set_option maxRecDepth 100000
set_option maxHeartbeats 4000000
/-! a list comprehension over a range while an exception is handled (after HandS.Comp and HandS.HotCalls) -/
namespace VK
open PySem PySem.Spec PyProof.Rows L2 HotX
abbrev St := L2.St
structure TurnR (P : Program) (w : World) (K : PySem.W.Frag) (tg : Expr) (J : It) (fp : List Addr) (it : Addr) (tn : Nat → Heap → Prop) : Prop where
  mem : it ∈ fp
  obj : ∀ i h, tn i h → ∀ b ∈ fp, ∃ o, h.get? b = some o ∧ ∀ v, o.data ≠ .cell v
  keep : ∀ i h h', tn i h → (∀ b ∈ fp, ∀ o, h.get? b = some o → h'.get? b = some o) → tn i h'
  item : ∀ (X : Cx), X.prog = P → X.w = w → X.K = K → ∀ (i : Nat) (pins : List (Addr × Obj)) (s : Shared) (σ : St) (H : Hp) (E : Value → Shared → Prop), Inv X pins σ H s → (∀ b ∈ fp, FpOk X pins H b) → tn i s.heap → J.go i H →
    wpAny (model P w) X.A (pyNext (.ref it)) (fun r s1 => ∃ u, r = some u ∧
      wpAny (model P w) X.A (letOwnedTupleGo tg (.ref it) u) (fun _ s2 => ∃ x H', Inv X pins σ H' s2 ∧ RelV x u ∧ J.yld i H x H' ∧ tn (i + 1) s2.heap ∧ ∀ b ∈ fp, H' b = none) E s1) E s
  done : ∀ (X : Cx), X.prog = P → X.w = w → X.K = K → L2H.HotC X → ∀ (i : Nat) (pins : List (Addr × Obj)) (s : Shared) (σ : St) (H : Hp) (E : Value → Shared → Prop), Inv X pins σ H s → (∀ b ∈ fp, FpOk X pins H b) → tn i s.heap → J.stop i H →
    wpAny (model P w) X.A (pyNext (.ref it)) (fun r s1 => r = none ∧ Inv X pins σ H s1 ∧ ∀ b o, s.heap.get? b = some o → s1.heap.get? b = some o) E s
  self : ∀ (A : Around) (i : Nat) (s : Shared) (Q : Value → Shared → Prop) (E : Value → Shared → Prop), tn i s.heap → Q (.ref it) s → wpAny (model P w) A (pyIter (.ref it)) Q E s
theorem turn_rangeR {P : Program} {w : World} {K : PySem.W.Frag} {tg : Expr} (it : Addr) (lo : Int) (n : Nat) : TurnR P w K tg (Itr lo n) [it] it (fun i h => IsRangeIter h it (lo + (i : Nat) * 1) ((n : Int) - (i : Nat)) 1) where
  mem := by simp
  obj := fun i h st b hb => by
    have e : b = it := by simpa using hb
    subst e
    exact ⟨_, st, fun v z => by
      have z' : Data.fields _ = Data.cell v := z
      cases z'⟩
  keep := fun i h h' st k => k it (by simp) _ st
  item := by
    intro X hP hw hK i pins s σ H E I hf st hg
    subst hP hw hK
    obtain ⟨f0, f1, f2, f3, f4, f5⟩ := hf it (by simp)
    have hlt : i < n := hg
    refine wpAny_pyNext_range_item st (by omega) fun h' st' sb => ?_
    have st2 : IsRangeIter h' it (lo + ((i + 1 : Nat) : Int) * 1) ((n : Int) - ((i + 1 : Nat) : Int)) 1 := by
      have e1 : lo + ((i : Nat) : Int) * 1 + 1 = lo + ((i + 1 : Nat) : Int) * 1 := by omega
      have e2 : (n : Int) - ((i : Nat) : Int) - 1 = (n : Int) - ((i + 1 : Nat) : Int) := by omega
      rw [← e1, ← e2]
      exact st'
    have I1 : Inv X pins σ H { s with heap := h', toks := s.toks + 1 } := I.turned (fun b o hb e => (sb.2 b hb).trans e) f0 f1 f3 f4 f5
    refine ⟨_, rfl, go_of (s := { s with heap := h', toks := s.toks + 1 }) (n := "range_iterator") st2 rfl rfl (by decide) ⟨.int (lo + i), H, I1, ⟨s.toks, ?_⟩, ⟨rfl, rfl⟩, st2, fun b hb => (hf b hb).1⟩⟩
    rw [Int.mul_one]
  done := by
    intro X hP hw hK hc i pins s σ H E I hf st hg
    subst hP hw hK
    obtain ⟨f0, f1, f2, f3, f4, f5⟩ := hf it (by simp)
    obtain ⟨x1, hot⟩ := hc.at I
    exact pyNext_range_end_hot hot st (by have : n ≤ i := hg; omega) fun h' eb => ⟨rfl, I.turned (t' := s.toks) (fun b o _ e => eb b o e) f0 f1 f3 f4 f5, eb⟩
  self := fun _ _ _ _ _ st h => wpAny_pyIter_rangeiter st h
def PIER (X : Cx) (pins : List (Addr × Obj)) (σ : St) (tg : Expr) (R : It → Hp → Prop) (itv : Value) (s2 : Shared) : Prop :=
  ∃ (it : Addr) (fp : List Addr) (tn : Nat → Heap → Prop) (J : It) (H' : Hp), itv = .ref it ∧ Inv X pins σ H' s2 ∧ TurnR X.prog X.w X.K tg J fp it tn ∧ tn 0 s2.heap ∧ (∀ b ∈ fp, FpOk X pins H' b) ∧ R J H'
structure PIR (X : Cx) (tg iter : Expr) (wi : TI) : Prop where
  run : ∀ (pins : List (Addr × Obj)) (s : Shared) (σ : St) (H : Hp) (R : It → Hp → Prop), Inv X pins σ H s → wi σ H R →
    wpAny (model X.prog X.w) X.A (eval iter X.env) (fun v s1 => wpAny (model X.prog X.w) X.A (pyIter v) (PIER X pins σ tg R) X.xe s1) X.xe s
section
variable {X : Cx} {tg : Expr}
theorem range_itR {pins : List (Addr × Obj)} {σ : St} {H : Hp} {s : Shared} {R : It → Hp → Prop} {E : Value → Shared → Prop} {lo hi : Int} {t u v : Tok} {tk : Nat} (I : Inv X pins σ H s) (h1 : -(2 ^ 62) ≤ lo) (h2 : lo < 2 ^ 62) (h3 : -(2 ^ 62) ≤ hi) (h4 : hi < 2 ^ 62)
    (q : R (Itr lo (hi - lo).toNat) H) : wpAny (model X.prog X.w) X.A (pyIter (.ref s.heap.objs.size)) (PIER X pins σ tg R) E { s with heap := s.heap.push { cls := .type "range", data := .fields #[.int lo t, .int hi u, .int 1 v] }, toks := tk } := by
  refine wpAny_pyIter_range (IsRange.new ..) (small_one h1 h2 h3 h4) ?_
  have I1 : Inv X pins σ H { s with heap := s.heap.push { cls := .type "range", data := .fields #[.int lo t, .int hi u, .int 1 v] }, toks := tk } := I.kept fun b o e => Heap.get?_push_of_some _ e
  refine ⟨(s.heap.push { cls := .type "range", data := .fields #[.int lo t, .int hi u, .int 1 v] }).objs.size, [(s.heap.push { cls := .type "range", data := .fields #[.int lo t, .int hi u, .int 1 v] }).objs.size], _, _, H, rfl,
    I1.kept (t' := tk) fun b o e => Heap.get?_push_of_some _ e, turn_rangeR _ lo (hi - lo).toNat, ?_, fun b hb => ?_, q⟩
  · have e1 : lo + ((0 : Nat) : Int) * 1 = lo := by simp
    have e2 : (((hi - lo).toNat : Nat) : Int) - ((0 : Nat) : Int) = Builtin.Range.rangeSize lo hi 1 := by rw [rangeSize_one]; split <;> omega
    show IsRangeIter _ _ (lo + ((0 : Nat) : Int) * 1) ((((hi - lo).toNat : Nat) : Int) - ((0 : Nat) : Int)) 1
    rw [e1, e2]
    exact Heap.get?_push_size _ rfl
  · have e : b = (s.heap.push { cls := .type "range", data := .fields #[.int lo t, .int hi u, .int 1 v] }).objs.size := by simpa using hb
    subst e
    exact I1.fpOk (Nat.le_refl _) (I1.hok.fresh (Nat.le_refl _))
theorem pi_range1R {a : Expr} {ta : TA} {p pos : Pos} (hg : Gl X "range") (hm : X.mg "range" = none) (ha : PA X [a] ta) (hs : starEach [a] X.env = [(false, eval a X.env)] := by rfl) : PIR X tg (.Call (.Name "range" p) [a] [] pos) (iRng1 ta) := by
  refine ⟨fun pins s σ H R I h => ?_⟩
  refine Call_ (ld_blt I hg hm boot_range (PyProof.Rows.callWith_type1 (thn (ha.run pos pins s σ H _ I h) fun us s1 ⟨vs, H1, I1, r1, q1⟩ => ?_) hs rfl))
  obtain ⟨j, e, q1, q2, q⟩ := q1
  subst e
  cases r1 with
  | cons r rr =>
    cases rr
    obtain ⟨t, rfl⟩ := r
    exact call_range_1 (range_itR I1 (by omega) (by omega) q1 q2 (by simpa using q))
end
section
variable {X : Cx}
theorem lc_coreR {pins : List (Addr × Obj)} {s : Shared} {σ : St} {H : Hp} {Q : VK} {elt tg iter : Expr} {ifs : List Expr} {scope : Scope} {own : List (Str × Nat)} {pos pos' : Pos} {wi : TI} {g : TG} {tt : TT} {te : TE} {use : Option (Value → Sem Unit)} {Qf : Value → Shared → Prop}
    (hc : L2H.HotC X) (hN : X.N.Nodup) (I : Inv X pins σ H s) (hi : PIR X tg iter wi) (ok : BlkOk X.N X.env.scope scope own)
    (hg : ∀ (s : Shared) (H : Hp) (C : Addr) (cl : List (Str × Addr)) (fp : List Addr), PG (X.blk s H scope (compEnvC scope cl C X.env) fp) tg g) (ht : ∀ (s : Shared) (H : Hp) (C : Addr) (cl : List (Str × Addr)) (fp : List Addr), PTs (X.blk s H scope (compEnvC scope cl C X.env) fp) ifs tt)
    (he : ∀ (s : Shared) (H : Hp) (C : Addr) (cl : List (Str × Addr)) (fp : List Addr), PE (X.blk s H scope (compEnvC scope cl C X.env) fp) elt te) (hs : ∀ x, foldedSetIterable iter X.env x = pure x)
    (h : tLc wi g tt te (own.map (·.2)) σ H Q)
    (hRR : ∀ D C s' m H', Inv X pins σ H' s' → Q (.ref D) H' → s'.heap.Ns C m → FpOk X pins H' C → compPost (model X.prog X.w) X.A X.xe use Qf (.ref D) C (.ok .next) s') :
    wpAny (model X.prog X.w) X.A (comprehension (.ListComp elt [⟨tg, iter, ifs, 0⟩] scope pos) scope X.env pos' (newList []) false (eval iter X.env) use) Qf X.xe s := by
  have hfree : ∀ y ∈ scope.names, y.2 = .free → ∃ c, X.env.cells.lookup y.1 = some c := fun y hy e => by
    rcases ok.free y hy e with k | k
    · exact I.ok.has _ (.inl k)
    · exact I.ok.has _ (.inr k)
  refine wpAny_comprehension_free (use := use) rfl hs (closure_ok hfree) ok.kind (fun y hy e => by rw [ok.uniq y hy, e])
    (thn (hi.run pins s σ H _ I h) fun xv s1 hx => thn hx fun itv s2 h2 => ?_)
  obtain ⟨it, fp, tn, J, H2, e, I2, T, st2, f2, q⟩ := h2
  subst e
  refine wpAny_newObj_type (newEnv_comp ?_) (by show 0 ≤ sizeLine; decide)
  generalize hD : s2.heap.objs.size = D
  have hDn : H2 D = none := I2.hok.fresh (Nat.le_of_eq hD)
  obtain ⟨W, ⟨m0, w0⟩, turn⟩ := q D hDn
  -- the new list
  generalize hs3 : ({ s2 with heap := s2.heap.push { cls := .type "list", data := .seq ([] : List Value).toArray } } : Shared) = s3
  have I3 : Inv X pins σ (upd H2 D (.lst [])) s3 := by
    rw [← hs3]
    refine I2.laid (t' := s2.toks) (fun b o e => Heap.get?_push_of_some _ e) (Nat.le_of_eq hD) ⟨Nat.zero_le _, [], 0, .nil, ?_⟩
    rw [← hD]
    exact Heap.get?_push_size _ rfl
  have h3 : s3.heap = s2.heap.push { cls := .type "list", data := .seq ([] : List Value).toArray } := by rw [← hs3]
  have sz : ∀ b ∈ fp, b < s2.heap.objs.size := fun b hb => by
    obtain ⟨o, e, _⟩ := T.obj _ _ st2 b hb
    exact Heap.lt_size e
  have f3 : ∀ b ∈ fp, FpOk X pins (upd H2 D (.lst [])) b ∧ b < s3.heap.objs.size := fun b hb => by
    have hlt := sz b hb
    refine ⟨⟨?_, (f2 b hb).2⟩, by rw [h3, Heap.size_push]; exact Nat.lt_succ_of_lt hlt⟩
    rw [upd_ne (by rw [← hD]; exact Nat.ne_of_lt hlt)]
    exact (f2 b hb).1
  have st3 : tn 0 s3.heap := T.keep _ _ _ st2 fun b _ o e => by rw [h3]; exact Heap.get?_push_of_some _ e
  have I4 := block_start I3 ok hN f3
  have pg := hg s3 (upd H2 D (.lst [])) s3.heap.objs.size (cellsFrom (s3.heap.objs.size + 1) scope.names (cloFrom X.env.cells scope.names [])) fp
  have pt := ht s3 (upd H2 D (.lst [])) s3.heap.objs.size (cellsFrom (s3.heap.objs.size + 1) scope.names (cloFrom X.env.cells scope.names [])) fp
  have pe := he s3 (upd H2 D (.lst [])) s3.heap.objs.size (cellsFrom (s3.heap.objs.size + 1) scope.names (cloFrom X.env.cells scope.names [])) fp
  show codeAny _ _ (.compStart (.ListComp elt [⟨tg, iter, ifs, 0⟩] scope pos) 0 (.ref it) (.ref D) (compEnvC scope (cellsFrom (s3.heap.objs.size + 1) scope.names (cloFrom X.env.cells scope.names [])) s3.heap.objs.size X.env)) (compPost (model X.prog X.w) X.A X.xe use Qf (.ref D) s3.heap.objs.size) { s3 with heap := pushCells (s3.heap.push { cls := .type "dict", data := .dict #[] }) scope.names }
  have nfp : ∀ b ∈ fp, (upd H2 D (.lst [])) b = none := fun b hb => (f3 b hb).1.1
  generalize hce : compEnvC scope (cellsFrom (s3.heap.objs.size + 1) scope.names (cloFrom X.env.cells scope.names [])) s3.heap.objs.size X.env = ce at I4 pg pt pe ⊢
  have cL : ce.locals = s3.heap.objs.size := by subst hce; rfl
  generalize hH3 : upd H2 D (.lst []) = H3 at I3 I4 pg pt pe w0 nfp f3
  generalize hs4 : ({ s3 with heap := pushCells (s3.heap.push { cls := .type "dict", data := .dict #[] }) scope.names } : Shared) = s4 at I4 ⊢
  have st4 : tn 0 s4.heap := T.keep _ _ _ st3 fun b _ o e => by rw [← hs4]; exact pushCells_keeps _ _ _ _ (Heap.get?_push_of_some _ e)
  have stat : ∀ {σ' : St} {H' : Hp} {s' : Shared}, Inv (X.blk s3 H3 scope ce fp) [] σ' H' s' → (∀ b ∈ fp, H' b = none) → ∀ b ∈ fp, FpOk (X.blk s3 H3 scope ce fp) [] H' b := fun {σ' H' s'} I' hn b hb =>
    ⟨hn b hb, (I'.ok.exf b hb).1, I'.ok.exfs b hb, .inl hb, fun x c e => (I'.ok.exf b hb).2 x c e, fun p hp => absurd (show p ∈ ([] : List (Addr × Obj)) ++ [] from hp) (by simp)⟩
  have loop : codeAny (model X.prog X.w) X.A (.compLoop (.ListComp elt [⟨tg, iter, ifs, 0⟩] scope pos) 0 (.ref it) (.ref D) ce) (compPost (model X.prog X.w) X.A X.xe use Qf (.ref D) s3.heap.objs.size) s4 := by
    refine compLoop_any (fun n s' => ∃ i H', Inv (X.blk s3 H3 scope ce fp) [] (wipe σ (own.map (·.2))) H' s' ∧ tn i s'.heap ∧ (∀ b ∈ fp, H' b = none) ∧ W i n H') ?_ m0 ⟨0, H3, I4, st4, nfp, w0⟩
    rintro n s5 ⟨i, H5, I5, st5, n5, w5⟩
    rcases turn i n H5 w5 with ⟨stop, qq⟩ | ⟨go, Nx, hNx, step⟩
    · have I5X : Inv X pins σ H5 s5 := I3.call' (ch := fp) I5.os I5.base I5.hok I5.bare fun b hb => ⟨(f3 b hb).1.2.2.2.1, (f3 b hb).1.2.1, (f3 b hb).1.2.2.2.2.1, (f3 b hb).1.2.2.2.2.2⟩
      have td := T.done X rfl rfl rfl hc i pins s5 _ H5 (fun _ _ => False) I5X (fun b hb => ⟨n5 b hb, (f3 b hb).1.2⟩) st5 stop
      have nC : H5 s3.heap.objs.size = none := by
        have z : H5 ce.locals = none := I5.free
        rw [cL] at z
        exact z
      obtain ⟨m, hn, _⟩ := I5.loc
      have hn : s5.heap.Ns ce.locals m := hn
      rw [cL] at hn
      refine wpAny_mono td (fun r s6 ⟨hr, I7, k7⟩ => ?_) fun _ _ z => False.elim z
      subst hr
      exact hRR D s3.heap.objs.size s6 m H5 I7 qq (hn.keeps k7) (I3.fpOk (Nat.le_refl _) nC)
    · have ti := T.item (X.blk s3 H3 scope ce fp) rfl rfl rfl i [] s5 _ H5 (fun _ _ => False) I5 (stat I5 n5) st5 go
      refine thnF ti fun r s6 ⟨u, hr, h6⟩ => ?_
      subst hr
      refine thnF h6 fun _ s7 ⟨x, H7, I7, r7, y7, st7, n7⟩ => ?_
      have I7' := I7.pinned (stat I7 n7) (T.obj _ _ st7)
      refine thnF (pg.run _ s7 _ H7 x u _ I7' r7 (step x H7 y7)) fun _ s8 ⟨σ8, H8, I8, hw8, q8⟩ => ?_
      refine thnF (pt.run _ s8 σ8 H8 _ I8 q8) fun b s9 ⟨H9, I9, q9⟩ => ?_
      -- the turn's end
      have fin : ∀ {s' : Shared} {H' : Hp}, Inv (X.blk s3 H3 scope ce fp) ([] ++ pinsAt fp s7.heap) σ8 H' s' → Nx H' → ∃ m, m < n ∧ ∃ i H', Inv (X.blk s3 H3 scope ce fp) [] (wipe σ (own.map (·.2))) H' s' ∧ tn i s'.heap ∧ (∀ b ∈ fp, H' b = none) ∧ W i m H' := fun {s' H'} I' nx => by
        obtain ⟨m', hm, w'⟩ := hNx H' nx
        have pin' : ∀ b ∈ fp, ∀ o, s7.heap.get? b = some o → s'.heap.get? b = some o ∧ H' b = none := fun b hb o e =>
          let z := I'.pin (b, o) (List.mem_append_right _ (List.mem_append_right _ (mem_pinsAt hb e)))
          ⟨z.1, z.2.1⟩
        have hl : (wipe σ (own.map (·.2))).length = σ8.length := by rw [← hw8, wipe_length]
        refine ⟨m', hm, i + 1, H', (I'.unpinned (pins := [])).weak hl (fun j v e => ?_), T.keep _ _ _ st7 fun b hb o e => (pin' b hb o e).1, fun b hb => ?_, w'⟩
        · rw [← hw8] at e
          exact (wipe_some e).1
        · obtain ⟨o, e, _⟩ := T.obj _ _ st7 b hb
          exact (pin' b hb o e).2
      cases b with
      | false =>
        simp only [Bool.false_eq_true, if_false] at q9 ⊢
        exact fin I9 q9
      | true =>
        simp only [if_true] at q9 ⊢
        refine thnF (pe.run _ s9 σ8 H9 _ I9 q9) fun z s10 ⟨yv, H10, I10, r10, acc, hD10, hz10, nx⟩ => ?_
        exact app_ok (X := X.blk s3 H3 scope ce fp) I10 hD10 hz10 r10 fun s11 I11 => fin I11 nx
  exact codeAny_compStart_list loop (T.self X.A 0 _ _ _ st4 loop)
/-- as a value -/
theorem pe_lcH {elt tg iter : Expr} {ifs : List Expr} {scope : Scope} {own : List (Str × Nat)} {pos : Pos} {wi : TI} {g : TG} {tt : TT} {te : TE} (hc : L2H.HotC X) (hN : X.N.Nodup) (hi : PIR X tg iter wi) (ok : BlkOk X.N X.env.scope scope own)
    (hg : ∀ (s : Shared) (H : Hp) (C : Addr) (cl : List (Str × Addr)) (fp : List Addr), PG (X.blk s H scope (compEnvC scope cl C X.env) fp) tg g) (ht : ∀ (s : Shared) (H : Hp) (C : Addr) (cl : List (Str × Addr)) (fp : List Addr), PTs (X.blk s H scope (compEnvC scope cl C X.env) fp) ifs tt)
    (he : ∀ (s : Shared) (H : Hp) (C : Addr) (cl : List (Str × Addr)) (fp : List Addr), PE (X.blk s H scope (compEnvC scope cl C X.env) fp) elt te) (hs : ∀ x, foldedSetIterable iter X.env x = pure x := by intro _; rfl) :
    PE X (.ListComp elt [⟨tg, iter, ifs, 0⟩] scope pos) (tLc wi g tt te (own.map (·.2))) := by
  refine ⟨fun pins s σ H Q I h => ?_⟩
  rw [eval_ListComp]
  refine lc_coreR hc hN I hi ok hg ht he hs h fun D C s' m H' I' q hn f => ⟨m, hn, fun h'' sb => ?_⟩
  obtain ⟨f0, f1, f2, f3, f4, f5⟩ := f
  exact ⟨.ref D, H', I'.turned (t' := s'.toks) (fun b o hb e => (sb.2 b hb).trans e) f0 f1 f3 f4 f5, rfl, q⟩
/-- name = [..] on one line, the name a local -/
theorem ps_setLcH {i : Nat} {y : Str} {py : Pos} {elt tg iter : Expr} {ifs : List Expr} {scope : Scope} {own : List (Str × Nat)} {pos spos : Pos} {wi : TI} {g : TG} {tt : TT} {te : TE} (hc : L2H.HotC X) (hN : X.N.Nodup) (hy : X.N[i]? = some y) (hyl : X.env.scope.names.lookup y = some .local)
    (hsw : swapsWith (.ListComp elt [⟨tg, iter, ifs, 0⟩] scope pos) (some (.Name y py)) spos.line X.env = pure true) (hi : PIR X tg iter wi) (ok : BlkOk X.N X.env.scope scope own)
    (hg : ∀ (s : Shared) (H : Hp) (C : Addr) (cl : List (Str × Addr)) (fp : List Addr), PG (X.blk s H scope (compEnvC scope cl C X.env) fp) tg g) (ht : ∀ (s : Shared) (H : Hp) (C : Addr) (cl : List (Str × Addr)) (fp : List Addr), PTs (X.blk s H scope (compEnvC scope cl C X.env) fp) ifs tt)
    (he : ∀ (s : Shared) (H : Hp) (C : Addr) (cl : List (Str × Addr)) (fp : List Addr), PE (X.blk s H scope (compEnvC scope cl C X.env) fp) elt te) (hs : ∀ x, foldedSetIterable iter X.env x = pure x := by intro _; rfl) :
    PS X (.Assign [.Name y py] (.ListComp elt [⟨tg, iter, ifs, 0⟩] scope pos) spos) (tAsg (tLc wi g tt te (own.map (·.2))) (gName i)) := by
  refine ⟨fun pins s σ H D I h => ?_⟩
  rw [exec_Assign_Name_used _ _ _ _ hsw]
  refine wpAny_bind (wpAny_standAt (wpAny_bind ?_))
  show wpAny _ X.A (do let _ ← comprehension (.ListComp elt [⟨tg, iter, ifs, 0⟩] scope pos) scope X.env (firstIterPos [⟨tg, iter, ifs, 0⟩] pos) (newList []) false (eval iter X.env) (some (assign (.Name y py) X.env))) _ _ s
  have h : tLc wi g tt te (own.map (·.2)) σ H (fun x H1 => gName i x σ H1 D.nx) := h
  refine wpAny_bind (thn (lc_coreR (Qf := fun _ s' => SP X pins D .next s') hc hN I hi ok hg ht he hs h fun L C s' m H' I' q hn f => ?_) fun _ s' hq => wpAny_pure (wpAny_pure hq))
  show wpAny _ _ (assign (.Name y py) X.env (.ref L)) _ _ _
  refine wpAny_assign_Name (store_ok2 (v := V.ref L) I' hN hy (.inl hyl) rfl (fun s2 I2 ⟨a, sb, ha⟩ => ?_) (.inr hyl))
  obtain ⟨f0, f1, f2, f3, f4, f5⟩ := f
  have haC : C ≠ a := by
    rcases ha with z | z
    · rw [z]; exact f1
    · exact fun e => f4 y a z e.symm
  refine ⟨m, hn.sameBut sb haC, fun h3 sb3 => ?_⟩
  exact ⟨_, H', I2.turned (t' := s2.toks) (fun b o hb e => (sb3.2 b hb).trans e) f0 f1 f3 f4 f5, q⟩
end
end VK
end

section
set_option Elab.async false
set_option linter.all false
set_option pp.maxSteps 1500
set_option maxRecDepth 100000
set_option maxHeartbeats 4000000
/-! an empty range with a step, min(a, b), and what is never reached, while an exception is handled -/
namespace VK
open PySem PySem.Spec PyProof.Rows L2 HotX
/-- no turn -/
def It0 : It := ⟨fun _ _ => False, fun _ _ _ _ => False, fun _ _ => True⟩
theorem turn_0H {P : Program} {w : World} {K : PySem.W.Frag} {tg : Expr} (it : Addr) (lo c : Int) : L2H.TurnH P w K tg It0 [it] it (fun _ h => IsRangeIter h it lo 0 c) where
  mem := by simp
  obj := fun i h st b hb => by
    have e : b = it := by simpa using hb
    subst e
    exact ⟨_, st, fun v z => nomatch z⟩
  keep := fun i h h' st k => k it (by simp) _ st
  item := by
    intro X hP hw hK hc i pins s σ H E I hf st hg
    exact False.elim hg
  done := by
    intro X hP hw hK hc i pins s σ H E I hf st hg
    subst hP hw hK
    obtain ⟨f0, f1, f2, f3, f4, f5⟩ := hf it (by simp)
    obtain ⟨x1, hot⟩ := hc.at I
    exact pyNext_range_end_hot hot st (Int.le_refl _) fun h' eb => ⟨rfl, I.turned (t' := s.toks) (fun b o _ e => eb b o e) f0 f1 f3 f4 f5⟩
  self := fun _ _ _ _ _ st h => wpAny_pyIter_rangeiter st h
def iRng3E (ta : TA) : TI := fun σ H R => ta σ H fun vs H1 => ∃ (i j c : Int), vs = [.int i, .int j, .int c] ∧ RgC i j c 0 ∧ R It0 H1
section
variable {X : Cx} {tg : Expr}
theorem pi_range3E {a b c : Expr} {ta : TA} {p pos : Pos} (hg : Gl X "range") (hm : X.mg "range" = none) (ha : PA X [a, b, c] ta)
    (hs : starEach [a, b, c] X.env = (false, eval a X.env) :: starEach [b, c] X.env := by rfl) (hpl : (backTo pos (starEach [b, c] X.env)).any (·.1) = false := by rfl) :
    L2H.PIH X tg (.Call (.Name "range" p) [a, b, c] [] pos) (iRng3E ta) := by
  refine ⟨fun pins s σ H R I h => ?_⟩
  refine Call_ (ld_blt I hg hm boot_range (PyProof.Rows.callWith_type1 (thn (ha.run pos pins s σ H _ I h) fun us s1 ⟨vs, H1, I1, r1, q1⟩ => ?_) hs hpl))
  obtain ⟨i, j, k, e, ⟨c0, c1, c2, c3⟩, q⟩ := q1
  subst e
  cases r1 with
  | cons r rr =>
    cases rr with
    | cons r' rr =>
      cases rr with
      | cons r'' rr =>
        cases rr
        obtain ⟨t, rfl⟩ := r
        obtain ⟨t', rfl⟩ := r'
        obtain ⟨t'', rfl⟩ := r''
        refine call_range_3 c0 ?_ (.inl (PyProof.noPylong_small c1))
        refine wpAny_pyIter_range (IsRange.new ..) c2 ?_
        have I2 : Inv X pins σ H1 { s1 with heap := s1.heap.push { cls := .type "range", data := .fields #[.int i t, .int j t', .int k t''] } } := I1.kept (t' := s1.toks) fun b o e => Heap.get?_push_of_some _ e
        refine ⟨(s1.heap.push { cls := .type "range", data := .fields #[.int i t, .int j t', .int k t''] }).objs.size, [(s1.heap.push { cls := .type "range", data := .fields #[.int i t, .int j t', .int k t''] }).objs.size], _, It0, H1, rfl,
          I2.kept (t' := s1.toks) fun b o e => Heap.get?_push_of_some _ e, turn_0H _ i k, ?_, fun b hb => ?_, q⟩
        · show IsRangeIter _ _ i 0 k
          have e2 : (0 : Int) = Builtin.Range.rangeSize i j k := by rw [c3]; rfl
          rw [e2]
          exact Heap.get?_push_size _ rfl
        · have e : b = (s1.heap.push { cls := .type "range", data := .fields #[.int i t, .int j t', .int k t''] }).objs.size := by simpa using hb
          subst e
          exact I2.fpOk (Nat.le_refl _) (I2.hok.fresh (Nat.le_refl _))
end
/-- a for without a turn -/
theorem for_0 {g : TG} {tb : TS} {D : Ends} {σ : St} {H : Hp} (h : D.nx σ H) :
    ∃ W : Nat → Nat → St → Hp → Prop, (∃ m, W 0 m σ H) ∧ ∀ i m σ H, W i m σ H →
      (It0.stop i H ∧ D.nx σ H) ∨ (It0.go i H ∧ ∃ N : St → Hp → Prop, (∀ σ' H', N σ' H' → ∃ m', m' < m ∧ W (i + 1) m' σ' H') ∧ ∀ x H', It0.yld i H x H' → g x σ H' fun σ2 H2 => tb { D with nx := N, ct := N, bk := D.nx } σ2 H2) :=
  ⟨fun _ _ σ' H' => σ' = σ ∧ H' = H, ⟨0, rfl, rfl⟩, fun _ _ σ' H' ⟨e1, e2⟩ => .inl ⟨trivial, by rw [e1, e2]; exact h⟩⟩
/-! ### what is not reached -/
def tNever : TS := fun _ _ _ => False
theorem ps_never {X : Cx} {st : Stmt} : PS X st tNever := ⟨fun _ _ _ _ _ _ h => False.elim h⟩
theorem pss_never {X : Cx} {ss : List Stmt} : PSs X ss tNever := ⟨fun _ _ _ _ _ _ h => False.elim h⟩
/-! ### min(a, b) -/
theorem walks_tupleH {prog : Program} {w : World} {A : Around} {x1 : Addr} (I ax : Addr) (hne : ax ≠ I) (hx : x1 ≠ I) (items : Array Value) :
    Walks prog w A I [I, ax, x1] [I] items.size (fun i v => items[i]? = some v) (fun i h => h.IsTupleIter I ax i ∧ h.IsTuple ax items ∧ HotAt A x1 h) where
  sub := fun b hb => by simp at hb; simp [hb]
  frame := fun _ _ _ st hk => ⟨st.1.at fun o e => hk I (by simp) o e, st.2.1.at fun o e => hk ax (by simp) o e, HotAt.keeps st.2.2 fun o e => hk x1 (by simp) o e⟩
  item := fun i s Q E hi st hQ => by
    refine wpAny_pyNext_tuple_item st.1 st.2.1 (x := items[i]) (by simp [hi]) fun h' hit' hs' => ?_
    exact hQ _ h' s.toks (by simp [hi]) ⟨hit', st.2.1.extBut hs'.extBut hne, HotAt.keeps st.2.2 fun o e => hs'.extBut x1 o hx e⟩ fun b o hb e => hs'.extBut b o (fun h => hb (by simp [h])) e
  done := fun s Q E st hQ => next_tuple_endH st.2.2 hx st.1 st.2.1 (by simp) fun h' he' => hQ h' s.toks fun b o hb e => he' b o (fun h => hb (by simp [h])) e
  self := fun _ _ _ _ st hQ => wpAny_pyIter_tupleiter st.1 hQ
section
variable {prog : Program} {w : World} {A : Around} {E : Value → Shared → Prop} {s : Shared}
theorem min_two_intsH {a b : Int} {t u : Tok} {x1 : Addr} {Q : Value → Shared → Prop} (hot : HotAt A x1 s.heap)
    (h : ∀ h' tk, (∀ c o, s.heap.get? c = some o → h'.get? c = some o) → Q (if b < a then .int b u else .int a t) { s with heap := h', toks := tk }) :
    wpAny (model prog w) A (call (.builtin "min") [.int a t, .int b u]) Q E s := by
  have hT : (s.heap.push { cls := .type "tuple", data := .seq #[.int a t, .int b u] }).IsTuple s.heap.objs.size (intItems #[(a, t), (b, u)]) := ⟨_, Heap.get?_push_size _ rfl, rfl, 0, by simp [intItems]⟩
  refine call_min_two (wpAny_pyIter_tuple hT ?_)
  have hsz : (s.heap.push { cls := .type "tuple", data := .seq #[.int a t, .int b u] }).objs.size = s.heap.objs.size + 1 := Heap.size_push ..
  have hx1 : x1 < s.heap.objs.size := by obtain ⟨_, o, _, ho, _⟩ := hot; exact Heap.lt_size ho
  refine ⟨_, [_, s.heap.objs.size, x1], [_], _, _, _, _, rfl, walks_tupleH (A := A.in1) (x1 := x1) _ s.heap.objs.size (by rw [hsz]; exact Nat.ne_of_lt (Nat.lt_succ_self _)) (by rw [hsz]; exact Nat.ne_of_lt (Nat.lt_succ_of_lt hx1)) (intItems #[(a, t), (b, u)]),
    ⟨⟨_, Heap.get?_push_size _ rfl, rfl, rfl⟩, hT.push _, HotAt.keeps (A := A) hot fun o e => Heap.get?_push_of_some _ (Heap.get?_push_of_some _ e)⟩, fun c hc => ?_, by simp [intItems], CmpOf.ints_lt (numAt #[(a, t), (b, u)]) (fun _ _ => intItems_at), fun v h' tk hP hk => ?_⟩
  · show c < ((s.heap.push _).push _).objs.size
    rw [Heap.size_push, hsz]
    rcases List.mem_cons.mp hc with rfl | hc
    · rw [hsz]; exact Nat.lt_succ_self _
    · rcases List.mem_cons.mp hc with rfl | hc
      · exact Nat.lt_succ_of_lt (Nat.lt_succ_self _)
      · rcases List.mem_cons.mp hc with rfl | hc
        · exact Nat.lt_succ_of_lt (Nat.lt_succ_of_lt hx1)
        · cases hc
  · have hold : ∀ c o, s.heap.get? c = some o → h'.get? c = some o := fun c o e => by
      refine hk c o (fun hm => ?_) (Heap.get?_push_of_some _ (Heap.get?_push_of_some _ e))
      rcases List.mem_cons.mp hm with e1 | hm
      · have := Heap.lt_size e; rw [e1, hsz] at this; exact Nat.lt_irrefl _ (Nat.lt_of_succ_lt this)
      · cases hm
    have := h h' tk hold
    have hv : v = if b < a then Value.int b u else Value.int a t := by
      have hP' : (intItems #[(a, t), (b, u)])[argBest (fun i j => decide (numAt #[(a, t), (b, u)] i < numAt #[(a, t), (b, u)] j)) 1]? = some v := by simpa [intItems] using hP
      by_cases hba : b < a
      · have e : argBest (fun i j => decide (numAt #[(a, t), (b, u)] i < numAt #[(a, t), (b, u)] j)) 1 = 1 := by simp [argBest, numAt, hba]
        rw [e] at hP'
        simpa [intItems, hba] using hP'.symm
      · have e : argBest (fun i j => decide (numAt #[(a, t), (b, u)] i < numAt #[(a, t), (b, u)] j)) 1 = 0 := by simp [argBest, numAt, hba]
        rw [e] at hP'
        simpa [intItems, hba] using hP'.symm
    rw [hv]; exact this
end
theorem call_min2H {X : Cx} (hc : L2H.HotC X) : CallR X (.builtin "min") (fun xs H Q => ∃ i j, xs = [.int i, .int j] ∧ Q (.int (if j < i then j else i)) H) := by
  intro pins s σ H xs us Q I r h
  obtain ⟨i, j, rfl, q⟩ := h
  obtain ⟨u, w', rfl, ⟨t, rfl⟩, ⟨t', rfl⟩⟩ := vals2 r
  obtain ⟨x1, hot⟩ := hc.at I
  refine min_two_intsH hot fun h' tk k => ⟨_, H, I.kept k, ?_, q⟩
  by_cases hj : j < i
  · rw [if_pos hj, if_pos hj]; exact ⟨_, rfl⟩
  · rw [if_neg hj, if_neg hj]; exact ⟨_, rfl⟩
end VK
end

section
set_option Elab.async false
set_option linter.all false
set_option pp.maxSteps 1500
set_option maxRecDepth 100000
set_option maxHeartbeats 4000000
/-! kept_pairs of two equal rows of lines, called while an exception is handled -/
namespace VK
open PySem L2
theorem pass0H {X : Cx} {E : XK} : ∀ σ, PassesAt CX0 X σ E := fun σ pins H s e s' I h => h.elim
def spTab0 (K : PySem.W.Frag) : Sp := fun vs H Q _ => ∃ (a b : Addr), vs = [.ref a, .ref b] ∧ SqT K H a [] ∧ SqT K H b [] ∧
  ∀ (H' : Hp) (t r : Addr), Same H H' → H' t = some (.lst [.ref r]) → H' r = some (.lst [.int 0]) → Q (.ref t) H'
section
variable {P : Program} {w : World} {K : PySem.W.Frag} {mg : Str → Option Value} {base : Heap}
theorem ok_tableH {f : Addr} {fd : FuncData} (F : Fun K "common_table" "common_table" s_common_table f fd) (T0 : Txt0 mg) {tM : Tok} (hc : mg "MOST_PLACES" = some (.int 40000 tM)) : L2H.FnH P w K mg base CX0 1 f fd ["one", "two"] (spTab0 K) := by
  obtain ⟨oc, od, kV, doc, pm, an, cdv, ct, osl, rfl, lk, hcd⟩ := F.ex
  refine L2H.fn_ofH lk hcd sc_common_table (fun vs H Q E h => ?_) (fun A outer s H vs Q E p hot hr h => ?_)
  · obtain ⟨a, b, rfl, _⟩ := h
    rfl
  · obtain ⟨a, b, rfl, hA, hB, k⟩ := h
    have hC : L2H.HotC (L2H.cxH CX0 P w K mg base ["one", "two", "table", "first", "row", "below", "second", "_"] "common_table" (defScope s_common_table) f cdv A outer s H E p) := ⟨p, hot, List.mem_singleton.mpr rfl⟩
    refine ⟨_, (pss_cons (ps_if (pt_cmpR op_gt (pe_op op_mul (pe_callB call_len_seq (by rfl) T0.z_len PySem.boot_len (pa_cons (pv 0) pa_nil)) (pe_callB call_len_seq (by rfl) T0.z_len PySem.boot_len (pa_cons (pv 1) pa_nil))) (pe_glob (v := .int 40000) rfl hc ⟨_, rfl⟩) (nomark _))
        pss_never
        pss_nil)
      (pss_cons (ps_setLcH (i := 2) (own := [("_", 7)]) (g := gName 7) (tt := tYes) hC sc_common_table.nd rfl rfl (sw_true rfl rfl rfl (by decide +kernel)) (pi_range1R (by rfl) T0.z_range (pa_cons (pe_op op_add (pe_callB call_len_seq (by rfl) T0.z_len PySem.boot_len (pa_cons (pv 0) pa_nil)) pe_int) pa_nil)) (blkOk_by (own := [("_", 7)]) (N := ["one", "two", "table", "first", "row", "below", "second", "_"]) (sc := defScope s_common_table) (by decide +kernel)) (fun _ _ _ _ _ => (pg_name (i := 7) sc_common_table.nd rfl (Or.inl rfl))) (fun _ _ _ _ _ => pts_nil) (fun _ _ _ _ _ => (pe_op op_rep (pe_lst (pa_cons pe_int pa_nil)) (pe_op op_add (pe_callB (call_lenQ (K := K) rfl) (by rfl) T0.z_len PySem.boot_len (pa_cons (pv 1) pa_nil)) pe_int))))
      (pss_cons (L2H.ps_forH (passes_of rfl) hC (pi_range3E (by rfl) T0.z_range (pa_cons (pe_op op_sub (pe_callB call_len_seq (by rfl) T0.z_len PySem.boot_len (pa_cons (pv 0) pa_nil)) pe_int) (pa_cons (pe_un un_neg pe_int) (pa_cons (pe_un un_neg pe_int) pa_nil)))) (pg_name (i := 3) sc_common_table.nd rfl (Or.inl rfl)) pss_never)
      (pss_one (ps_ret (pv 2)))))), ?_⟩
    refine ⟨_, rfl, a, _, rfl, .inr hA, _, rfl, b, _, rfl, .inr hB, _, _, rfl, rfl, .inl ⟨by decide, by decide⟩, _, _, rfl, rfl, _, rfl, ?_⟩
    refine ite2 (fun e => absurd (of_decide_eq_true e) (by decide)) (fun _ => ?_)
    refine ⟨_, rfl, a, _, rfl, .inr hA, _, _, rfl, rfl, _, rfl, by decide, by decide, fun D hD => ?_⟩
    refine lc_range (lo := 0) (n := 1) (fun i H' => Same H H' ∧ ((i = 0 ∧ H' D = some (.lst [])) ∨ (i = 1 ∧ ∃ r, H' D = some (.lst [.ref r]) ∧ H' r = some (.lst [.int 0])))) ⟨same_new hD, .inl ⟨rfl, upd_same⟩⟩ ?_ ?_
    · rintro i H1 hi ⟨s1, h⟩
      have e0 : i = 0 := by omega
      subst e0
      rcases h with ⟨_, hl⟩ | ⟨z, _⟩
      · refine ⟨rfl, by show 1 ≤ sizeLine; decide, fun p1 hp1 => ?_⟩
        have sp := same_new (o := .lst [.int 0]) hp1
        refine ⟨_, rfl, b, _, rfl, .inr ((s1.trans sp).seqT hB), _, _, rfl, rfl, p1, _, _, rfl, rfl, upd_same, by decide, by decide, by decide, fun q hq => ?_⟩
        have sq := same_new (o := .lst (List.replicate ((([] : List V).length : Int) + 1).toNat [V.int 0]).flatten) hq
        have hl2 := (sp.trans sq) _ _ hl
        have nDq : D ≠ q := by
          intro e
          rw [e] at hl
          have := sp _ _ hl
          rw [hq] at this; cases this
        refine ⟨[], hl2, by decide, same_mut (s1.trans (sp.trans sq)) hD, .inr ⟨rfl, q, upd_same, ?_⟩⟩
        rw [upd_ne nDq.symm, upd_same]; rfl
      · cases z
    · rintro H1 ⟨s1, h⟩
      rcases h with ⟨z, _⟩ | ⟨_, r, h1, h2⟩
      · cases z
      · refine ⟨_, rfl, a, _, rfl, .inr (s1.seqT hA), _, _, rfl, rfl, _, rfl, _, rfl, -1, -1, -1, ?_, ?_, ?_⟩
        · rfl
        · exact RgC.neg (by decide) (by decide) (by decide) (by decide)
        · exact for_0 ⟨_, rfl, k H1 D r s1 h1 h2⟩
abbrev eqD (ls : List Str) : PyData := pairsD (diag ls.length)
def spKeptH (K : PySem.W.Frag) : Sp := fun vs H Q _ => ∃ (a b : Addr) (ls : List Str), vs = [.ref a, .ref b] ∧ SqT K H a (ls.map V.str) ∧ SqT K H b (ls.map V.str) ∧ ls.length ≤ 1000 ∧
  ∀ (H' : Hp) (v : V), Same H H' → Dp K H' v (eqD ls) → Q v H'
theorem ok_keptH {f fC : Addr} {fd fdC : FuncData} (F : Fun K "kept_pairs" "kept_pairs" s_kept_pairs f fd) (T0 : Txt0 mg) {tM : Tok} (hc : mg "MOST_PLACES" = some (.int 40000 tM)) (DC : Df K mg "common_table" s_common_table ["one", "two"] fC fdC) : L2H.FnH P w K mg base CX0 2 f fd ["one", "two"] (spKeptH K) := by
  have GC : L2H.FnH P w K mg base CX0 1 fC fdC ["one", "two"] (spTab0 K) := ok_tableH DC.F T0 hc
  obtain ⟨oc, od, kV, doc, pm, an, cdv, ct, osl, rfl, lk, hcd⟩ := F.ex
  refine L2H.fn_ofH lk hcd sc_kept_pairs (fun vs H Q E h => ?_) (fun A outer s H vs Q E p hot hr h => ?_)
  · obtain ⟨a, b, ls, rfl, _⟩ := h
    rfl
  · obtain ⟨a, b, ls, rfl, hA, hB, hlen, k⟩ := h
    have hC : L2H.HotC (L2H.cxH CX0 P w K mg base ["one", "two", "same", "found", "table", "first", "second", "place"] "kept_pairs" (defScope s_kept_pairs) f cdv A outer s H E p) := ⟨p, hot, List.mem_singleton.mpr rfl⟩
    refine ⟨_, (pss_cons (ps_set (i := 2) sc_kept_pairs.nd rfl (Or.inl rfl) pe_int)
      (pss_cons (ps_while (passes_of rfl) (PW.pt (pw_and (pt_cmpR op_lt (pv 2) (pe_callB (call_min2H hC) (by rfl) T0.z_min (by decide +kernel) (pa_cons (pe_callB call_len_seq (by rfl) T0.z_len PySem.boot_len (pa_cons (pv 0) pa_nil)) (pa_cons (pe_callB call_len_seq (by rfl) T0.z_len PySem.boot_len (pa_cons (pv 1) pa_nil)) pa_nil))) (nomark _)) (pw_and1 (pt_cmpR op_eq (pe_ix ix_tup (pv 0) (pv 2) (fun _ _ => rfl)) (pe_ix ix_tup (pv 1) (pv 2) (fun _ _ => rfl)) (nomark _)))))
        (pss_one (ps_aug (i := 2) sc_kept_pairs.nd rfl (Or.inl rfl) pe_int ip_add)))
      (pss_cons (ps_setLcH (i := 3) (own := [("place", 7)]) (g := gName 7) (tt := tYes) hC sc_kept_pairs.nd rfl rfl (sw_true rfl rfl rfl (by decide +kernel)) (pi_range1R (by rfl) T0.z_range (pa_cons (pv 2) pa_nil)) (blkOk_by (own := [("place", 7)]) (N := ["one", "two", "same", "found", "table", "first", "second", "place"]) (sc := defScope s_kept_pairs) (by decide +kernel)) (fun _ _ _ _ _ => (pg_name (i := 7) sc_kept_pairs.nd rfl (Or.inl rfl))) (fun _ _ _ _ _ => pts_nil) (fun _ _ _ _ _ => (pe_tup (pa_cons (pv 7) (pa_cons (pv 7) pa_nil)))))
      (pss_cons (ps_set (i := 4) sc_kept_pairs.nd rfl (Or.inl rfl) (L2H.pe_callH GC hr hC rfl DC.m DC.F.kp DC.b (E := fun _ _ _ _ => False) pass0H (pa_cons (pe_slice sl_tupA (pv 0) (po_some (pv 2)) po_none) (pa_cons (pe_slice sl_tupA (pv 1) (po_some (pv 2)) po_none) pa_nil))))
      (pss_cons (ps_asg (pe_tup (pa_cons pe_int (pa_cons pe_int pa_nil))) (pg_tupH hC (pgs_cons (pg_name (i := 5) sc_kept_pairs.nd rfl (Or.inl rfl)) (pgs_cons (pg_name (i := 6) sc_kept_pairs.nd rfl (Or.inl rfl)) pgs_nil))))
      (pss_cons (ps_while (passes_of rfl) (pt_truth (pe_ix ix_list (pe_ix ix_list (pv 4) (pv 5) (fun _ _ => rfl)) (pv 6) (fun _ _ => rfl)) (by intro _; rfl)) pss_never)
      (pss_one (ps_ret (pe_callTy call_tuple_of (by rfl) T0.z_tuple (by decide +kernel) (pa_cons (pv 3) pa_nil)))))))))), ?_⟩
    refine seq_c ?_
    refine cut (fun σ' H' => σ' = [some (.ref a), some (.ref b), some (.int (ls.length : Int)), none, none, none, none, none] ∧ H' = H) (fun nx hn => ?_) ?_
    · refine ⟨fun m σ H' => ∃ (q : Nat), m = ls.length - q ∧ σ = [some (.ref a), some (.ref b), some (.int (q : Int)), none, none, none, none, none] ∧ H' = H ∧ q ≤ ls.length, ⟨_, 0, rfl, rfl, rfl, Nat.zero_le _⟩, ?_⟩
      rintro m σ H2 ⟨q, rfl, rfl, rfl, h1⟩
      have emin : (if (((ls.map V.str).length : Nat) : Int) < (((ls.map V.str).length : Nat) : Int) then (((ls.map V.str).length : Nat) : Int) else (((ls.map V.str).length : Nat) : Int)) = (ls.length : Int) := by
        rw [List.length_map]; split <;> rfl
      refine ⟨_, rfl, _, rfl, a, _, rfl, .inr hA, _, rfl, b, _, rfl, .inr hB, _, _, rfl, _, _, rfl, rfl, _, rfl, ?_⟩
      rw [emin]
      dsimp only
      refine ite2 (fun e => ?_) (fun e => ?_)
      · have e1 := of_decide_eq_true e
        have l1 : q < ls.length := by omega
        have n1 : ls[q]? = some ls[q] := List.getElem?_eq_getElem l1
        have m1 : (ls.map V.str)[q]? = some (V.str ls[q]) := by rw [List.getElem?_map, n1]; rfl
        refine ⟨_, rfl, _, rfl, a, _, _, _, rfl, rfl, hA, atI_nat m1, _, rfl, _, rfl, b, _, _, _, rfl, rfl, hB, atI_nat m1, rfl, _, rfl, ?_⟩
        refine ite2 (fun e => ?_) (fun e => absurd (decide_eq_true rfl) e)
        refine ⟨fun σ' H' => ∃ m', m' < ls.length - q ∧ ∃ (q : Nat), m' = ls.length - q ∧ σ' = [some (.ref a), some (.ref b), some (.int (q : Int)), none, none, none, none, none] ∧
            H' = H2 ∧ q ≤ ls.length, fun _ _ h => h, ?_⟩
        exact ⟨_, rfl, _, _, rfl, rfl, _, by omega, q + 1, rfl, rfl, rfl, l1⟩
      · have e1 : ¬ (q : Int) < (ls.length : Int) := fun z => e (decide_eq_true z)
        have : q = ls.length := by omega
        exact hn _ _ ⟨by rw [this], rfl⟩
    · rintro σ H2 ⟨rfl, rfl⟩
      refine ⟨_, rfl, _, rfl, by omega, by omega, fun fo hfo => ?_⟩
      refine lc_range (lo := 0) (n := ((ls.length : Nat) : Int).toNat) (fun i H' => ∃ ws, H' fo = some (.lst ws) ∧ DpAll K H' ws ((diag i).map pairD) ∧ Same H2 H') ⟨[], upd_same, .nil, same_new hfo⟩ ?_ ?_
      · rintro i H3 hi ⟨ws, hw, hd, s3⟩
        refine ⟨rfl, _, rfl, _, rfl, by show 2 ≤ sizeLine; decide, fun p hp => ?_⟩
        have hw4 : upd H3 p (.tup [.int (0 + (i : Nat)), .int (0 + (i : Nat))]) fo = some (.lst ws) := by rw [upd_ne (ne_of_none hw hp)]; exact hw
        have lw : ws.length < 2000 := by
          have := dpAll_len hd
          unfold diag at this
          simp at this
          have : ((ls.length : Nat) : Int).toNat = ls.length := rfl
          omega
        refine ⟨ws, hw4, Nat.lt_of_lt_of_le lw (by decide), ws ++ [.ref p], upd_same, ?_, ?_⟩
        · have tk : TK K H3 (upd (upd H3 p (.tup [.int (0 + (i : Nat)), .int (0 + (i : Nat))])) fo (.lst (ws ++ [.ref p]))) := (TK.new hp).trans (TK.lst hw4)
          have ed : diag (i + 1) = diag i ++ [(i, i)] := by
            unfold diag
            rw [List.range_succ, List.map_append]; rfl
          rw [ed, List.map_append]
          refine dpAll_app (pairs_keep tk hd) (dpAll_one (dp_pair ?_))
          refine TK.lst hw4 _ _ (.inl (.inl ?_))
          rw [upd_same, Int.zero_add]
        · exact same_mut (s3.trans (same_new hp)) hfo
      · rintro H3 ⟨ws, hw, hd, s3⟩
        have es : ((ls.length : Nat) : Int).toNat = ls.length := rfl
        rw [es] at hd
        dsimp only [gName]
        refine ⟨_, rfl, _, rfl, _, rfl, ?_⟩
        dsimp only [tNoPart]
        refine sl_linesFrom (s3.seqT hA) fun H4 p1 s34 hp1 => ?_
        refine ⟨_, rfl, _, rfl, _, rfl, ?_⟩
        dsimp only [tNoPart]
        refine sl_linesFrom ((s3.trans s34).seqT hB) fun H5 p2 s45 hp2 => ?_
        rw [List.drop_length] at hp1 hp2
        have s35 := s34.trans s45
        refine ⟨p1, p2, rfl, s45.seqT hp1, hp2, fun H6 t r s56 ht hr' => ?_⟩
        have s36 := s35.trans s56
        refine ⟨by show 2 ≤ sizeLine; decide, fun pz hpz => ?_⟩
        have sz := same_new (o := .tup [.int 0, .int 0]) hpz
        refine ⟨pz, _, rfl, .inl (.inl upd_same), rfl, _, _, rfl, _, _, rfl, rfl, ?_⟩
        have s37 := s36.trans sz
        refine ⟨fun m σ H' => σ = [some (.ref a), some (.ref b), some (.int (ls.length : Int)), some (.ref fo), some (.ref t), some (.int 0), some (.int 0), none] ∧ H' = upd H6 pz (.tup [.int 0, .int 0]), ⟨0, rfl, rfl⟩, ?_⟩
        rintro m σ H8 ⟨rfl, rfl⟩
        refine ⟨_, rfl, _, rfl, t, _, _, _, rfl, rfl, SqL.of (sz _ _ ht), atI_nat (j := 0) rfl, _, rfl, r, _, _, _, rfl, rfl, SqL.of (sz _ _ hr'), atI_nat (j := 0) rfl, false, rfl, ?_⟩
        refine ite2 (fun e => absurd e Bool.false_ne_true) (fun _ => ?_)
        refine ⟨_, rfl, fo, _, rfl, .inl ⟨SqL.of (s37 _ _ hw), fun l hl2 => ?_⟩⟩
        refine k _ _ (s3.trans (s37.trans (same_new hl2))) ?_
        exact .tup (.inl (.inl upd_same)) (pairs_keep (TK.same (s37.trans (same_new hl2))) hd)
end
end VK
end

section
set_option Elab.async false
set_option linter.all false
set_option pp.maxSteps 1500
set_option maxRecDepth 100000
set_option maxHeartbeats 4000000
namespace VK
open PySem L2
/-! data that Python's == compares: fit -/
def OkD (n : Nat) (d : PyData) : Prop := d.canLay0 = true ∧ d.depth ≤ n
theorem OkD.shaped {n : Nat} {d : PyData} (h : OkD n d) (hn : n ≤ 64) : SeqAt.shaped d = true := by
  show (d.canLay0 && decide (d.depth ≤ 64)) = true
  rw [h.1, Bool.true_and]
  exact decide_eq_true (Nat.le_trans h.2 hn)
theorem okD_map {α : Type} {f : α → PyData} {n : Nat} : ∀ {l : List α}, (∀ x ∈ l, OkD n (f x)) → PyData.canLayAll0 (l.map f) = true ∧ PyData.depthAll (l.map f) ≤ n
  | [], _ => ⟨rfl, by simp [PyData.depthAll]⟩
  | x :: l, h => by
    obtain ⟨h1, h2⟩ := okD_map (l := l) fun y hy => h y (List.mem_cons_of_mem _ hy)
    obtain ⟨h3, h4⟩ := h x (List.mem_cons_self ..)
    refine ⟨?_, ?_⟩
    · show ((f x).canLay0 && PyData.canLayAll0 (l.map f)) = true
      rw [h3, h1]; rfl
    · simp only [List.map_cons, PyData.depthAll]
      omega
theorem okD_tup {α : Type} {f : α → PyData} {n : Nat} {l : List α} (h : ∀ x ∈ l, OkD n (f x)) : OkD (n + 1) (.tuple (l.map f)) := by
  obtain ⟨h1, h2⟩ := okD_map h
  refine ⟨h1, ?_⟩
  simp only [PyData.depth]
  omega
theorem okD_int (i : Int) : OkD 0 (.int i) := ⟨rfl, by simp [PyData.depth]⟩
theorem okD_str {x : Str} (h : PyData.strOk x = true) : OkD 0 (.str x) := ⟨h, by simp [PyData.depth]⟩
theorem okD_three {n : Nat} {a b c : PyData} (ha : OkD n a) (hb : OkD n b) (hc : OkD n c) : OkD (n + 1) (.tuple [a, b, c]) := by
  refine ⟨?_, ?_⟩
  · show (a.canLay0 && (b.canLay0 && (c.canLay0 && true))) = true
    rw [ha.1, hb.1, hc.1]; rfl
  · simp only [PyData.depth, PyData.depthAll]
    have := ha.2
    have := hb.2
    have := hc.2
    omega
theorem okD_two {n : Nat} {a b : PyData} (ha : OkD n a) (hb : OkD n b) : OkD (n + 1) (.tuple [a, b]) := by
  refine ⟨?_, ?_⟩
  · show (a.canLay0 && (b.canLay0 && true)) = true
    rw [ha.1, hb.1]; rfl
  · simp only [PyData.depth, PyData.depthAll]
    have := ha.2
    have := hb.2
    omega
theorem okD_mono {n m : Nat} {d : PyData} (h : OkD n d) (e : n ≤ m) : OkD m d := ⟨h.1, Nat.le_trans h.2 e⟩
theorem okD_pairs (ps : List (Nat × Nat)) : OkD 2 (pairsD ps) := okD_tup fun p _ => okD_two (okD_int _) (okD_int _)
theorem okD_ips (ps : List (Int × Int)) : OkD 2 (.tuple (ps.map ipD)) := okD_tup fun p _ => okD_two (okD_int _) (okD_int _)
theorem okD_lines {ls : List Str} (h : ∀ x ∈ ls, PyData.strOk x = true) : OkD 1 (linesD ls) := okD_tup fun x hx => okD_str (h x hx)
theorem okD_hunks {hs : List Hunk} (h : ∀ x ∈ hs, (∀ y ∈ x.gone, PyData.strOk y = true) ∧ ∀ y ∈ x.come, PyData.strOk y = true) : OkD 3 (hunksD hs) :=
  okD_tup fun x hx => okD_three (okD_mono (okD_int _) (Nat.zero_le _)) (okD_lines (h x hx).1) (okD_lines (h x hx).2)
theorem ne_same {K : PySem.W.Frag} {H : Hp} {x y : V} {n : Nat} {d : PyData} {Q : VK} (h1 : Dp K H x d) (h2 : Dp K H y d) (ok : OkD n d) (hn : n ≤ 64) (q : Q (.bl false) H) : rNeD K x y H Q := by
  refine ⟨d, d, h1, h2, ok.shaped hn, ok.shaped hn, ?_⟩
  rw [SeqAt.eqv_refl d ok.1]
  exact q
theorem eq_same {K : PySem.W.Frag} {H : Hp} {x y : V} {n : Nat} {d : PyData} {Q : VK} (h1 : Dp K H x d) (h2 : Dp K H y d) (ok : OkD n d) (hn : n ≤ 64) (q : Q (.bl true) H) : rEqD K x y H Q := by
  refine ⟨d, d, h1, h2, ok.shaped hn, ok.shaped hn, ?_⟩
  rw [SeqAt.eqv_refl d ok.1]
  exact q
/-- the changes' lines are lines of the two rows -/
theorem cutL_sub {α : Type} {xs : List α} {i h : Nat} {x : α} (hx : x ∈ cutL xs i h) : x ∈ xs := List.mem_of_mem_drop (List.mem_of_mem_take hx)
theorem hunksF_sub {one two : List Str} : ∀ {r : List (Nat × Nat)} {i j : Nat} {h : Hunk}, h ∈ hunksF one two i j r → (∀ y ∈ h.gone, y ∈ one) ∧ ∀ y ∈ h.come, y ∈ two
  | [], _, _, _, hm => nomatch hm
  | (a, b) :: r, i, j, h, hm => by
    rw [hunksF] at hm
    rcases List.mem_append.mp hm with hm | hm
    · split at hm
      · rw [List.mem_singleton.mp hm]
        exact ⟨fun y hy => cutL_sub hy, fun y hy => cutL_sub hy⟩
      · cases hm
    · exact hunksF_sub hm
/-! the law's heaps -/
theorem StAt.tk {K : PySem.W.Frag} {H H' : Hp} {st sc : Addr} {ns : List Int} (h : StAt K H st sc ns) (s : Sv st H H') : TK K H H' := fun a xs q => by
  obtain ⟨s0, p, s3, e, _⟩ := h.at_
  rcases q with q | q
  · have n : a ≠ st := by
      rintro rfl
      rcases q with q | ⟨o, q⟩
      · rw [e] at q; cases q
      · rw [e] at q; cases q
    exact .inl (s.rd q n)
  · exact .inr q
end VK
end

section
set_option autoImplicit true
set_option linter.all false
namespace VK
open PySem L2 Bits _root_.TL
theorem join0_tl : ∀ ls : List Str, tl (Txt.join "" ls) = (ls.map tl).flatten
  | [] => rfl
  | [x] => by rw [join_eq, tl_join]; show tl x = _; simp
  | x :: z :: r => by
    have ih := join0_tl (z :: r)
    rw [join_eq, tl_join] at ih ⊢
    show tl x ++ (tl "" ++ joinL (tl "") ((z :: r).map tl)) = _
    rw [ih]; rfl
/-- lines and a tail, joined by ends -/
theorem joinL_cs (p : List Nat) (r : List (List Nat)) : ∀ cs : List Nat, joinL [10] (cs.map (fun c => [c]) ++ p :: r) = (cs.map fun c => [c, 10]).flatten ++ joinL [10] (p :: r)
  | [] => rfl
  | [c] => rfl
  | c :: d :: cs => by
    have ih := joinL_cs p r (d :: cs)
    show [c] ++ ([10] ++ joinL [10] ((d :: cs).map (fun c => [c]) ++ p :: r)) = _
    rw [ih]; rfl
theorem linesN_cs (t : List Nat) : ∀ cs : List Nat, (∀ c ∈ cs, c ≠ 10) → linesN [] ((cs.map fun c => [c, 10]).flatten ++ t) = (cs.map fun c => [c, 10]) ++ linesN [] t
  | [], _ => rfl
  | c :: cs, h => by
    have ih := linesN_cs t cs fun d hd => h d (List.mem_cons_of_mem _ hd)
    have hc := h c (List.mem_cons_self ..)
    show linesN [] (c :: 10 :: ((cs.map fun c => [c, 10]).flatten ++ t)) = _
    rw [linesN, if_neg hc, linesN, if_pos rfl, ih]; rfl
theorem lns_cs : ∀ {ls : List Str}, Lns ls → ∃ cs : List Nat, ls = cs.map (fun c => mkS [c, 10]) ∧ ∀ c ∈ cs, c ≠ 10 ∧ c < 256
  | [], _ => ⟨[], rfl, fun _ h => nomatch h⟩
  | x :: r, h => by
    obtain ⟨cs, e, hc⟩ := lns_cs (ls := r) fun y hy => h y (List.mem_cons_of_mem _ hy)
    obtain ⟨c, h1, h2, h3⟩ := h x (List.mem_cons_self ..)
    refine ⟨c :: cs, ?_, fun d hd => ?_⟩
    · rw [List.map_cons, ← e]
      exact congrArg (· :: r) (ext_tl h3)
    · rcases List.mem_cons.mp hd with rfl | hd
      · exact ⟨h1, h2⟩
      · exact hc d hd
theorem cut_parts {cs : List Nat} (hc : ∀ c ∈ cs, c ≠ 10 ∧ c < 256) {tp : List Str} {e : Str} (ne : tp ≠ []) (nt : ∀ p ∈ tp, 10 ∉ tl p) (et : joinL [10] (tp.map tl) = tl e) :
    Txt.split (Txt.join "" (cs.map fun c => mkS [c, 10]) ++ e) "\n" = cs.map (fun c => mkS [c]) ++ tp := by
  have ez : Txt.join "" (cs.map fun c => mkS [c, 10]) ++ e = Txt.join "\n" (cs.map (fun c => mkS [c]) ++ tp) := by
    refine ext_tl ?_
    rw [tl_append, join0_tl, join_eq, tl_join, List.map_append, List.map_map, List.map_map]
    obtain ⟨p, r, rfl⟩ : ∃ p r, tp = p :: r := by
      cases tp with
      | nil => exact absurd rfl ne
      | cons p r => exact ⟨p, r, rfl⟩
    have := joinL_cs (tl p) (r.map tl) cs
    rw [List.map_cons] at et
    rw [et] at this
    exact this.symm
  rw [ez]
  refine split_join (s := 10) (S := []) rfl (by decide +kernel) (by simp [ne]) fun p hp => ?_
  rcases List.mem_append.mp hp with hp | hp
  · obtain ⟨c, h1, rfl⟩ := List.mem_map.mp hp
    show 10 ∉ [c]
    intro h
    exact (hc c h1).1 (List.mem_singleton.mp h).symm
  · exact nt p hp
theorem in_cs : ∀ c : Nat, c < 256 → c ≠ 10 → pbIn ("\n" : Str) (.str (mkS [c, 10])) = false := by decide +kernel
theorem isl_of {R : List V} (h1 : ∀ x ∈ R, pbSI x = true) (h2 : ∀ x ∈ R, pbIn ("\n" : Str) x = false) (h3 : ∀ x ∈ R.dropLast, pbLast ("\n" : Str) x = true) : islB R = true := by
  have e1 : R.all pbSI = true := List.all_eq_true.mpr h1
  have e2 : R.any (pbIn ("\n" : Str)) = false := List.any_eq_false.mpr fun x hx => by rw [h2 x hx]; decide
  have e3 : R.dropLast.all (pbLast ("\n" : Str)) = true := List.all_eq_true.mpr h3
  unfold islB
  rw [e1, e2, e3]; rfl
theorem islB_cs {cs : List Nat} (hc : ∀ c ∈ cs, c ≠ 10 ∧ c < 256) {tail : List Str} (ht : tail = [] ∨ tail = [("x" : Str)] ∨ tail = [("\n" : Str)]) : islB ((cs.map (fun c => mkS [c, 10]) ++ tail).map V.str) = true := by
  have a1 : ∀ x ∈ (cs.map (fun c => mkS [c, 10]) ++ tail).map V.str, (∃ c ∈ cs, x = .str (mkS [c, 10])) ∨ (x = .str "x" ∧ tail = [("x" : Str)]) ∨ x = .str "\n" := fun x hx => by
    obtain ⟨y, hy, rfl⟩ := List.mem_map.mp hx
    rcases List.mem_append.mp hy with hy | hy
    · obtain ⟨c, h1, rfl⟩ := List.mem_map.mp hy
      exact .inl ⟨c, h1, rfl⟩
    · rcases ht with rfl | rfl | rfl
      · cases hy
      · rw [List.mem_singleton.mp hy]; exact .inr (.inl ⟨rfl, rfl⟩)
      · rw [List.mem_singleton.mp hy]; exact .inr (.inr rfl)
  refine isl_of (fun x hx => ?_) (fun x hx => ?_) (fun x hx => ?_)
  · rcases a1 x hx with ⟨c, h1, rfl⟩ | ⟨rfl, _⟩ | rfl
    · rfl
    · decide +kernel
    · decide +kernel
  · rcases a1 x hx with ⟨c, h1, rfl⟩ | ⟨rfl, _⟩ | rfl
    · exact in_cs c (hc c h1).2 (hc c h1).1
    · decide +kernel
    · decide +kernel
  · by_cases et : tail = [("x" : Str)]
    · subst et
      rw [List.map_append, List.map_cons, List.map_nil, List.dropLast_concat] at hx
      obtain ⟨y, hy, rfl⟩ := List.mem_map.mp hx
      obtain ⟨c, h1, rfl⟩ := List.mem_map.mp hy
      rfl
    · rcases a1 x (List.dropLast_subset _ hx) with ⟨c, h1, rfl⟩ | ⟨_, e⟩ | rfl
      · rfl
      · exact absurd e et
      · decide +kernel
theorem text_core {cs : List Nat} (hc : ∀ c ∈ cs, c ≠ 10 ∧ c < 256) {tail : List Str} (ht : tail = [] ∨ tail = [("x" : Str)] ∨ tail = [("\n" : Str)]) {e : Str} (ee : (tail.map tl).flatten = tl e) (el : linesN [] (tl e) = tail.map tl) {R : List Str} (eR : R = cs.map (fun c => mkS [c, 10]) ++ tail) :
    R = (linesN [] (Txt.join "" (cs.map fun c => mkS [c, 10]) ++ e).cps.toList).map mkS ∧ Txt.join "" R = Txt.join "" (cs.map fun c => mkS [c, 10]) ++ e ∧ islB (R.map V.str) = true ∧ ∀ x ∈ R, PyData.strOk x = true ∧ x.length ≤ 10 := by
  subst eR
  have em : (cs.map fun c => mkS [c, 10]).map tl = cs.map fun c => [c, 10] := by rw [List.map_map]; rfl
  refine ⟨?_, ?_, islB_cs hc ht, fun x hx => ?_⟩
  · have : (Txt.join "" (cs.map fun c => mkS [c, 10]) ++ e).cps.toList = (cs.map fun c => [c, 10]).flatten ++ tl e := by
      show tl _ = _
      rw [tl_append, join0_tl, em]
    rw [this, linesN_cs _ _ fun c h => (hc c h).1, el, List.map_append, List.map_map, List.map_map]
    have : ∀ l : List Str, l = l.map (mkS ∘ tl) := fun l => by
      induction l with
      | nil => rfl
      | cons a r ih => rw [List.map_cons, ← ih]; exact congrArg (· :: r) (mk_tl a).symm
    exact congrArg (fun t => cs.map (fun c => mkS [c, 10]) ++ t) (this tail)
  · refine ext_tl ?_
    rw [join0_tl, tl_append, join0_tl, List.map_append, List.flatten_append, ee]
  · rcases List.mem_append.mp hx with hx | hx
    · obtain ⟨c, h1, rfl⟩ := List.mem_map.mp hx
      have := (hc c h1).2
      refine ⟨?_, by show 2 ≤ 10; decide⟩
      show (#[c, 10] : Array Nat).all (· < 0x110000) = true
      rw [← Array.all_toList]
      show (decide (c < 0x110000) && true) = true
      rw [decide_eq_true (show c < 0x110000 by omega)]; rfl
    · rcases ht with rfl | rfl | rfl
      · cases hx
      · rw [List.mem_singleton.mp hx]; decide +kernel
      · rw [List.mem_singleton.mp hx]; decide +kernel
theorem len_app (x y : Str) : (x ++ y).length = x.length + y.length := Array.size_append
theorem add_end (cs : List Nat) : (cs.map fun c => mkS [c]).map (· ++ ("\n" : Str)) = cs.map fun c => mkS [c, 10] := by
  rw [List.map_map]
  exact List.map_congr_left fun c _ => ext_tl (by show tl (mkS [c] ++ "\n") = _; rw [tl_append]; rfl)
theorem len_fl : ∀ cs : List Nat, (cs.map fun c => [c, 10]).flatten.length = 2 * cs.length
  | [] => rfl
  | c :: cs => by
    have := len_fl cs
    show (cs.map fun c => [c, 10]).flatten.length + 1 + 1 = 2 * (cs.length + 1)
    omega
/-- a text of lines, and what is behind them, cut at its ends -/
theorem text_cut {ls : List Str} {e : Str} (h : Lns ls) (l : ls.length ≤ 12) (he : e = "" ∨ e = "x" ∨ e = "\n") : ∃ (qs : List Str) (y : Str), Txt.split (Txt.join "" ls ++ e) "\n" = qs ++ [y] ∧ qs.length ≤ 20 ∧ (∀ x ∈ qs, x.length ≤ 2) ∧ y.length ≤ 2 ∧ (Txt.join "" ls ++ e).length ≤ 30 ∧
    qs.map (· ++ ("\n" : Str)) ++ (if 0 < y.length then [y] else []) = (linesN [] (Txt.join "" ls ++ e).cps.toList).map mkS ∧ Txt.join "" (qs.map (· ++ ("\n" : Str)) ++ (if 0 < y.length then [y] else [])) = Txt.join "" ls ++ e ∧
    islB ((qs.map (· ++ ("\n" : Str)) ++ (if 0 < y.length then [y] else [])).map V.str) = true ∧ (∀ x ∈ (qs.map (· ++ ("\n" : Str)) ++ (if 0 < y.length then [y] else [])), PyData.strOk x = true ∧ x.length ≤ 10) := by
  obtain ⟨cs, rfl, hc⟩ := lns_cs h
  rw [List.length_map] at l
  have em : (cs.map fun c => mkS [c, 10]).map tl = cs.map fun c => [c, 10] := by rw [List.map_map]; rfl
  have lz : ∀ e : Str, e.length ≤ 2 → (Txt.join "" (cs.map fun c => mkS [c, 10]) ++ e).length ≤ 30 := fun e q => by
    rw [len_app, len_tl (Txt.join _ _), join0_tl, em, len_fl]
    omega
  have sh : ∀ x ∈ cs.map (fun c => mkS [c]), x.length ≤ 2 := fun x hx => by
    obtain ⟨c, _, rfl⟩ := List.mem_map.mp hx
    show 1 ≤ 2
    decide
  rcases he with rfl | rfl | rfl
  · refine ⟨cs.map (fun c => mkS [c]), "", cut_parts hc (tp := [""]) (by simp) (by decide +kernel) rfl, by rw [List.length_map]; omega, sh, by decide, lz _ (by decide), ?_⟩
    exact text_core hc (.inl rfl) rfl rfl (by rw [add_end]; rfl)
  · refine ⟨cs.map (fun c => mkS [c]), "x", cut_parts hc (tp := ["x"]) (by simp) (by decide +kernel) rfl, by rw [List.length_map]; omega, sh, by decide, lz _ (by decide), ?_⟩
    exact text_core hc (.inr (.inl rfl)) rfl rfl (by rw [add_end]; rfl)
  · refine ⟨cs.map (fun c => mkS [c]) ++ [("" : Str)], "", ?_, by rw [List.length_append, List.length_map]; show cs.length + 1 ≤ 20; omega, ?_, by decide, lz _ (by decide), ?_⟩
    · rw [List.append_assoc]
      exact cut_parts hc (tp := ["", ""]) (by simp) (by decide +kernel) rfl
    · intro x hx
      rcases List.mem_append.mp hx with hx | hx
      · exact sh x hx
      · rw [List.mem_singleton.mp hx]; decide
    · exact text_core hc (.inr (.inr rfl)) rfl rfl (by rw [List.map_append, add_end, List.append_assoc]; rfl)
end VK
end

section
set_option Elab.async false
set_option linter.all false
set_option pp.maxSteps 1500
set_option maxRecDepth 100000
set_option maxHeartbeats 8000000
namespace VK
open PySem L2
abbrev s_law : Stmt := topS 24
abbrev Nlaw : List Str := ["script", "state", "one", "two", "best", "pairs", "hunks", "around", "text", "parts", "rows", "part", "k"]
theorem sc_law : FnScope ["script", "state", "one", "two", "best", "pairs", "hunks", "around", "text", "parts", "rows", "part", "k"] ["script"] (defScope s_law) := ⟨rfl, rfl, rfl, by decide +kernel, rfl, by decide +kernel, by decide +kernel⟩
def rTupOf (K : PySem.W.Frag) : List V → Hp → VK → Prop := fun xs H Q => ∃ p ys, xs = [.ref p] ∧ ((SqL K H p ys ∧ ∀ l, H l = none → Q (.ref l) (upd H l (.tup ys))) ∨ (SqT K H p ys ∧ Q (.ref p) H))
/-- the suite: kept_pairs(('a\n',) * 201, ('a\n',) * 201) == tuple([(k, k) for k in range(201)]) -/
def tSuite (K : PySem.W.Frag) : Addr → Value → Option Addr → TS := fun _ _ _ => tRet (tOp (rEqD K)
  (tCallS (spKeptH K) (fun _ _ _ _ => False) (tCons (tOp (rRepT K) (tTup (tCons (tC (.str "a\n")) tNil)) (tC (.int 201))) (tCons (tOp (rRepT K) (tTup (tCons (tC (.str "a\n")) tNil)) (tC (.int 201))) tNil)))
  (tCB (rTupOf K) (tCons (tLc (iRng1 (tCons (tC (.int 201)) tNil)) (gName 12) tYes (tTup (tCons (tVar 12) (tCons (tVar 12) tNil))) [12]) tNil)))
theorem lns_app {xs ys : List Str} (h1 : Lns xs) (h2 : Lns ys) : Lns (xs ++ ys) := fun x hx => by
  rcases List.mem_append.mp hx with hx | hx
  · exact h1 x hx
  · exact h2 x hx
theorem lns_sum : ∀ {ls : List Str}, Lns ls → (ls.map (·.length)).sum ≤ 2 * ls.length
  | [], _ => Nat.le_refl _
  | x :: r, h => by
    have q1 := lns_sum (ls := r) fun y hy => h y (List.mem_cons_of_mem _ hy)
    obtain ⟨c, _, _, h3⟩ := h x (List.mem_cons_self ..)
    have q2 : x.length = 2 := by
      show x.cps.size = 2
      rw [← Array.length_toList, h3]; rfl
    rw [List.map_cons, List.sum_cons, List.length_cons, q2]
    omega
theorem cutE {Q : VK} {F : VK → Prop} (R : V → Hp → Prop) (h : ∀ Q' : VK, (∀ v H', R v H' → Q' v H') → F Q') (k : ∀ v H', R v H' → Q v H') : F Q := h Q k
theorem sum_ten : ∀ {ls : List Str}, (∀ x ∈ ls, x.length ≤ 10) → (ls.map (·.length)).sum ≤ 10 * ls.length
  | [], _ => Nat.le_refl _
  | x :: r, h => by
    have q1 := sum_ten (ls := r) fun y hy => h y (List.mem_cons_of_mem _ hy)
    have q2 := h x (List.mem_cons_self ..)
    rw [List.map_cons, List.sum_cons, List.length_cons]
    omega
theorem StAt.tab {K : PySem.W.Frag} {H H' : Hp} {st sc Pt : Addr} {ns : List Int} (h : StAt K H st sc ns) (t : GxR.TabG H Pt) (s : Sv Pt H H') : StAt K H' st sc ns := by
  obtain ⟨s0, p, s3, e, hp⟩ := h.at_
  obtain ⟨ps, et, _⟩ := t
  have n1 : st ≠ Pt := by
    rintro rfl
    rw [e] at et
    cases et
  have n2 : sc ≠ Pt := by
    rintro rfl
    rw [h.hsc] at et
    cases et
  exact ⟨⟨s0, p, s3, s _ _ n1 e, hp⟩, s _ _ n2 h.hsc, h.ne⟩
theorem items_strs {ls : List Str} (h : ∀ x ∈ ls, x.length ≤ 10) : ∀ x ∈ ls.map V.str, ItemSI x := fun x hx => by
  obtain ⟨y, hy, rfl⟩ := List.mem_map.mp hx
  exact .inl ⟨y, rfl, Nat.le_trans (h y hy) (by decide)⟩
theorem ln_ok {x : Str} (h : Ln x) : PyData.strOk x = true := by
  obtain ⟨c, _, h2, h3⟩ := h
  show x.cps.all (· < 0x110000) = true
  rw [← Array.all_toList, h3]
  simp
  omega
theorem tab_same {H H' : Hp} {Pt : Addr} (t : GxR.TabG H Pt) (s : Same H H') : GxR.TabG H' Pt := by
  obtain ⟨ps, e, ok⟩ := t
  exact ⟨ps, s _ _ e, ok⟩
theorem tab_sv {K : PySem.W.Frag} {H H' : Hp} {Pt st sc : Addr} {ns : List Int} (t : GxR.TabG H Pt) (h : StAt K H st sc ns) (s : Sv st H H') : GxR.TabG H' Pt := by
  obtain ⟨ps, e, ok⟩ := t
  obtain ⟨s0, p, s3, e2, _⟩ := h.at_
  refine ⟨ps, s _ _ (fun z => ?_) e, ok⟩
  rw [z, e2] at e
  cases e
structure Txt1 (mg : Str → Option Value) : Prop where
  z_isinstance : mg "isinstance" = none
  z_str : mg "str" = none
  z_all : mg "all" = none
  z_any : mg "any" = none
/-- a def with its code object -/
structure DfC (K : PySem.W.Frag) (mg : Str → Option Value) (nm : Str) (st : Stmt) (ps : List Str) (f c : Addr) (fd : FuncData) : Prop where
  F : FunC K nm nm st f c fd
  m : mg nm = some (.ref f)
  b : Binds K fd ps []
def spLaw (K : PySem.W.Frag) (Pt : Addr) : Sp := fun vs H Q _ => ∃ (a : Addr) (ns : List Int), vs = [.ref a] ∧ SqL K H a (ns.map V.int) ∧ GxR.TabG H Pt ∧ ∀ H', Q (.bl true) H'
section
variable {P : Program} {w : World} {K : PySem.W.Frag} {mg : Str → Option Value} {base : Heap}
theorem ok_law {f C c Pt fDr fLi fTa fPa fHu fAp fBe fLc fK fHo fFa fLk fCo fLo fTx fIs fCt fN : Addr} {fd dDr dLi dTa dPa dHu dAp dBe dLc dK dHo dFa dLk dCo dLo dTx dIs dCt dN : FuncData}
    (F : Fun K "law" "law" s_law f fd) (T0 : Txt0 mg) (T1 : Txt1 mg) (L : TL K mg C) {tM : Tok} (hc : mg "MOST_PLACES" = some (.int 40000 tM)) (he : PySem.W.exmOne K (.ref C) (.ref C) = some true) (TB : GxR.TabB base mg c Pt)
    (Dd : Df K mg "_law_draw" s__law_draw ["state", "limit"] fDr dDr) (Dl : Df K mg "_law_lines" s__law_lines ["state", "many"] fLi dLi) (Dt : Df K mg "_law_table" s__law_table ["one", "two"] fTa dTa) (Dp : Df K mg "_law_pairs" s__law_pairs ["one", "two"] fPa dPa)
    (Dh : Df K mg "_law_hunks" s__law_hunks ["one", "two"] fHu dHu) (Da : Df K mg "_law_apply" s__law_apply ["lines", "patch"] fAp dAp) (Db : Df K mg "_law_best" s__law_best ["one", "two"] fBe dBe) (Dx : Df K mg "_law_context" s__law_context ["one", "hunks", "around"] fLc dLc)
    (Dk : Df K mg "kept_pairs" s_kept_pairs ["one", "two"] fK dK) (Dho : Df K mg "hunks_of" s_hunks_of ["one", "two"] fHo dHo) (Df_ : Df K mg "far" s_far ["one", "two"] fFa dFa) (Dli : Df K mg "likeness" s_likeness ["one", "two"] fLk dLk)
    (Dco : Df K mg "context_of" s_context_of ["one", "hunks", "around"] fCo dCo) (Dlo : Df K mg "lines_of" s_lines_of ["text"] fLo dLo) (Dtx : Df K mg "text_from" s_text_from ["lines"] fTx dTx) (Dil : DfC K mg "is_lines" s_is_lines ["value"] fIs c dIs)
    (Dct : Df K mg "common_table" s_common_table ["one", "two"] fCt dCt) (Dn : Df K mg "next_pair" s_next_pair ["one", "two", "table", "place"] fN dN) : FnOk P w K mg base CX0 4 f fd ["script"] (spLaw K Pt) := by
  have GDr : FnOk P w K mg base CX0 1 fDr dDr ["state", "limit"] (spDraw K) := ok_draw Dd.F T0
  have GLi : FnOk P w K mg base CX0 2 fLi dLi ["state", "many"] (spLines K) := ok_lines Dl.F T0 Dd
  have GPa : FnOk P w K mg base CX0 2 fPa dPa ["one", "two"] (spLPairs K) := ok_lpairs Dp.F T0 Dt
  have GHu : FnOk P w K mg base CX0 3 fHu dHu ["one", "two"] (spLHunks K) := ok_lhunks Dh.F T0 Dt Dp
  have GAp : FnOk P w K mg base CX0 1 fAp dAp ["lines", "patch"] (spApply K) := ok_apply Da.F T0
  have GBe : FnOk P w K mg base CX0 2 fBe dBe ["one", "two"] (spBest K) := ok_best Db.F T0
  have GLc : FnOk P w K mg base CX0 1 fLc dLc ["one", "hunks", "around"] (spCtx K) := ok_lctx Dx.F T0
  have GCo : FnOk P w K mg base CX0 1 fCo dCo ["one", "hunks", "around"] (spCtx K) := ok_ctx Dco.F T0
  have GK : FnOk P w K mg base (L2N.CX P w) 2 fK dK ["one", "two"] (spKept K C) := ok_kept Dk.F T0 L hc Dct Dn
  have GKH : L2H.FnH P w K mg base CX0 2 fK dK ["one", "two"] (spKeptH K) := ok_keptH Dk.F T0 hc Dct
  have GHo : FnOk P w K mg base CX0 3 fHo dHo ["one", "two"] (spHunksOf K) := ok_hunks Dho.F T0 L hc Dct Dn Dk
  have GFa : FnOk P w K mg base CX0 2 fFa dFa ["one", "two"] (spFar K) := ok_far Df_.F T0 L hc Dct
  have GLk : FnOk P w K mg base CX0 2 fLk dLk ["one", "two"] (spLike K) := ok_like Dli.F T0 L hc Dct
  have GLo : FnOk P w K mg base CX0 1 fLo dLo ["text"] (spLinesOf K) := ok_lines_of Dlo.F T0
  have GTx : FnOk P w K mg base CX0 1 fTx dTx ["lines"] (spText K) := ok_text Dtx.F
  have GIs : FnOk P w K mg base CX0 3 fIs dIs ["value"] (spIsl K Pt) := ok_isl Dil.F TB T1.z_isinstance T1.z_str T0.z_tuple T1.z_all T1.z_any
  obtain ⟨oc, od, kV, doc, pm, an, cdv, ct, osl, rfl, lk, hcd⟩ := F.ex
  refine fn_of lk hcd sc_law (fun vs H Q E h => ?_) (fun A outer s H vs Q E hr h => ?_)
  · obtain ⟨a, ns, rfl, _⟩ := h
    rfl
  · obtain ⟨a, ns, rfl, hA, tab, k⟩ := h
    have hu := Nat.lt_of_le_of_lt (Nat.add_le_add (Nat.le_add_right _ _) (by decide : 64 ≤ 200)) hr.un
    refine ⟨_, (pss_cons (ps_set (i := 1) sc_law.nd rfl (Or.inl rfl) (pe_lst (pa_cons pe_int (pa_cons pe_int (pa_cons (pe_callTy call_list_of (by rfl) T0.z_list (by decide +kernel) (pa_cons (pv 0) pa_nil)) (pa_cons pe_int pa_nil))))))
      (pss_cons (ps_set (i := 2) sc_law.nd rfl (Or.inl rfl) (pe_call GLi (hr.mono (by decide)) rfl Dl.m Dl.F.kp Dl.b .nil pass0 (pa_cons (pv 1) (pa_cons pe_int pa_nil))))
      (pss_cons (ps_set (i := 3) sc_law.nd rfl (Or.inl rfl) (pe_call GLi (hr.mono (by decide)) rfl Dl.m Dl.F.kp Dl.b .nil pass0 (pa_cons (pv 1) (pa_cons pe_int pa_nil))))
      (pss_cons (ps_set (i := 4) sc_law.nd rfl (Or.inl rfl) (pe_call GBe (hr.mono (by decide)) rfl Db.m Db.F.kp Db.b .nil pass0 (pa_cons (pv 2) (pa_cons (pv 3) pa_nil))))
      (pss_cons (ps_if (PW.pt (pw_or (pt_cmpR (op_neD hu) (pe_call GK (hr.mono (by decide)) rfl Dk.m Dk.F.kp Dk.b .nil pass_no (pa_cons (pv 2) (pa_cons (pv 3) pa_nil))) (pv 4) (nomark _)) (pw_or1 (pt_cmpR (op_neD hu) (pe_callTy call_tuple_of (by rfl) T0.z_tuple (by decide +kernel) (pa_cons (pe_call GPa (hr.mono (by decide)) rfl Dp.m Dp.F.kp Dp.b .nil pass0 (pa_cons (pv 2) (pa_cons (pv 3) pa_nil))) pa_nil)) (pv 4) (nomark _)))))
        (pss_one (ps_ret pe_bl))
        pss_nil)
      (pss_cons (ps_set (i := 2) sc_law.nd rfl (Or.inl rfl) (pe_op op_catA (pv 2) (pe_call GLi (hr.mono (by decide)) rfl Dl.m Dl.F.kp Dl.b .nil pass0 (pa_cons (pv 1) (pa_cons pe_int pa_nil)))))
      (pss_cons (ps_set (i := 3) sc_law.nd rfl (Or.inl rfl) (pe_op op_catA (pv 3) (pe_call GLi (hr.mono (by decide)) rfl Dl.m Dl.F.kp Dl.b .nil pass0 (pa_cons (pv 1) (pa_cons pe_int pa_nil)))))
      (pss_cons (ps_if (pt_cmpR op_eq (pe_call GDr (hr.mono (by decide)) rfl Dd.m Dd.F.kp Dd.b .nil pass0 (pa_cons (pv 1) (pa_cons pe_int pa_nil))) pe_int (nomark _))
        (pss_one (ps_set (i := 3) sc_law.nd rfl (Or.inl rfl) (pe_op op_catA (pe_op op_catA (pe_slice sl_tupA (pv 2) po_none (po_some (pe_call GDr (hr.mono (by decide)) rfl Dd.m Dd.F.kp Dd.b .nil pass0 (pa_cons (pv 1) (pa_cons (pe_op op_add (pe_callB call_len_seq (by rfl) T0.z_len PySem.boot_len (pa_cons (pv 2) pa_nil)) pe_int) pa_nil))))) (pe_slice sl_tupA (pv 3) po_none (po_some pe_int))) (pe_slice sl_tupA (pv 2) (po_some (pe_call GDr (hr.mono (by decide)) rfl Dd.m Dd.F.kp Dd.b .nil pass0 (pa_cons (pv 1) (pa_cons (pe_op op_add (pe_callB call_len_seq (by rfl) T0.z_len PySem.boot_len (pa_cons (pv 2) pa_nil)) pe_int) pa_nil)))) po_none))))
        pss_nil)
      (pss_cons (ps_set (i := 5) sc_law.nd rfl (Or.inl rfl) (pe_call GPa (hr.mono (by decide)) rfl Dp.m Dp.F.kp Dp.b .nil pass0 (pa_cons (pv 2) (pa_cons (pv 3) pa_nil))))
      (pss_cons (ps_set (i := 6) sc_law.nd rfl (Or.inl rfl) (pe_call GHu (hr.mono (by decide)) rfl Dh.m Dh.F.kp Dh.b .nil pass0 (pa_cons (pv 2) (pa_cons (pv 3) pa_nil))))
      (pss_cons (ps_if (PW.pt (pw_or (pt_cmpR (op_neD hu) (pe_call GK (hr.mono (by decide)) rfl Dk.m Dk.F.kp Dk.b .nil pass_no (pa_cons (pv 2) (pa_cons (pv 3) pa_nil))) (pe_callTy call_tuple_of (by rfl) T0.z_tuple (by decide +kernel) (pa_cons (pv 5) pa_nil)) (nomark _)) (pw_or (pt_cmpR (op_neD hu) (pe_call GHo (hr.mono (by decide)) rfl Dho.m Dho.F.kp Dho.b .nil pass0 (pa_cons (pv 2) (pa_cons (pv 3) pa_nil))) (pv 6) (nomark _)) (pw_or1 (pt_cmpR (op_neD hu) (pe_call GAp (hr.mono (by decide)) rfl Da.m Da.F.kp Da.b .nil pass0 (pa_cons (pv 2) (pa_cons (pv 6) pa_nil))) (pv 3) (nomark _))))))
        (pss_one (ps_ret pe_bl))
        pss_nil)
      (pss_cons (ps_if (PW.pt (pw_or (pt_cmpR op_ne (pe_call GFa (hr.mono (by decide)) rfl Df_.m Df_.F.kp Df_.b .nil pass0 (pa_cons (pv 2) (pa_cons (pv 3) pa_nil))) (pe_op op_sub (pe_op op_add (pe_callB call_len_seq (by rfl) T0.z_len PySem.boot_len (pa_cons (pv 2) pa_nil)) (pe_callB call_len_seq (by rfl) T0.z_len PySem.boot_len (pa_cons (pv 3) pa_nil))) (pe_op op_mul pe_int (pe_callB call_len_seq (by rfl) T0.z_len PySem.boot_len (pa_cons (pv 5) pa_nil)))) (nomark _)) (pw_or1 (pt_cmpR (op_neD hu) (pe_call GLk (hr.mono (by decide)) rfl Dli.m Dli.F.kp Dli.b .nil pass0 (pa_cons (pv 2) (pa_cons (pv 3) pa_nil))) (pe_tup (pa_cons (pe_callB call_len_seq (by rfl) T0.z_len PySem.boot_len (pa_cons (pv 5) pa_nil)) (pa_cons (pe_op op_add (pe_callB call_len_seq (by rfl) T0.z_len PySem.boot_len (pa_cons (pv 2) pa_nil)) (pe_callB call_len_seq (by rfl) T0.z_len PySem.boot_len (pa_cons (pv 3) pa_nil))) pa_nil))) (nomark _)))))
        (pss_one (ps_ret pe_bl))
        pss_nil)
      (pss_cons (ps_set (i := 7) sc_law.nd rfl (Or.inl rfl) (pe_call GDr (hr.mono (by decide)) rfl Dd.m Dd.F.kp Dd.b .nil pass0 (pa_cons (pv 1) (pa_cons pe_int pa_nil))))
      (pss_cons (ps_if (pt_cmpR (op_neD hu) (pe_call GCo (hr.mono (by decide)) rfl Dco.m Dco.F.kp Dco.b .nil pass0 (pa_cons (pv 2) (pa_cons (pv 6) (pa_cons (pv 7) pa_nil)))) (pe_call GLc (hr.mono (by decide)) rfl Dx.m Dx.F.kp Dx.b .nil pass0 (pa_cons (pv 2) (pa_cons (pv 6) (pa_cons (pv 7) pa_nil)))) (nomark _))
        (pss_one (ps_ret pe_bl))
        pss_nil)
      (pss_cons (ps_set (i := 8) sc_law.nd rfl (Or.inl rfl) (pe_op op_add_str (pe_join pe_str (pv 2)) (pe_ix ix_list (pe_lst (pa_cons pe_str (pa_cons pe_str (pa_cons pe_str pa_nil)))) (pe_call GDr (hr.mono (by decide)) rfl Dd.m Dd.F.kp Dd.b .nil pass0 (pa_cons (pv 1) (pa_cons pe_int pa_nil))) (fun _ _ => rfl))))
      (pss_cons (ps_set (i := 9) sc_law.nd rfl (Or.inl rfl) (pe_split (pv 8) pe_str))
      (pss_cons (ps_set (i := 10) sc_law.nd rfl (Or.inl rfl) (pe_callTy call_tuple_of (by rfl) T0.z_tuple (by decide +kernel) (pa_cons (pe_op op_cat (pe_lc (own := [("part", 11)]) (g := gName 11) (tt := tYes) rfl sc_law.nd (pi_list (pe_slice sl_list (pv 9) po_none (po_some (pe_un un_neg pe_int)))) (blkOk_by (own := [("part", 11)]) (N := ["script", "state", "one", "two", "best", "pairs", "hunks", "around", "text", "parts", "rows", "part", "k"]) (sc := defScope s_law) (by decide +kernel)) (fun _ _ _ _ _ => (pg_name (i := 11) sc_law.nd rfl (Or.inl rfl))) (fun _ _ _ _ _ => pts_nil) (fun _ _ _ _ _ => (pe_op op_add_str (pv 11) pe_str))) (pe_ifExp (pt_cmpR op_gt (pe_callB call_len_str (by rfl) T0.z_len PySem.boot_len (pa_cons (pe_ix ix_list (pv 9) (pe_un un_neg pe_int) (fun _ _ => rfl)) pa_nil)) pe_int (nomark _)) (pe_lst (pa_cons (pe_ix ix_list (pv 9) (pe_un un_neg pe_int) (fun _ _ => rfl)) pa_nil)) (pe_lst pa_nil))) pa_nil)))
      (pss_cons (ps_if (PW.pt (pw_or (pt_cmpR (op_neD hu) (pe_call GLo (hr.mono (by decide)) rfl Dlo.m Dlo.F.kp Dlo.b .nil pass0 (pa_cons (pv 8) pa_nil)) (pv 10) (nomark _)) (pw_or (pt_cmpR op_ne (pe_call GTx (hr.mono (by decide)) rfl Dtx.m Dtx.F.kp Dtx.b .nil pass0 (pa_cons (pv 10) pa_nil)) (pv 8) (nomark _)) (pw_or1 (pt_cmpR op_notBl (pe_call GIs (hr.mono (by decide)) rfl Dil.m Dil.F.kp Dil.b .nil pass0 (pa_cons (pv 10) pa_nil)) pe_bl (nomark _))))))
        (pss_one (ps_ret pe_bl))
        pss_nil)
      (pss_cons (ps_if (pt_cmpR op_notBl (pe_call GIs (hr.mono (by decide)) rfl Dil.m Dil.F.kp Dil.b .nil pass0 (pa_cons (pe_ix ix_list (pe_lst (pa_cons (pe_callTy call_list_of (by rfl) T0.z_list (by decide +kernel) (pa_cons (pv 10) pa_nil)) (pa_cons (pe_tup (pa_cons pe_str (pa_cons pe_str pa_nil))) (pa_cons (pe_tup (pa_cons pe_str pa_nil)) (pa_cons (pe_tup (pa_cons pe_str pa_nil)) (pa_cons pe_non (pa_cons (pe_tup (pa_cons pe_int pa_nil)) pa_nil))))))) (pe_call GDr (hr.mono (by decide)) rfl Dd.m Dd.F.kp Dd.b .nil pass0 (pa_cons (pv 1) (pa_cons pe_int pa_nil))) (fun _ _ => rfl)) pa_nil)) pe_bl (nomark _))
        (pss_one (ps_ret pe_bl))
        pss_nil)
      (pss_cons (L2H.ps_try_onlyX (tb := fun W => tDrop (tCallS (spKept K C) (WE W) (tCons (tOp (rRepT K) (tTup (tCons (tC (.str "a\n")) tNil)) (tC (.int 201))) (tCons (tOp (rRepT K) (tTup (tCons (tC (.str "b\n")) tNil)) (tC (.int 200))) tNil)))) (ts := tSuite K) (Wout := fun _ _ _ _ => False) rfl rfl ⟨rfl, by decide, .inl L.g⟩ (fun hd => L2H.passesAt_of rfl hd) takes0
        (fun W pn xe tk _ _ => pss_one (ps_expr (by exact (pe_callS GK (hr.mono (by decide)) rfl Dk.m Dk.F.kp Dk.b (fun σ => L2N.passAt tk σ) (by exact (pa_cons (pe_op op_repT (pe_tup (pa_cons pe_str pa_nil)) pe_int) (pa_cons (pe_op op_repT (pe_tup (pa_cons pe_str pa_nil)) pe_int) pa_nil)))))))
        (fun a oe cls d pn hz hf tk hot => pss_one (ps_ret (by exact (pe_cmpR (op_eqD hu) (L2H.pe_callH GKH ⟨(hr.mono (j := 2) (by decide)).dp, (hr.mono (j := 2) (by decide)).un⟩ hot rfl Dk.m Dk.F.kp Dk.b (E := fun _ _ _ _ => False) pass0H (pa_cons (pe_op op_repT (pe_tup (pa_cons pe_str pa_nil)) pe_int) (pa_cons (pe_op op_repT (pe_tup (pa_cons pe_str pa_nil)) pe_int) pa_nil))) (pe_callTy call_tuple_of (by rfl) T0.z_tuple (by decide +kernel) (pa_cons (pe_lcH (own := [("k", 12)]) (g := gName 12) (tt := tYes) hot sc_law.nd (pi_range1R (by rfl) T0.z_range (pa_cons pe_int pa_nil)) (blkOk_by (own := [("k", 12)]) (N := ["script", "state", "one", "two", "best", "pairs", "hunks", "around", "text", "parts", "rows", "part", "k"]) (sc := defScope s_law) (by decide +kernel)) (fun _ _ _ _ _ => (pg_name (i := 12) sc_law.nd rfl (Or.inl rfl))) (fun _ _ _ _ _ => pts_nil) (fun _ _ _ _ _ => (pe_tup (pa_cons (pv 12) (pa_cons (pv 12) pa_nil))))) pa_nil)) (nomark _))))))
      (pss_one (ps_ret pe_bl)))))))))))))))))))))), ?_⟩
    refine ⟨_, rfl, a, _, rfl, .inl hA, fun sc hsc => ⟨by show 4 ≤ sizeLine; decide, fun st hst => ?_⟩⟩
    have ssc := same_new (o := .lst (ns.map V.int)) hsc
    have sst := same_new (o := .lst [.int 0, .int 0, .ref sc, .int 1]) hst
    obtain ⟨H1, e1⟩ : ∃ H1, H1 = upd (upd H sc (.lst (ns.map V.int))) st (.lst [.int 0, .int 0, .ref sc, .int 1]) := ⟨_, rfl⟩
    rw [← e1]
    rw [← e1] at sst
    have nsc : sc ≠ st := by
      intro e
      rw [e, upd_same] at hst
      cases hst
    have hS1 : StAt K H1 st sc ns := ⟨⟨0, 0, 1, by rw [e1, upd_same], Int.le_refl _⟩, sst _ _ upd_same, nsc⟩
    have tab1 : GxR.TabG H1 Pt := tab_same tab (ssc.trans sst)
    refine ⟨_, rfl, st, sc, ns, 6, rfl, hS1, by decide, by decide, fun H2 t1 one sv2 hS2 ht1 hL1 hl1 => ?_⟩
    have tab2 := tab_sv tab1 hS1 sv2
    refine ⟨_, rfl, st, sc, ns, 6, rfl, hS2, by decide, by decide, fun H3 t2 two sv3 hS3 ht2 hL2 hl2 => ?_⟩
    have tab3 := tab_sv tab2 hS2 sv3
    have hA3 : SqT K H3 t1 (one.map V.str) := hS2.tk sv3 _ _ (.inl (.inl ht1))
    have hB3 : SqT K H3 t2 (two.map V.str) := .inl (.inl ht2)
    refine ⟨_, rfl, _, rfl, t1, t2, one, two, rfl, hA3, hB3, by omega, by omega, fun H4 vb s4 db => ?_⟩
    have hS4 := hS3.sv s4
    have tab4 := tab_same tab3 s4
    have hA4 := s4.seqT hA3
    have hB4 := s4.seqT hB3
    have noR : ∀ {ls ms : List Str} {z : Nat}, ls.length ≤ 100 → ms.length ≤ 100 → 40000 < (ls.length - z) * (ms.length - z) → False := fun {ls ms z} h1 h2 h3 => by
      have := Nat.mul_le_mul (show ls.length - z ≤ 100 by omega) (show ms.length - z ≤ 100 by omega)
      omega
    -- if kept_pairs(one, two) != best or tuple(_law_pairs(one, two)) != best
    dsimp only [gName]
    refine cut (fun σ' H' => σ' = [some (.ref a), some (.ref st), some (.ref t1), some (.ref t2), some vb, none, none, none, none, none, none, none, none] ∧ Same H4 H') (fun nx hn => ?_) ?_
    · refine ⟨_, rfl, _, rfl, t1, t2, one, two, rfl, hA4, hB4, by omega, by omega, fun z _ _ _ _ h3 _ _ => noR (by omega) (by omega) h3, fun _ H5 v5 s5 d5 => ?_⟩
      refine ⟨_, rfl, ne_same d5 (dp_keep (TK.same s5) _ _ (imm_pairs _) db) (okD_pairs _) (by decide) ⟨_, rfl, ?_⟩⟩
      refine ite2 (fun e => absurd e Bool.false_ne_true) (fun _ => ?_)
      refine ⟨_, rfl, _, rfl, t1, t2, one, two, rfl, s5.seqT hA4, s5.seqT hB4, by omega, by omega, fun H6 t6 w6 s6 _ h6 d6 => ?_⟩
      refine ⟨t6, w6, rfl, .inl ⟨SqL.of h6, fun l hl => ?_⟩⟩
      have sl := same_new (o := .tup w6) hl
      refine ⟨_, rfl, ne_same (.tup (.inl (.inl upd_same)) (pairs_keep (TK.same sl) d6)) (dp_keep (TK.same (s5.trans (s6.trans sl))) _ _ (imm_pairs _) db) (okD_pairs _) (by decide) ⟨_, rfl, ?_⟩⟩
      refine ite2 (fun e => absurd e Bool.false_ne_true) (fun _ => ?_)
      exact hn _ _ ⟨rfl, s5.trans (s6.trans sl)⟩
    rintro σ5 H5 ⟨rfl, s5⟩
    have hS5 := hS4.sv s5
    have tab5 := tab_same tab4 s5
    have hA5 := s5.seqT hA4
    have hB5 := s5.seqT hB4
    -- one = one + _law_lines(state, 6)
    refine ⟨_, rfl, _, rfl, st, sc, ns, 6, rfl, hS5, by decide, by decide, fun H6 t3 la sv6 hS6 ht3 hL3 hl3 => ?_⟩
    have tab6 := tab_sv tab5 hS5 sv6
    have hA6 := hS5.tk sv6 _ _ hA5
    have hB6 := hS5.tk sv6 _ _ hB5
    refine cat_lines hA6 (.inl (.inl ht3)) (by omega) fun H7 u1 s7 hu1 => ?_
    obtain ⟨one1, eo1⟩ : ∃ l, l = one ++ la := ⟨_, rfl⟩
    rw [← eo1] at hu1
    have lo1 : one1.length ≤ 12 := by rw [eo1, List.length_append]; omega
    have Lo1 : Lns one1 := by rw [eo1]; exact lns_app hL1 hL3
    have hS7 := hS6.sv s7
    have tab7 := tab_same tab6 s7
    have hB7 := s7.seqT hB6
    refine ⟨_, rfl, _, rfl, st, sc, ns, 6, rfl, hS7, by decide, by decide, fun H8 t4 lb sv8 hS8 ht4 hL4 hl4 => ?_⟩
    have tab8 := tab_sv tab7 hS7 sv8
    have hA8 := hS7.tk sv8 _ _ hu1
    have hB8 := hS7.tk sv8 _ _ hB7
    refine cat_lines hB8 (.inl (.inl ht4)) (by omega) fun H9 u2 s9 hu2 => ?_
    obtain ⟨two1, et1⟩ : ∃ l, l = two ++ lb := ⟨_, rfl⟩
    rw [← et1] at hu2
    have lt1 : two1.length ≤ 12 := by rw [et1, List.length_append]; omega
    have Lt1 : Lns two1 := by rw [et1]; exact lns_app hL2 hL4
    have hS9 := hS8.sv s9
    have tab9 := tab_same tab8 s9
    have hA9 := s9.seqT hA8
    dsimp only [gName]
    refine cut (fun σ' H' => ∃ (u3 : Addr) (two2 : List Str), σ' = [some (.ref a), some (.ref st), some (.ref u1), some (.ref u3), some vb, none, none, none, none, none, none, none, none] ∧ StAt K H' st sc ns ∧ GxR.TabG H' Pt ∧ SqT K H' u1 (one1.map V.str) ∧ SqT K H' u3 (two2.map V.str) ∧ two2.length ≤ 40 ∧ Lns two2) (fun nx hn => ?_) ?_
    · refine ⟨_, rfl, st, sc, ns, 2, rfl, hS9, by decide, by decide, fun d s0 p s3 hd0 hd1 hp => ?_⟩
      have svd : Sv st H9 (upd H9 st (.lst (stL s0 p sc s3))) := Sv.at_
      have hSd := hS9.to svd upd_same hp
      have tabd := tab_sv tab9 hS9 svd
      have hAd := hS9.tk svd _ _ hA9
      have hBd := hS9.tk svd _ _ hu2
      refine ⟨rfl, _, rfl, ?_⟩
      refine ite2 (fun _ => ?_) (fun _ => ?_)
      · refine ⟨_, rfl, ?_⟩
        dsimp only [tNoPart]
        refine ⟨_, rfl, _, rfl, u1, _, rfl, .inr hAd, _, _, rfl, rfl, st, sc, ns, _, rfl, hSd, ?_, ?_, fun d1 s0' p' s3' he0 he1 hp' => ?_⟩
        · simp only [List.length_map]; omega
        · simp only [List.length_map]; omega
        obtain ⟨n1, rfl⟩ := Int.eq_ofNat_of_zero_le he0
        obtain ⟨K1, eK1⟩ : ∃ K1, K1 = upd (upd H9 st (.lst (stL s0 p sc s3))) st (.lst (stL s0' p' sc s3')) := ⟨_, rfl⟩
        rw [← eK1]
        have svK : Sv st (upd H9 st (.lst (stL s0 p sc s3))) K1 := by rw [eK1]; exact Sv.at_
        have hSK := hSd.to svK (by rw [eK1, upd_same]) hp'
        have tabK := tab_sv tabd hSd svK
        have hAK := hSd.tk svK _ _ hAd
        have hBK := hSd.tk svK _ _ hBd
        refine ⟨_, rfl, ?_⟩
        refine sl_linesTo hAK fun K2 q1 sk2 hq1 => ?_
        refine ⟨_, rfl, ?_⟩
        dsimp only [tNoPart]
        refine ⟨_, rfl, ?_⟩
        refine sl_linesTo (h := 3) (sk2.seqT hBK) fun K3 q2 sk3 hq2 => ?_
        refine cat_lines (sk3.seqT hq1) hq2 (by rw [List.length_take, List.length_take]; omega) fun K4 q3 sk4 hq3 => ?_
        have sk14 := sk2.trans (sk3.trans sk4)
        have hSK4 := hSK.sv sk14
        have hAK4 := sk14.seqT hAK
        refine ⟨_, rfl, _, rfl, _, rfl, u1, _, rfl, .inr hAK4, _, _, rfl, rfl, st, sc, ns, _, rfl, hSK4, ?_, ?_, fun d2 s0'' p'' s3'' hf0 hf1 hp'' => ?_⟩
        · simp only [List.length_map]; omega
        · simp only [List.length_map]; omega
        obtain ⟨n2, rfl⟩ := Int.eq_ofNat_of_zero_le hf0
        obtain ⟨K5, eK5⟩ : ∃ K5, K5 = upd K4 st (.lst (stL s0'' p'' sc s3'')) := ⟨_, rfl⟩
        rw [← eK5]
        have svK5 : Sv st K4 K5 := by rw [eK5]; exact Sv.at_
        have hSK5 := hSK4.to svK5 (by rw [eK5, upd_same]) hp''
        have tabK5 := tab_sv (tab_same tabK sk14) hSK4 svK5
        have hAK5 := hSK4.tk svK5 _ _ hAK4
        have hq5 := hSK4.tk svK5 _ _ hq3
        refine ⟨_, rfl, ?_⟩
        dsimp only [tNoPart]
        refine sl_linesFrom hAK5 fun K6 q4 sk6 hq4 => ?_
        refine cat_lines (sk6.seqT hq5) hq4 (by simp only [List.length_append, List.length_take, List.length_drop]; omega) fun K7 q5 sk7 hq7 => ?_
        have sk57 := sk6.trans sk7
        refine hn _ _ ⟨q5, _, rfl, hSK5.sv sk57, tab_same tabK5 sk57, sk57.seqT hAK5, hq7, ?_, ?_⟩
        · simp only [List.length_append, List.length_take, List.length_drop]; omega
        · refine lns_app (lns_app (fun x hx => Lo1 x (List.mem_of_mem_take hx)) (fun x hx => Lt1 x (List.mem_of_mem_take hx))) (fun x hx => Lo1 x (List.mem_of_mem_drop hx))
      · exact hn _ _ ⟨u2, two1, rfl, hSd, tabd, hAd, hBd, by omega, Lt1⟩
    rintro σ10 H10 ⟨u3, two2, rfl, hS10, tab10, hA10, hB10, lt2, Lt2⟩
    -- pairs, hunks
    refine ⟨_, rfl, _, rfl, u1, u3, one1, two2, rfl, hA10, hB10, by omega, by omega, fun H11 pl wp s11 _ hpl dpl => ?_⟩
    have hA11 := s11.seqT hA10
    have hB11 := s11.seqT hB10
    refine ⟨_, rfl, _, rfl, u1, u3, one1, two2, rfl, hA11, hB11, by omega, by omega, fun H12 vh s12 dvh => ?_⟩
    have hA12 := s12.seqT hA11
    have hB12 := s12.seqT hB11
    have hS12 := (hS10.sv s11).sv s12
    have tab12 := tab_same tab10 (s11.trans s12)
    have hpl12 := s12 _ _ hpl
    have dpl12 := pairs_keep (TK.same s12) dpl
    obtain ⟨ph, hws, evh, hph, dph⟩ := of_tupD dvh
    subst evh
    have mul40 : one1.length * two2.length ≤ 40000 := by
      have := Nat.mul_le_mul (show one1.length ≤ 12 by omega) lt2
      omega
    have okA : ∀ x ∈ one1, PyData.strOk x = true := fun x hx => ln_ok (Lo1 x hx)
    have okB : ∀ x ∈ two2, PyData.strOk x = true := fun x hx => ln_ok (Lt2 x hx)
    have okH : OkD 3 (hunksD (hunksL one1 two2)) := okD_hunks fun h hh => ⟨fun y hy => okA y ((hunksF_sub hh).1 y hy), fun y hy => okB y ((hunksF_sub hh).2 y hy)⟩
    dsimp only [gName]
    refine cut (fun σ' H' => σ' = [some (.ref a), some (.ref st), some (.ref u1), some (.ref u3), some vb, some (.ref pl), some (.ref ph), none, none, none, none, none, none] ∧ Same H12 H') (fun nx hn => ?_) ?_
    · refine ⟨_, rfl, _, rfl, u1, u3, one1, two2, rfl, hA12, hB12, by omega, by omega, fun z _ _ _ _ h3 _ _ => noR (by omega) (by omega) h3, fun _ G1 v1 g1 d1 => ?_⟩
      refine ⟨_, rfl, pl, wp, rfl, .inl ⟨SqL.of (g1 _ _ hpl12), fun l hl => ?_⟩⟩
      have sl := same_new (o := .tup wp) hl
      refine ne_same (dp_keep (TK.same sl) _ _ (imm_pairs _) d1) (.tup (.inl (.inl upd_same)) (pairs_keep (TK.same (g1.trans sl)) dpl12)) (okD_pairs _) (by decide) ⟨_, rfl, ?_⟩
      refine ite2 (fun e => absurd e Bool.false_ne_true) (fun _ => ?_)
      have g2 := g1.trans sl
      refine ⟨_, rfl, _, rfl, u1, u3, one1, two2, rfl, g2.seqT hA12, g2.seqT hB12, by omega, by omega, mul40, fun G3 v3 g3 d3 => ?_⟩
      have g23 := g2.trans g3
      refine ⟨_, rfl, ne_same d3 (dp_keep (TK.same g23) _ _ (imm_hunks _) dvh) okH (by decide) ⟨_, rfl, ?_⟩⟩
      refine ite2 (fun e => absurd e Bool.false_ne_true) (fun _ => ?_)
      have g12 := g23
      refine ⟨_, rfl, _, rfl, u1, ph, one1, hunksL one1 two2, rfl, (g2.trans g3).seqT hA12, dp_keep (TK.same g23) _ _ (imm_hunks _) dvh, by have := apply_law one1 two2; rw [this]; omega, fun G4 p g4 hp => ?_⟩
      rw [apply_law one1 two2] at hp
      refine ⟨_, rfl, ne_same (dp_lines hp) (dp_lines ((g23.trans g4).seqT hB12)) (okD_lines okB) (by decide) ⟨_, rfl, ?_⟩⟩
      refine ite2 (fun e => absurd e Bool.false_ne_true) (fun _ => ?_)
      exact hn _ _ ⟨rfl, g23.trans g4⟩
    rintro σ13 H13 ⟨rfl, s13⟩
    have hA13 := s13.seqT hA12
    have hB13 := s13.seqT hB12
    have hS13 := hS12.sv s13
    have tab13 := tab_same tab12 s13
    have hpl13 := s13 _ _ hpl12
    have dph13 := dp_keep (TK.same s13) _ _ (imm_hunks _) dvh
    try dsimp only [gName]
    refine cut (fun σ' H' => σ' = [some (.ref a), some (.ref st), some (.ref u1), some (.ref u3), some vb, some (.ref pl), some (.ref ph), none, none, none, none, none, none] ∧ Same H13 H') (fun nx hn => ?_) ?_
    · refine ⟨_, rfl, _, rfl, u1, u3, one1, two2, rfl, hA13, hB13, by omega, by omega, mul40, fun G1 g1 => ?_⟩
      refine ⟨_, rfl, u1, _, rfl, .inr (g1.seqT hA13), _, rfl, u3, _, rfl, .inr (g1.seqT hB13), _, _, rfl, rfl, _, rfl, pl, _, rfl, .inl (SqL.of (g1 _ _ hpl13)), _, _, rfl, rfl, .inl ⟨by decide, by decide⟩, _, _, rfl, rfl, rfl, _, rfl, ?_⟩
      have lw : wp.length = (pairs one1 two2).length := by rw [dpAll_len dpl12, List.length_map]
      refine ite2 (fun e => absurd e (by simp only [List.length_map, lw, dec_int]; simp)) (fun _ => ?_)
      refine ⟨_, rfl, _, rfl, u1, u3, one1, two2, rfl, g1.seqT hA13, g1.seqT hB13, by omega, by omega, mul40, fun G2 p2 g2 hp2 => ?_⟩
      have g12 := g1.trans g2
      refine ⟨_, rfl, pl, _, rfl, .inl (SqL.of (g12 _ _ hpl13)), _, rfl, u1, _, rfl, .inr (g12.seqT hA13), _, rfl, u3, _, rfl, .inr (g12.seqT hB13), _, _, rfl, rfl, ?_⟩
      refine ⟨by show 2 ≤ sizeLine; decide, fun p hp => ?_⟩
      have sl := same_new (o := .tup [.int (wp.length : Int), .int (((one1.map V.str).length : Int) + ((two2.map V.str).length : Int))]) hp
      refine ne_same (d := .tuple [.int ((pairs one1 two2).length : Int), .int ((one1.length : Int) + (two2.length : Int))]) (.tup (sl.seqT hp2) (.cons (.int _) (.cons (.int _) .nil))) (.tup (.inl (.inl upd_same)) (by simp only [lw, List.length_map]; exact .cons (.int _) (.cons (.int _) .nil))) (okD_two (okD_int _) (okD_int _)) (by decide) ⟨_, rfl, ?_⟩
      refine ite2 (fun e => absurd e Bool.false_ne_true) (fun _ => ?_)
      exact hn _ _ ⟨rfl, g12.trans sl⟩
    rintro σ14 H14 ⟨rfl, s14⟩
    have hA14 := s14.seqT hA13
    have hB14 := s14.seqT hB13
    have hS14 := hS13.sv s14
    have tab14 := tab_same tab13 s14
    have dph14 := dp_keep (TK.same s14) _ _ (imm_hunks _) dph13
    have lenH : (hunksL one1 two2).length ≤ 10000 := by
      have q1 := hunksF_len one1 two2 (pairs one1 two2 ++ [(one1.length, two2.length)]) 0 0
      have q3 : T one1 two2 0 0 ≤ one1.length := lcs_le1 _ _
      rw [List.length_append, pairs_len] at q1
      exact Nat.le_trans q1 (by simp only [List.length_cons, List.length_nil]; omega)
    refine ⟨_, rfl, st, sc, ns, 4, rfl, hS14, by decide, by decide, fun ar s0 p s3 hd0 hd1 hp => ?_⟩
    obtain ⟨H15, eH15⟩ : ∃ K1, K1 = upd H14 st (.lst (stL s0 p sc s3)) := ⟨_, rfl⟩
    rw [← eH15]
    have sv15 : Sv st H14 H15 := by rw [eH15]; exact Sv.at_
    have hS15 := hS14.to sv15 (by rw [eH15, upd_same]) hp
    have tab15 := tab_sv tab14 hS14 sv15
    have hA15 := hS14.tk sv15 _ _ hA14
    have hB15 := hS14.tk sv15 _ _ hB14
    have dph15 := dp_keep (hS14.tk sv15) _ _ (imm_hunks _) dph14
    dsimp only [gName]
    refine cut (fun σ' H' => σ' = [some (.ref a), some (.ref st), some (.ref u1), some (.ref u3), some vb, some (.ref pl), some (.ref ph), some (.int ar), none, none, none, none, none] ∧ Same H15 H') (fun nx hn => ?_) ?_
    · refine ⟨_, rfl, _, rfl, _, rfl, u1, ph, one1, hunksL one1 two2, ar, rfl, hA15, dph15, lenH, fun G1 v1 g1 d1 => ?_⟩
      refine ⟨_, rfl, _, rfl, _, rfl, u1, ph, one1, hunksL one1 two2, ar, rfl, g1.seqT hA15, dp_keep (TK.same g1) _ _ (imm_hunks _) dph15, lenH, fun G2 v2 g2 d2 => ?_⟩
      refine ne_same (dp_keep (TK.same g2) (ctxD one1.length ar (hunksL one1 two2)) _ (by show immAll _ = true; exact immAll_map _ imm_ip _) d1) d2 (okD_ips _) (by decide) ⟨_, rfl, ?_⟩
      refine ite2 (fun e => absurd e Bool.false_ne_true) (fun _ => ?_)
      exact hn _ _ ⟨rfl, g1.trans g2⟩
    rintro σ16 H16 ⟨rfl, s16⟩
    have hA16 := s16.seqT hA15
    have hS16 := hS15.sv s16
    have tab16 := tab_same tab15 s16
    have sum1 : (one1.map (·.length)).sum ≤ 24 := Nat.le_trans (lns_sum Lo1) (by omega)
    refine ⟨⟨_, rfl⟩, _, rfl, "", u1, one1, rfl, rfl, .inr hA16, by show (one1.map (·.length)).sum + one1.length * 0 ≤ _; omega, ?_⟩
    refine ⟨by show 3 ≤ sizeLine; decide, fun lq hlq => ?_⟩
    obtain ⟨H17, eH17⟩ : ∃ K1, K1 = upd H16 lq (.lst [.str "", .str "x", .str "\n"]) := ⟨_, rfl⟩
    rw [← eH17]
    have s17 : Same H16 H17 := by rw [eH17]; exact same_new hlq
    have hS17 := hS16.sv s17
    have tab17 := tab_same tab16 s17
    have hl17 : H17 lq = some (.lst [.str "", .str "x", .str "\n"]) := by rw [eH17, upd_same]
    have nlq : lq ≠ st := fun e => by
      obtain ⟨l, hl⟩ := hS16.some
      rw [← e, hlq] at hl
      cases hl
    refine ⟨_, rfl, st, sc, ns, 3, rfl, hS17, by decide, by decide, fun d s0 p s3 hd0 hd1 hp => ?_⟩
    obtain ⟨H18, eH18⟩ : ∃ K1, K1 = upd H17 st (.lst (stL s0 p sc s3)) := ⟨_, rfl⟩
    rw [← eH18]
    have sv18 : Sv st H17 H18 := by rw [eH18]; exact Sv.at_
    have hS18 := hS17.to sv18 (by rw [eH18, upd_same]) hp
    have tab18 := tab_sv tab17 hS17 sv18
    have hl18 := sv18 _ _ nlq hl17
    obtain ⟨e, ee, atd⟩ : ∃ e : Str, (e = "" ∨ e = "x" ∨ e = "\n") ∧ atI ([.str "", .str "x", .str "\n"] : List V) d = some (.str e) := by
      have : d = 0 ∨ d = 1 ∨ d = 2 := by omega
      rcases this with rfl | rfl | rfl
      · exact ⟨_, .inl rfl, rfl⟩
      · exact ⟨_, .inr (.inl rfl), rfl⟩
      · exact ⟨_, .inr (.inr rfl), rfl⟩
    obtain ⟨qs, y, eqs, lqs, sqs, ly, lz, rows1, rows2, rows3, rows4⟩ := text_cut Lo1 lo1 ee
    have lze : (Txt.join "" one1).length + e.length ≤ 30 := by rw [← len_app]; exact lz
    refine ⟨lq, _, d, _, rfl, rfl, SqL.of hl18, atd, _, _, rfl, rfl, Nat.le_trans lze (by decide), ?_⟩
    obtain ⟨z, ez⟩ : ∃ z, z = Txt.join "" one1 ++ e := ⟨_, rfl⟩
    rw [← ez] at eqs lz rows1 rows2 ⊢
    refine ⟨_, rfl, ⟨_, rfl⟩, z, "\n", rfl, rfl, rfl, Nat.le_trans (Nat.add_le_add_right lz 2) (by decide), fun lp hlp => ?_⟩
    rw [eqs]
    obtain ⟨H19, eH19⟩ : ∃ K1, K1 = upd H18 lp (.lst ((qs ++ [y]).map V.str)) := ⟨_, rfl⟩
    rw [← eH19]
    have s19 : Same H18 H19 := by rw [eH19]; exact same_new hlp
    have hS19 := hS18.sv s19
    have tab19 := tab_same tab18 s19
    have hp19 : H19 lp = some (.lst (qs.map V.str ++ [.str y])) := by rw [eH19, upd_same, List.map_append]; rfl
    refine ⟨_, rfl, ?_⟩
    dsimp only [tNoPart]
    refine ⟨_, rfl, _, rfl, lp, _, rfl, SqL.of hp19, fun cu hcu => ?_⟩
    rw [cutV_init]
    obtain ⟨H20, eH20⟩ : ∃ K1, K1 = upd H19 cu (.lst (qs.map V.str)) := ⟨_, rfl⟩
    rw [← eH20]
    have s20 : Same H19 H20 := by rw [eH20]; exact same_new hcu
    have hc20 : H20 cu = some (.lst (qs.map V.str)) := by rw [eH20, upd_same]
    refine ⟨cu, rfl, ⟨_, SqL.of hc20⟩, fun D hD => ?_⟩
    refine lc_list (xs := qs.map V.str) (fun t H' => Same H20 H' ∧ H' D = some (.lst (((qs.take t).map (· ++ ("\n" : Str))).map V.str))) ⟨same_new hD, upd_same⟩ (fun t H' _ h => SqL.of (h.1 _ _ hc20)) ?_ ?_
    · rintro t x H2 hx ⟨s2, hl⟩
      rw [List.getElem?_map] at hx
      obtain ⟨w1, hw1, rfl⟩ := Option.map_eq_some_iff.mp hx
      have ht : t < qs.length := (List.getElem?_eq_some_iff.mp hw1).1
      have hlw : w1.length ≤ 2 := sqs _ (List.mem_of_getElem? hw1)
      refine ⟨rfl, _, rfl, _, _, rfl, rfl, Nat.le_trans (Nat.add_le_add_right hlw _) (by decide), _, hl, ?_, same_mut s2 hD, ?_⟩
      · rw [List.length_map, List.length_map, List.length_take]
        exact Nat.lt_of_lt_of_le (show _ < 100 by omega) (by decide)
      · rw [upd_same, List.take_succ, hw1, Option.toList_some, List.map_append, List.map_append]
        rfl
    rw [List.length_map, List.take_length]
    rintro H21 ⟨s21, hl21⟩
    have hp21 := s21 _ _ (s20 _ _ hp19)
    have s19_21 := s20.trans s21
    obtain ⟨ts, ets⟩ : ∃ ts : List Str, ts = if 0 < y.length then [y] else [] := ⟨_, rfl⟩
    rw [← ets] at rows1 rows2 rows3 rows4
    refine cutE (F := tIf _ _ _ _ _) (fun v H' => ∃ lt, v = .ref lt ∧ Same H21 H' ∧ H' lt = some (.lst (ts.map V.str))) (fun Q' hq => ?_) ?_
    · refine ⟨_, rfl, _, rfl, lp, _, _, _, rfl, rfl, SqL.of hp21, atI_last _ _, y, rfl, Nat.le_trans ly (by decide), _, _, rfl, rfl, _, rfl, ?_⟩
      refine ite2 (fun c => ?_) (fun c => ?_)
      · have e1 : 0 < y.length := by simpa using c
        refine ⟨_, rfl, _, rfl, lp, _, _, _, rfl, rfl, SqL.of hp21, atI_last _ _, by show 1 ≤ sizeLine; decide, fun l hl => hq _ _ ⟨l, rfl, same_new hl, ?_⟩⟩
        rw [upd_same, ets, if_pos e1]; rfl
      · have e1 : ¬ 0 < y.length := by simpa using c
        refine ⟨by show 0 ≤ sizeLine; decide, fun l hl => hq _ _ ⟨l, rfl, same_new hl, ?_⟩⟩
        rw [upd_same, ets, if_neg e1]; rfl
    rintro v H22 ⟨lt, rfl, s22, hlt22⟩
    have lts : ts.length ≤ 1 := by rw [ets]; split <;> simp
    refine ⟨D, lt, _, _, rfl, rfl, s22 _ _ hl21, hlt22, ?_, fun p1 hp1 => ?_⟩
    · simp only [List.length_map]
      exact Nat.le_trans (show _ ≤ 100 by omega) (by decide)
    rw [← List.map_append]
    obtain ⟨rs, ers⟩ : ∃ rs : List Str, rs = qs.map (· ++ ("\n" : Str)) ++ ts := ⟨_, rfl⟩
    rw [← ers] at rows1 rows2 rows3 rows4 ⊢
    obtain ⟨H23, eH23⟩ : ∃ K1, K1 = upd H22 p1 (.lst (rs.map V.str)) := ⟨_, rfl⟩
    rw [← eH23]
    have s23 : Same H22 H23 := by rw [eH23]; exact same_new hp1
    have hr23 : H23 p1 = some (.lst (rs.map V.str)) := by rw [eH23, upd_same]
    refine ⟨p1, _, rfl, .inl ⟨SqL.of hr23, fun tr htr => ?_⟩⟩
    obtain ⟨H24, eH24⟩ : ∃ K1, K1 = upd H23 tr (.tup (rs.map V.str)) := ⟨_, rfl⟩
    rw [← eH24]
    have s24 : Same H23 H24 := by rw [eH24]; exact same_new htr
    have hR24 : SqT K H24 tr (rs.map V.str) := by rw [eH24]; exact .inl (.inl upd_same)
    have s19_24 := s19_21.trans (s22.trans (s23.trans s24))
    have hS24 := hS19.sv s19_24
    have tab24 := tab_same tab19 s19_24
    dsimp only [gName]
    refine cut (fun σ' H' => σ' = [some (.ref a), some (.ref st), some (.ref u1), some (.ref u3), some vb, some (.ref pl), some (.ref ph), some (.int ar), some (.str z), some (.ref lp), some (.ref tr), none, none] ∧ StAt K H' st sc ns ∧ GxR.TabG H' Pt ∧ SqT K H' tr (rs.map V.str)) (fun nx hn => ?_) ?_
    · have lrs : rs.length ≤ 21 := by rw [ers, List.length_append, List.length_map]; omega
      refine ⟨_, rfl, z, rfl, by omega, fun G1 q1 g1 hg1 => ?_⟩
      rw [← rows1] at hg1
      refine ⟨_, rfl, ne_same (dp_lines hg1) (dp_lines (g1.seqT hR24)) (okD_lines fun x hx => (rows4 x hx).1) (by decide) ⟨_, rfl, ?_⟩⟩
      refine ite2 (fun e => absurd e Bool.false_ne_true) (fun _ => ?_)
      refine ⟨_, rfl, tr, rs, rfl, g1.seqT hR24, ?_, ?_⟩
      · exact Nat.le_trans (sum_ten fun x hx => (rows4 x hx).2) (by omega)
      rw [rows2]
      refine ⟨_, rfl, rfl, _, rfl, ?_⟩
      refine ite2 (fun e => absurd e (by simp)) (fun _ => ?_)
      refine ⟨_, rfl, .ref tr, rfl, .inr ⟨tr, _, rfl, g1.seqT hR24, items_strs fun x hx => (rows4 x hx).2, tab_same tab24 g1, fun G2 sv2 tb2 => ?_⟩⟩
      rw [rows3]
      refine ⟨_, _, rfl, rfl, _, rfl, ?_⟩
      refine ite2 (fun e => absurd e (by decide)) (fun _ => ?_)
      exact hn _ _ ⟨rfl, (hS24.sv g1).tab (tab_same tab24 g1) sv2, tb2, sv_sqt sv2 (tab_same tab24 g1) (g1.seqT hR24)⟩
    rintro σ25 H25 ⟨rfl, hS25, tab25, hR25⟩
    try dsimp only [gName]
    refine cut (fun σ' H' => σ' = [some (.ref a), some (.ref st), some (.ref u1), some (.ref u3), some vb, some (.ref pl), some (.ref ph), some (.int ar), some (.str z), some (.ref lp), some (.ref tr), none, none]) (fun nx hn => ?_) ?_
    · refine ⟨_, rfl, tr, _, rfl, .inr hR25, fun r1 hr1 => ?_⟩
      obtain ⟨A0, eA0⟩ : ∃ K1, K1 = upd H25 r1 (.lst (rs.map V.str)) := ⟨_, rfl⟩
      rw [← eA0]
      have z0 : Same H25 A0 := by rw [eA0]; exact same_new hr1
      have hl0 : A0 r1 = some (.lst (rs.map V.str)) := by rw [eA0, upd_same]
      refine ⟨by show 2 ≤ sizeLine; decide, fun t1 ht1 => ?_⟩
      obtain ⟨A1, eA1⟩ : ∃ K1, K1 = upd A0 t1 (.tup [.str "a", .str "b\n"]) := ⟨_, rfl⟩
      rw [← eA1]
      have z1 : Same A0 A1 := by rw [eA1]; exact same_new ht1
      have hq1 : SqT K A1 t1 [.str "a", .str "b\n"] := by rw [eA1]; exact .inl (.inl upd_same)
      refine ⟨by show 1 ≤ sizeLine; decide, fun t2 ht2 => ?_⟩
      obtain ⟨A2, eA2⟩ : ∃ K1, K1 = upd A1 t2 (.tup [.str "a\nb\n"]) := ⟨_, rfl⟩
      rw [← eA2]
      have z2 : Same A1 A2 := by rw [eA2]; exact same_new ht2
      have hq2 : SqT K A2 t2 [.str "a\nb\n"] := by rw [eA2]; exact .inl (.inl upd_same)
      refine ⟨by show 1 ≤ sizeLine; decide, fun t3 ht3 => ?_⟩
      obtain ⟨A3, eA3⟩ : ∃ K1, K1 = upd A2 t3 (.tup [.str ""]) := ⟨_, rfl⟩
      rw [← eA3]
      have z3 : Same A2 A3 := by rw [eA3]; exact same_new ht3
      have hq3 : SqT K A3 t3 [.str ""] := by rw [eA3]; exact .inl (.inl upd_same)
      refine ⟨by show 1 ≤ sizeLine; decide, fun t4 ht4 => ?_⟩
      obtain ⟨A4, eA4⟩ : ∃ K1, K1 = upd A3 t4 (.tup [.int 5]) := ⟨_, rfl⟩
      rw [← eA4]
      have z4 : Same A3 A4 := by rw [eA4]; exact same_new ht4
      have hq4 : SqT K A4 t4 [.int 5] := by rw [eA4]; exact .inl (.inl upd_same)
      refine ⟨by show 6 ≤ sizeLine; decide, fun lq hlq => ?_⟩
      obtain ⟨A5, eA5⟩ : ∃ K1, K1 = upd A4 lq (.lst [.ref r1, .ref t1, .ref t2, .ref t3, .non, .ref t4]) := ⟨_, rfl⟩
      rw [← eA5]
      have z5 : Same A4 A5 := by rw [eA5]; exact same_new hlq
      have zz : Same H25 A4 := z0.trans (z1.trans (z2.trans (z3.trans z4)))
      have hSA := (hS25.sv zz).sv z5
      have tabA := tab_same tab25 (zz.trans z5)
      have hlA : A5 lq = some (.lst [.ref r1, .ref t1, .ref t2, .ref t3, .non, .ref t4]) := by rw [eA5, upd_same]
      have nlq : lq ≠ st := fun e => by
        obtain ⟨l, hl⟩ := (hS25.sv zz).some
        rw [← e, hlq] at hl
        cases hl
      refine ⟨_, rfl, st, sc, ns, 6, rfl, hSA, by decide, by decide, fun d s0 p s3 hd0 hd1 hp => ?_⟩
      obtain ⟨A6, eA6⟩ : ∃ K1, K1 = upd A5 st (.lst (stL s0 p sc s3)) := ⟨_, rfl⟩
      rw [← eA6]
      have sv6 : Sv st A5 A6 := by rw [eA6]; exact Sv.at_
      have hS6 := hSA.to sv6 (by rw [eA6, upd_same]) hp
      have tab6 := tab_sv tabA hSA sv6
      have hlA6 := sv6 _ _ nlq hlA
      have k1 := hSA.tk sv6 _ _ (z5.seqT (z4.seqT (z3.seqT (z2.seqT hq1))))
      have k2 := hSA.tk sv6 _ _ (z5.seqT (z4.seqT (z3.seqT hq2)))
      have k3 := hSA.tk sv6 _ _ (z5.seqT (z4.seqT hq3))
      have k4 := hSA.tk sv6 _ _ (z5.seqT hq4)
      have nr1 : r1 ≠ st := fun e => by
        obtain ⟨l, hl⟩ := hS25.some
        rw [← e, hr1] at hl
        cases hl
      have kr := sv6 _ _ nr1 (z5 _ _ (z4 _ _ (z3 _ _ (z2 _ _ (z1 _ _ hl0)))))
      obtain ⟨v, atv, hv⟩ : ∃ v, atI ([.ref r1, .ref t1, .ref t2, .ref t3, .non, .ref t4] : List V) d = some v ∧ ((∃ t, TyX K A6 v t ∧ PySem.W.kitOne K t (.type "tuple") = some false) ∨ ∃ a xs, v = .ref a ∧ SqT K A6 a xs ∧ (∀ x ∈ xs, ItemSI x) ∧ islB xs = false) := by
        have : d = 0 ∨ d = 1 ∨ d = 2 ∨ d = 3 ∨ d = 4 ∨ d = 5 := by omega
        rcases this with rfl | rfl | rfl | rfl | rfl | rfl
        · exact ⟨_, rfl, .inl ⟨.type "list", .base (.lst kr), by rfl⟩⟩
        · exact ⟨_, rfl, .inr ⟨_, _, rfl, k1, items_strs (ls := ["a", "b\n"]) (by decide), by decide +kernel⟩⟩
        · exact ⟨_, rfl, .inr ⟨_, _, rfl, k2, items_strs (ls := ["a\nb\n"]) (by decide), by decide +kernel⟩⟩
        · exact ⟨_, rfl, .inr ⟨_, _, rfl, k3, items_strs (ls := [""]) (by decide), by decide +kernel⟩⟩
        · exact ⟨_, rfl, .inl ⟨.type "NoneType", .base .non, by rfl⟩⟩
        · exact ⟨_, rfl, .inr ⟨_, _, rfl, k4, (fun x hx => .inr ⟨5, List.mem_singleton.mp hx⟩), by decide +kernel⟩⟩
      refine ⟨lq, _, d, v, rfl, rfl, SqL.of hlA6, atv, v, rfl, ?_⟩
      rcases hv with ⟨t, ty, kt⟩ | ⟨a1, xs1, rfl, kq, it, ib⟩
      · refine .inl ⟨t, ty, kt, ⟨_, _, rfl, rfl, _, rfl, ?_⟩⟩
        refine ite2 (fun e => absurd e (by decide)) (fun _ => ?_)
        exact hn _ _ rfl
      · refine .inr ⟨a1, xs1, rfl, kq, it, tab6, fun H' _ _ => ?_⟩
        rw [ib]
        refine ⟨_, _, rfl, rfl, _, rfl, ?_⟩
        refine ite2 (fun e => absurd e (by decide)) (fun _ => ?_)
        exact hn _ _ rfl
    rintro σ26 H26 rfl
    refine ⟨by show 1 ≤ sizeLine; decide, fun t1 ht1 => ?_⟩
    obtain ⟨B1, eB1⟩ : ∃ K1, K1 = upd H26 t1 (.tup [.str "a\n"]) := ⟨_, rfl⟩
    rw [← eB1]
    have hb1 : SqT K B1 t1 [.str "a\n"] := by rw [eB1]; exact .inl (.inl upd_same)
    refine ⟨t1, 201, _, rfl, rfl, hb1, by simp, by decide, by decide, by decide, fun w1 hw1 => ?_⟩
    obtain ⟨B2, eB2⟩ : ∃ K1, K1 = upd B1 w1 (.tup (List.replicate (201 : Int).toNat [V.str "a\n"]).flatten) := ⟨_, rfl⟩
    rw [← eB2]
    have hb2 : SqT K B2 w1 ((List.replicate 201 ("a\n" : Str)).map V.str) := by rw [eB2]; exact .inl (.inl upd_same)
    refine ⟨by show 1 ≤ sizeLine; decide, fun t2 ht2 => ?_⟩
    obtain ⟨B3, eB3⟩ : ∃ K1, K1 = upd B2 t2 (.tup [.str "b\n"]) := ⟨_, rfl⟩
    rw [← eB3]
    have y3 : Same B2 B3 := by rw [eB3]; exact same_new ht2
    have hb3 : SqT K B3 t2 [.str "b\n"] := by rw [eB3]; exact .inl (.inl upd_same)
    refine ⟨t2, 200, _, rfl, rfl, hb3, by simp, by decide, by decide, by decide, fun w2 hw2 => ?_⟩
    obtain ⟨B4, eB4⟩ : ∃ K1, K1 = upd B3 w2 (.tup (List.replicate (200 : Int).toNat [V.str "b\n"]).flatten) := ⟨_, rfl⟩
    rw [← eB4]
    have y4 : Same B3 B4 := by rw [eB4]; exact same_new hw2
    have hb4 : SqT K B4 w2 ((List.replicate 200 ("b\n" : Str)).map V.str) := by rw [eB4]; exact .inl (.inl upd_same)
    have hb2' := y4.seqT (y3.seqT hb2)
    refine ⟨w1, w2, _, _, rfl, hb2', hb4, by rw [List.length_replicate]; decide, by rw [List.length_replicate]; decide, fun s _ _ _ _ _ B5 y5 => ?_, fun ⟨s, h1, h2, h3, h4, h5⟩ => ?_⟩
    · refine ⟨_, he, fun _ ea hea => ?_, fun e => absurd e (by decide)⟩
      dsimp only [tSuite]
      refine ⟨by show 1 ≤ sizeLine; decide, fun t3 ht3 => ?_⟩
      obtain ⟨C1, eC1⟩ : ∃ K1, K1 = upd B5 t3 (.tup [.str "a\n"]) := ⟨_, rfl⟩
      rw [← eC1]
      have hc1 : SqT K C1 t3 [.str "a\n"] := by rw [eC1]; exact .inl (.inl upd_same)
      refine ⟨t3, 201, _, rfl, rfl, hc1, by simp, by decide, by decide, by decide, fun w3 hw3 => ?_⟩
      obtain ⟨C2, eC2⟩ : ∃ K1, K1 = upd C1 w3 (.tup (List.replicate (201 : Int).toNat [V.str "a\n"]).flatten) := ⟨_, rfl⟩
      rw [← eC2]
      have hc2 : SqT K C2 w3 ((List.replicate 201 ("a\n" : Str)).map V.str) := by rw [eC2]; exact .inl (.inl upd_same)
      refine ⟨by show 1 ≤ sizeLine; decide, fun t4 ht4 => ?_⟩
      obtain ⟨C3, eC3⟩ : ∃ K1, K1 = upd C2 t4 (.tup [.str "a\n"]) := ⟨_, rfl⟩
      rw [← eC3]
      have x3 : Same C2 C3 := by rw [eC3]; exact same_new ht4
      have hc3 : SqT K C3 t4 [.str "a\n"] := by rw [eC3]; exact .inl (.inl upd_same)
      refine ⟨t4, 201, _, rfl, rfl, hc3, by simp, by decide, by decide, by decide, fun w4 hw4 => ?_⟩
      obtain ⟨C4, eC4⟩ : ∃ K1, K1 = upd C3 w4 (.tup (List.replicate (201 : Int).toNat [V.str "a\n"]).flatten) := ⟨_, rfl⟩
      rw [← eC4]
      have x4 : Same C3 C4 := by rw [eC4]; exact same_new hw4
      have hc4 : SqT K C4 w4 ((List.replicate 201 ("a\n" : Str)).map V.str) := by rw [eC4]; exact .inl (.inl upd_same)
      refine ⟨w3, w4, List.replicate 201 ("a\n" : Str), rfl, x4.seqT (x3.seqT hc2), hc4, by rw [List.length_replicate]; decide, fun C5 v5 x5 d5 => ?_⟩
      rw [show eqD (List.replicate 201 ("a\n" : Str)) = pairsD (diag 201) from by unfold eqD; rw [List.length_replicate]] at d5
      refine ⟨201, rfl, by decide, by decide, fun fo hfo => ?_⟩
      refine lc_range (lo := 0) (n := (201 : Int).toNat) (fun i H' => ∃ ws, H' fo = some (.lst ws) ∧ DpAll K H' ws ((diag i).map pairD) ∧ Same C5 H') ⟨[], upd_same, .nil, same_new hfo⟩ ?_ ?_
      · rintro i H3 hi ⟨ws, hw, hd, s3⟩
        refine ⟨rfl, _, rfl, _, rfl, by show 2 ≤ sizeLine; decide, fun p hp => ?_⟩
        have hw4 : upd H3 p (.tup [.int (0 + (i : Nat)), .int (0 + (i : Nat))]) fo = some (.lst ws) := by rw [upd_ne (ne_of_none hw hp)]; exact hw
        have lw : ws.length < 2000 := by
          have := dpAll_len hd
          unfold diag at this
          simp at this
          have e201 : (201 : Int).toNat = 201 := rfl
          omega
        refine ⟨ws, hw4, Nat.lt_of_lt_of_le lw (by decide), ws ++ [.ref p], upd_same, ?_, ?_⟩
        · have tk : TK K H3 (upd (upd H3 p (.tup [.int (0 + (i : Nat)), .int (0 + (i : Nat))])) fo (.lst (ws ++ [.ref p]))) := (TK.new hp).trans (TK.lst hw4)
          have ed : diag (i + 1) = diag i ++ [(i, i)] := by
            unfold diag
            rw [List.range_succ, List.map_append]; rfl
          rw [ed, List.map_append]
          refine dpAll_app (pairs_keep tk hd) (dpAll_one (dp_pair ?_))
          refine TK.lst hw4 _ _ (.inl (.inl ?_))
          rw [upd_same, Int.zero_add]
        · exact same_mut (s3.trans (same_new hp)) hfo
      · rintro H3 ⟨ws, hw, hd, s3⟩
        have es : (201 : Int).toNat = 201 := rfl
        rw [es] at hd
        refine ⟨fo, ws, rfl, .inl ⟨SqL.of hw, fun l hl => ?_⟩⟩
        have sl := same_new (o := .tup ws) hl
        refine eq_same (dp_keep (TK.same (s3.trans sl)) _ _ (imm_pairs _) d5) (.tup (.inl (.inl upd_same)) (pairs_keep (TK.same sl) hd)) (okD_pairs _) (by decide) ?_
        exact k _
    · exfalso
      rw [List.length_replicate, List.length_replicate] at *
      cases s with
      | zero => exact absurd h5 (by decide)
      | succ s =>
        have := h4 0 (Nat.succ_pos s)
        exact absurd this (by decide)
end
end VK
end

section
set_option Elab.async false
set_option linter.all false
set_option maxRecDepth 100000
set_option maxHeartbeats 8000000
namespace LamX
open PySem PySem.Spec PyProof.Rows L2
/-- as walk_ofTs; the head's facts of the table of the def nmI are given to F -/
theorem walk_ofTsP {l : PySem.W.OpenLaw} {n k : Nat} {q : Program} {loose : List Str} {XP : (Str → Option Value) → Heap → Prop} {YP : World → Heap → Prop} {d : DefRec} {K : Params → PySem.W.Frag} {CX : World → CXT} {x nmI : Str}
    (hn : l.most = some n) (hn2 : n ≤ sizeLine) (hdf : d.params.defaults = []) (hr : Room k callerA) (hrec : ((recsOf q).find? fun e => e.name == nmI).isSome = true) (hY : ∀ (w : World) (h : Heap), YP w h → (K w.params).In h)
    (F : ∀ (w : World) (mg : Str → Option Value) (fa : Addr) (h : Heap), YP w h → (K w.params).In h → h.Ns mainGlobals mg → mg d.name = some (.ref fa) →
      (∀ c P : Addr, PySem.W.tabIn (K w.params) nmI = some (c, P) → PySem.W.CodeHd h c P ∧ h.get? P = some { cls := .none, data := .fields #[] }) → LawAtS l w (K w.params) (CX w) k n x mg fa h)
    (hCX : ∀ (w : World) (H : Hp) (s : Shared) (e : Value) (s' : Shared), CX w [] H s (fun _ _ _ => False) e s' → False) :
    PySem.W.WalkO q loose XP YP l.row.toRowW d [] (fun f vs => PySem.call f vs) := by
  refine Att.attach_callB hn hdf fun w s₀ s₁ mg mb fa o pm cd doc a vs ns G Y ho hd hcd hmg hobj hints hlen hbits hg => ?_
  have KX := hY w _ Y
  obtain ⟨dI, hdI⟩ := Option.isSome_iff_exists.mp hrec
  obtain ⟨fd, cs, sp, hT, nT, C, hb, hsp, hF⟩ := F w mg fa _ Y KX G.T.g hmg fun c P e => PySem.W.tab_of G.T KX hdI e
  exact law_callTs KX G.T.g G.T.b G.T.builtins G.T.nolimit hg hT nT C G.T.bmain hobj hints (Nat.le_trans hlen hn2) hr hF hb (fun H hH hS => hsp H a ns hlen hbits hH hS) fun H e s' => hCX w H s₁ e s'
end LamX
namespace VK
open PySem L2
/-- an error of the class at S is what «except S» names -/
theorem exm_selfK {K : PySem.W.Frag} {S : Addr} (h1 : PySem.W.subIn K (.ref S) (.type "BaseException") = some true) (h2 : PySem.W.isClsIn K S = true) (h3 : PySem.W.typeIn K (.ref S) = some (.type "type")) (h4 : PySem.W.subIn K (.ref S) (.ref S) = some true) :
    PySem.W.exmOne K (.ref S) (.ref S) = some true := by
  have e1 : (PySem.W.subIn K (.ref S) (.type "BaseException") == some true) = true := by rw [h1] <;> rfl
  have e2 : ((PySem.W.clsIn K S).isSome && PySem.W.typeIn K (.ref S) == some (.type "type")) = true := by
    have h2' : (PySem.W.clsIn K S).isSome = true := h2
    rw [h2', h3] <;> rfl
  show (if (PySem.W.subIn K (.ref S) (.type "BaseException") == some true) = true then (if ((PySem.W.clsIn K S).isSome && PySem.W.typeIn K (.ref S) == some (.type "type")) = true then PySem.W.subIn K (.ref S) (.ref S) else none) else none) = some true
  rw [if_pos e1, if_pos e2]
  exact h4
theorem tabB_of {base : Heap} {mg : Str → Option Value} {c P : Addr} (h : LamX.TabB base mg c P) : GxR.TabB base mg c P := ⟨h.code, h.bm, h.gP⟩
theorem funC_mk {K : PySem.W.Frag} {x qual : Str} {st : Stmt} {f c : Addr} {oc : Value} {od an : Option Addr} {osl : Array (Option Value)} {kV doc pm ct : Value} (l : K.lookup f = some ⟨oc, od, .func (PySem.W.fnOf x qual (defArgs st) (defBody st) (defScope st) .none kV doc pm an (.ref c) ct), osl⟩)
    (h : PySem.W.codeIn K (.ref c) qual = true) (k : PySem.W.keepIn K (.ref f) = true) : FunC K x qual st f c (PySem.W.fnOf x qual (defArgs st) (defBody st) (defScope st) .none kV doc pm an (.ref c) ct) := ⟨⟨oc, od, kV, doc, pm, an, ct, osl, rfl, l, h⟩, k⟩
theorem tabIn_mk {K : PySem.W.Frag} {x qual : Str} {st : Stmt} {f c Pt : Addr} {oc oc2 : Value} {od an od2 : Option Addr} {osl osl2 : Array (Option Value)} {kV doc pm ct : Value} {vs : Array Value} (a : PySem.W.nsIn K mainGlobals x = some (some (.ref f)))
    (l : K.lookup f = some ⟨oc, od, .func (PySem.W.fnOf x qual (defArgs st) (defBody st) (defScope st) .none kV doc pm an (.ref c) ct), osl⟩) (l2 : K.lookup c = some ⟨oc2, od2, .fields vs, osl2⟩) (e : vs[11]? = some (.ref Pt)) : PySem.W.tabIn K x = some (c, Pt) := by
  unfold PySem.W.tabIn
  rw [a]
  dsimp only
  rw [l]
  dsimp only [PySem.W.fnOf]
  rw [l2]
  dsimp only
  rw [e]
theorem all_mk {l : PySem.W.OpenLaw} {w : World} {K : PySem.W.Frag} {h : Heap} {mg : Str → Option Value} {fa C cI Pt fDr fLi fTa fPa fHu fAp fBe fLc fK fHo fFa fLk fCo fLo fTx fIs fCt fN fW : Addr} (X : K.In h) (G : h.Ns mainGlobals mg) (hfa : mg "law" = some (.ref fa))
    {odDr anDr odLi anLi odTa anTa odPa anPa odHu anHu odAp anAp odBe anBe odLc anLc odK anK odHo anHo odFa anFa odLk anLk odCo anCo odLo anLo odTx anTx odIs anIs odCt anCt odN anN odW anW odI : Option Addr} {slDr slLi slTa slPa slHu slAp slBe slLc slK slHo slFa slLk slCo slLo slTx slIs slCt slN slW slI : Array (Option Value)} {ocDr kVDr dcDr pmDr ctDr cdDr ocLi kVLi dcLi pmLi ctLi cdLi ocTa kVTa dcTa pmTa ctTa cdTa ocPa kVPa dcPa pmPa ctPa cdPa ocHu kVHu dcHu pmHu ctHu cdHu ocAp kVAp dcAp pmAp ctAp cdAp ocBe kVBe dcBe pmBe ctBe cdBe ocLc kVLc dcLc pmLc ctLc cdLc ocK kVK dcK pmK ctK cdK ocHo kVHo dcHo pmHo ctHo cdHo ocFa kVFa dcFa pmFa ctFa cdFa ocLk kVLk dcLk pmLk ctLk cdLk ocCo kVCo dcCo pmCo ctCo cdCo ocLo kVLo dcLo pmLo ctLo cdLo ocTx kVTx dcTx pmTx ctTx cdTx ocIs kVIs dcIs pmIs ctIs ocCt kVCt dcCt pmCt ctCt cdCt ocN kVN dcN pmN ctN cdN ocW kVW dcW pmW ctW cdW ocI : Value}
    {vsI : Array Value}
    (aDr : PySem.W.nsIn K mainGlobals "_law_draw" = some (some (.ref fDr))) (lDr : K.lookup fDr = some ⟨ocDr, odDr, .func (PySem.W.fnOf "_law_draw" "_law_draw" (defArgs s__law_draw) (defBody s__law_draw) (defScope s__law_draw) .none kVDr dcDr pmDr anDr cdDr ctDr), slDr⟩) (cDr : PySem.W.codeIn K cdDr "_law_draw" = true) (kDr : PySem.W.keepIn K (.ref fDr) = true)
    (aLi : PySem.W.nsIn K mainGlobals "_law_lines" = some (some (.ref fLi))) (lLi : K.lookup fLi = some ⟨ocLi, odLi, .func (PySem.W.fnOf "_law_lines" "_law_lines" (defArgs s__law_lines) (defBody s__law_lines) (defScope s__law_lines) .none kVLi dcLi pmLi anLi cdLi ctLi), slLi⟩) (cLi : PySem.W.codeIn K cdLi "_law_lines" = true) (kLi : PySem.W.keepIn K (.ref fLi) = true)
    (aTa : PySem.W.nsIn K mainGlobals "_law_table" = some (some (.ref fTa))) (lTa : K.lookup fTa = some ⟨ocTa, odTa, .func (PySem.W.fnOf "_law_table" "_law_table" (defArgs s__law_table) (defBody s__law_table) (defScope s__law_table) .none kVTa dcTa pmTa anTa cdTa ctTa), slTa⟩) (cTa : PySem.W.codeIn K cdTa "_law_table" = true) (kTa : PySem.W.keepIn K (.ref fTa) = true)
    (aPa : PySem.W.nsIn K mainGlobals "_law_pairs" = some (some (.ref fPa))) (lPa : K.lookup fPa = some ⟨ocPa, odPa, .func (PySem.W.fnOf "_law_pairs" "_law_pairs" (defArgs s__law_pairs) (defBody s__law_pairs) (defScope s__law_pairs) .none kVPa dcPa pmPa anPa cdPa ctPa), slPa⟩) (cPa : PySem.W.codeIn K cdPa "_law_pairs" = true) (kPa : PySem.W.keepIn K (.ref fPa) = true)
    (aHu : PySem.W.nsIn K mainGlobals "_law_hunks" = some (some (.ref fHu))) (lHu : K.lookup fHu = some ⟨ocHu, odHu, .func (PySem.W.fnOf "_law_hunks" "_law_hunks" (defArgs s__law_hunks) (defBody s__law_hunks) (defScope s__law_hunks) .none kVHu dcHu pmHu anHu cdHu ctHu), slHu⟩) (cHu : PySem.W.codeIn K cdHu "_law_hunks" = true) (kHu : PySem.W.keepIn K (.ref fHu) = true)
    (aAp : PySem.W.nsIn K mainGlobals "_law_apply" = some (some (.ref fAp))) (lAp : K.lookup fAp = some ⟨ocAp, odAp, .func (PySem.W.fnOf "_law_apply" "_law_apply" (defArgs s__law_apply) (defBody s__law_apply) (defScope s__law_apply) .none kVAp dcAp pmAp anAp cdAp ctAp), slAp⟩) (cAp : PySem.W.codeIn K cdAp "_law_apply" = true) (kAp : PySem.W.keepIn K (.ref fAp) = true)
    (aBe : PySem.W.nsIn K mainGlobals "_law_best" = some (some (.ref fBe))) (lBe : K.lookup fBe = some ⟨ocBe, odBe, .func (PySem.W.fnOf "_law_best" "_law_best" (defArgs s__law_best) (defBody s__law_best) (defScope s__law_best) .none kVBe dcBe pmBe anBe cdBe ctBe), slBe⟩) (cBe : PySem.W.codeIn K cdBe "_law_best" = true) (kBe : PySem.W.keepIn K (.ref fBe) = true)
    (aLc : PySem.W.nsIn K mainGlobals "_law_context" = some (some (.ref fLc))) (lLc : K.lookup fLc = some ⟨ocLc, odLc, .func (PySem.W.fnOf "_law_context" "_law_context" (defArgs s__law_context) (defBody s__law_context) (defScope s__law_context) .none kVLc dcLc pmLc anLc cdLc ctLc), slLc⟩) (cLc : PySem.W.codeIn K cdLc "_law_context" = true) (kLc : PySem.W.keepIn K (.ref fLc) = true)
    (aK : PySem.W.nsIn K mainGlobals "kept_pairs" = some (some (.ref fK))) (lK : K.lookup fK = some ⟨ocK, odK, .func (PySem.W.fnOf "kept_pairs" "kept_pairs" (defArgs s_kept_pairs) (defBody s_kept_pairs) (defScope s_kept_pairs) .none kVK dcK pmK anK cdK ctK), slK⟩) (cK : PySem.W.codeIn K cdK "kept_pairs" = true) (kK : PySem.W.keepIn K (.ref fK) = true)
    (aHo : PySem.W.nsIn K mainGlobals "hunks_of" = some (some (.ref fHo))) (lHo : K.lookup fHo = some ⟨ocHo, odHo, .func (PySem.W.fnOf "hunks_of" "hunks_of" (defArgs s_hunks_of) (defBody s_hunks_of) (defScope s_hunks_of) .none kVHo dcHo pmHo anHo cdHo ctHo), slHo⟩) (cHo : PySem.W.codeIn K cdHo "hunks_of" = true) (kHo : PySem.W.keepIn K (.ref fHo) = true)
    (aFa : PySem.W.nsIn K mainGlobals "far" = some (some (.ref fFa))) (lFa : K.lookup fFa = some ⟨ocFa, odFa, .func (PySem.W.fnOf "far" "far" (defArgs s_far) (defBody s_far) (defScope s_far) .none kVFa dcFa pmFa anFa cdFa ctFa), slFa⟩) (cFa : PySem.W.codeIn K cdFa "far" = true) (kFa : PySem.W.keepIn K (.ref fFa) = true)
    (aLk : PySem.W.nsIn K mainGlobals "likeness" = some (some (.ref fLk))) (lLk : K.lookup fLk = some ⟨ocLk, odLk, .func (PySem.W.fnOf "likeness" "likeness" (defArgs s_likeness) (defBody s_likeness) (defScope s_likeness) .none kVLk dcLk pmLk anLk cdLk ctLk), slLk⟩) (cLk : PySem.W.codeIn K cdLk "likeness" = true) (kLk : PySem.W.keepIn K (.ref fLk) = true)
    (aCo : PySem.W.nsIn K mainGlobals "context_of" = some (some (.ref fCo))) (lCo : K.lookup fCo = some ⟨ocCo, odCo, .func (PySem.W.fnOf "context_of" "context_of" (defArgs s_context_of) (defBody s_context_of) (defScope s_context_of) .none kVCo dcCo pmCo anCo cdCo ctCo), slCo⟩) (cCo : PySem.W.codeIn K cdCo "context_of" = true) (kCo : PySem.W.keepIn K (.ref fCo) = true)
    (aLo : PySem.W.nsIn K mainGlobals "lines_of" = some (some (.ref fLo))) (lLo : K.lookup fLo = some ⟨ocLo, odLo, .func (PySem.W.fnOf "lines_of" "lines_of" (defArgs s_lines_of) (defBody s_lines_of) (defScope s_lines_of) .none kVLo dcLo pmLo anLo cdLo ctLo), slLo⟩) (cLo : PySem.W.codeIn K cdLo "lines_of" = true) (kLo : PySem.W.keepIn K (.ref fLo) = true)
    (aTx : PySem.W.nsIn K mainGlobals "text_from" = some (some (.ref fTx))) (lTx : K.lookup fTx = some ⟨ocTx, odTx, .func (PySem.W.fnOf "text_from" "text_from" (defArgs s_text_from) (defBody s_text_from) (defScope s_text_from) .none kVTx dcTx pmTx anTx cdTx ctTx), slTx⟩) (cTx : PySem.W.codeIn K cdTx "text_from" = true) (kTx : PySem.W.keepIn K (.ref fTx) = true)
    (aIs : PySem.W.nsIn K mainGlobals "is_lines" = some (some (.ref fIs))) (lIs : K.lookup fIs = some ⟨ocIs, odIs, .func (PySem.W.fnOf "is_lines" "is_lines" (defArgs s_is_lines) (defBody s_is_lines) (defScope s_is_lines) .none kVIs dcIs pmIs anIs (.ref cI) ctIs), slIs⟩) (cIs : PySem.W.codeIn K (.ref cI) "is_lines" = true) (kIs : PySem.W.keepIn K (.ref fIs) = true)
    (aCt : PySem.W.nsIn K mainGlobals "common_table" = some (some (.ref fCt))) (lCt : K.lookup fCt = some ⟨ocCt, odCt, .func (PySem.W.fnOf "common_table" "common_table" (defArgs s_common_table) (defBody s_common_table) (defScope s_common_table) .none kVCt dcCt pmCt anCt cdCt ctCt), slCt⟩) (cCt : PySem.W.codeIn K cdCt "common_table" = true) (kCt : PySem.W.keepIn K (.ref fCt) = true)
    (aN : PySem.W.nsIn K mainGlobals "next_pair" = some (some (.ref fN))) (lN : K.lookup fN = some ⟨ocN, odN, .func (PySem.W.fnOf "next_pair" "next_pair" (defArgs s_next_pair) (defBody s_next_pair) (defScope s_next_pair) .none kVN dcN pmN anN cdN ctN), slN⟩) (cN : PySem.W.codeIn K cdN "next_pair" = true) (kN : PySem.W.keepIn K (.ref fN) = true)
    (aW : PySem.W.nsIn K mainGlobals "law" = some (some (.ref fW))) (lW : K.lookup fW = some ⟨ocW, odW, .func (PySem.W.fnOf "law" "law" (defArgs s_law) (defBody s_law) (defScope s_law) .none kVW dcW pmW anW cdW ctW), slW⟩) (cW : PySem.W.codeIn K cdW "law" = true) (kW : PySem.W.keepIn K (.ref fW) = true)
    (gC : PySem.W.nsIn K mainGlobals "TooLarge" = some (some (.ref C))) (xC : PySem.W.excIn K C [.type "ValueError", .type "Exception", .type "BaseException", .type "object"] "ValueError.__new__" = true) (kC : PySem.W.keepIn K (.ref C) = true) (sC : PySem.W.subIn K (.ref C) (.type "BaseException") = some true) (tC : PySem.W.typeIn K (.ref C) = some (.type "type"))
    (iC : PySem.W.isClsIn K C = true) (uC : PySem.W.subIn K (.ref C) (.ref C) = some true) {tM : Tok} (gM : PySem.W.nsIn K mainGlobals "MOST_PLACES" = some (some (.int 40000 tM)))
    (lI : K.lookup cI = some ⟨ocI, odI, .fields vsI, slI⟩) (eI : vsI[11]? = some (.ref Pt)) (nI : K.lookup Pt = none)
    (z_len : PySem.W.nsIn K mainGlobals "len" = some none) (z_int : PySem.W.nsIn K mainGlobals "int" = some none) (z_range : PySem.W.nsIn K mainGlobals "range" = some none) (z_tuple : PySem.W.nsIn K mainGlobals "tuple" = some none) (z_list : PySem.W.nsIn K mainGlobals "list" = some none) (z_min : PySem.W.nsIn K mainGlobals "min" = some none) (z_max : PySem.W.nsIn K mainGlobals "max" = some none) (z_enumerate : PySem.W.nsIn K mainGlobals "enumerate" = some none) (z_isinstance : PySem.W.nsIn K mainGlobals "isinstance" = some none) (z_str : PySem.W.nsIn K mainGlobals "str" = some none) (z_all : PySem.W.nsIn K mainGlobals "all" = some none) (z_any : PySem.W.nsIn K mainGlobals "any" = some none)
    (tab : ∀ c P : Addr, PySem.W.tabIn K "is_lines" = some (c, P) → PySem.W.CodeHd h c P ∧ h.get? P = some { cls := .none, data := .fields #[] }) : LamX.LawAtS l w K CX0 4 63 "script" mg fa h := by
  have e := hfa.symm.trans (PySem.W.mg_of X G aW)
  cases e
  obtain ⟨hC, hT⟩ := tab cI Pt (tabIn_mk (st := s_is_lines) aIs lIs lI eI)
  have T0 : Txt0 mg := ⟨PySem.W.mg_none_of X G z_len, PySem.W.mg_none_of X G z_int, PySem.W.mg_none_of X G z_range, PySem.W.mg_none_of X G z_tuple, PySem.W.mg_none_of X G z_list, PySem.W.mg_none_of X G z_min, PySem.W.mg_none_of X G z_max, PySem.W.mg_none_of X G z_enumerate⟩
  have T1 : Txt1 mg := ⟨PySem.W.mg_none_of X G z_isinstance, PySem.W.mg_none_of X G z_str, PySem.W.mg_none_of X G z_all, PySem.W.mg_none_of X G z_any⟩
  have FDr := fun_mk (st := s__law_draw) lDr cDr kDr
  have DDr : Df K mg "_law_draw" s__law_draw ["state", "limit"] fDr _ := ⟨FDr, PySem.W.mg_of X G aDr, FDr.binds fun _ _ _ _ _ _ us hl => match us, hl with | [_, _], _ => rfl⟩
  have FLi := fun_mk (st := s__law_lines) lLi cLi kLi
  have DLi : Df K mg "_law_lines" s__law_lines ["state", "many"] fLi _ := ⟨FLi, PySem.W.mg_of X G aLi, FLi.binds fun _ _ _ _ _ _ us hl => match us, hl with | [_, _], _ => rfl⟩
  have FTa := fun_mk (st := s__law_table) lTa cTa kTa
  have DTa : Df K mg "_law_table" s__law_table ["one", "two"] fTa _ := ⟨FTa, PySem.W.mg_of X G aTa, FTa.binds fun _ _ _ _ _ _ us hl => match us, hl with | [_, _], _ => rfl⟩
  have FPa := fun_mk (st := s__law_pairs) lPa cPa kPa
  have DPa : Df K mg "_law_pairs" s__law_pairs ["one", "two"] fPa _ := ⟨FPa, PySem.W.mg_of X G aPa, FPa.binds fun _ _ _ _ _ _ us hl => match us, hl with | [_, _], _ => rfl⟩
  have FHu := fun_mk (st := s__law_hunks) lHu cHu kHu
  have DHu : Df K mg "_law_hunks" s__law_hunks ["one", "two"] fHu _ := ⟨FHu, PySem.W.mg_of X G aHu, FHu.binds fun _ _ _ _ _ _ us hl => match us, hl with | [_, _], _ => rfl⟩
  have FAp := fun_mk (st := s__law_apply) lAp cAp kAp
  have DAp : Df K mg "_law_apply" s__law_apply ["lines", "patch"] fAp _ := ⟨FAp, PySem.W.mg_of X G aAp, FAp.binds fun _ _ _ _ _ _ us hl => match us, hl with | [_, _], _ => rfl⟩
  have FBe := fun_mk (st := s__law_best) lBe cBe kBe
  have DBe : Df K mg "_law_best" s__law_best ["one", "two"] fBe _ := ⟨FBe, PySem.W.mg_of X G aBe, FBe.binds fun _ _ _ _ _ _ us hl => match us, hl with | [_, _], _ => rfl⟩
  have FLc := fun_mk (st := s__law_context) lLc cLc kLc
  have DLc : Df K mg "_law_context" s__law_context ["one", "hunks", "around"] fLc _ := ⟨FLc, PySem.W.mg_of X G aLc, FLc.binds fun _ _ _ _ _ _ us hl => match us, hl with | [_, _, _], _ => rfl⟩
  have FK := fun_mk (st := s_kept_pairs) lK cK kK
  have DK : Df K mg "kept_pairs" s_kept_pairs ["one", "two"] fK _ := ⟨FK, PySem.W.mg_of X G aK, FK.binds fun _ _ _ _ _ _ us hl => match us, hl with | [_, _], _ => rfl⟩
  have FHo := fun_mk (st := s_hunks_of) lHo cHo kHo
  have DHo : Df K mg "hunks_of" s_hunks_of ["one", "two"] fHo _ := ⟨FHo, PySem.W.mg_of X G aHo, FHo.binds fun _ _ _ _ _ _ us hl => match us, hl with | [_, _], _ => rfl⟩
  have FFa := fun_mk (st := s_far) lFa cFa kFa
  have DFa : Df K mg "far" s_far ["one", "two"] fFa _ := ⟨FFa, PySem.W.mg_of X G aFa, FFa.binds fun _ _ _ _ _ _ us hl => match us, hl with | [_, _], _ => rfl⟩
  have FLk := fun_mk (st := s_likeness) lLk cLk kLk
  have DLk : Df K mg "likeness" s_likeness ["one", "two"] fLk _ := ⟨FLk, PySem.W.mg_of X G aLk, FLk.binds fun _ _ _ _ _ _ us hl => match us, hl with | [_, _], _ => rfl⟩
  have FCo := fun_mk (st := s_context_of) lCo cCo kCo
  have DCo : Df K mg "context_of" s_context_of ["one", "hunks", "around"] fCo _ := ⟨FCo, PySem.W.mg_of X G aCo, FCo.binds fun _ _ _ _ _ _ us hl => match us, hl with | [_, _, _], _ => rfl⟩
  have FLo := fun_mk (st := s_lines_of) lLo cLo kLo
  have DLo : Df K mg "lines_of" s_lines_of ["text"] fLo _ := ⟨FLo, PySem.W.mg_of X G aLo, FLo.binds fun _ _ _ _ _ _ us hl => match us, hl with | [_], _ => rfl⟩
  have FTx := fun_mk (st := s_text_from) lTx cTx kTx
  have DTx : Df K mg "text_from" s_text_from ["lines"] fTx _ := ⟨FTx, PySem.W.mg_of X G aTx, FTx.binds fun _ _ _ _ _ _ us hl => match us, hl with | [_], _ => rfl⟩
  have FIs := funC_mk (st := s_is_lines) lIs cIs kIs
  have FCt := fun_mk (st := s_common_table) lCt cCt kCt
  have DCt : Df K mg "common_table" s_common_table ["one", "two"] fCt _ := ⟨FCt, PySem.W.mg_of X G aCt, FCt.binds fun _ _ _ _ _ _ us hl => match us, hl with | [_, _], _ => rfl⟩
  have FN := fun_mk (st := s_next_pair) lN cN kN
  have DN : Df K mg "next_pair" s_next_pair ["one", "two", "table", "place"] fN _ := ⟨FN, PySem.W.mg_of X G aN, FN.binds fun _ _ _ _ _ _ us hl => match us, hl with | [_, _, _, _], _ => rfl⟩
  have FW := fun_mk (st := s_law) lW cW kW
  have DIs : DfC K mg "is_lines" s_is_lines ["value"] fIs cI _ := ⟨FIs, PySem.W.mg_of X G aIs, .all fun us hl => match us, hl with | [_], _ => rfl⟩
  refine ⟨_, [(cI, Pt)], spLaw K Pt, fun p hp => ?_, fun p hp => ?_, fun p hp => ?_, fun s u => .of_eq (fd := PySem.W.fnOf "law" "law" (defArgs s_law) (defBody s_law) (defScope s_law) .none kVW dcW pmW anW cdW ctW) rfl, fun H a ns hl hb hH hS => ⟨a, ns, rfl, hS, ⟨#[], hH (cI, Pt) (List.mem_singleton.mpr rfl), trivial⟩, fun _ => rfl⟩, fun base hK hg hTB => ?_⟩
  · rw [List.mem_singleton.mp hp]
    exact hT
  · rw [List.mem_singleton.mp hp]
    exact nI
  · rw [List.mem_singleton.mp hp]
    exact hC
  · exact ok_law FW T0 T1 ⟨PySem.W.mg_of X G gC, xC, kC, sC, tC⟩ (PySem.W.mg_of X G gM) (exm_selfK sC iC tC uC) (tabB_of (hTB (cI, Pt) (List.mem_singleton.mpr rfl)))
      DDr DLi DTa DPa DHu DAp DBe DLc DK DHo DFa DLk DCo DLo DTx DIs DCt DN
end VK
end

section
set_option Elab.async false
set_option linter.all false
set_option maxRecDepth 100000
open PySem PySem.W PyProof.Rows
set_option maxHeartbeats 0 in
theorem PySem.Challenge.cw_versionkept_k03_whole_least_scripts_of_l_holds : PySem.Challenge.rw_versionkept_k03_whole_least_scripts_of_l.Holds := by
  w_on; o_law; k_head; (case hw => w_witness2)
  k_fill
  refine LamX.walk_ofTsP (l := PySem.Challenge.rw_versionkept_k03_whole_least_scripts_of_l) (n := 63) (k := 4) (x := "script") (nmI := "is_lines") (CX := fun _ => L2.CX0) rfl (by decide) rfl ⟨rfl, by decide, by decide⟩ (by rfl) (fun w h Y => PySem.W.kIn_of Y) ?F (fun _ _ _ _ _ z => z)
  case F =>
    intro w mg fa h Y KX G hmg tab
    refine' VK.all_mk KX G hmg ?aDr ?lDr ?cDr ?kDr ?aLi ?lLi ?cLi ?kLi ?aTa ?lTa ?cTa ?kTa ?aPa ?lPa ?cPa ?kPa ?aHu ?lHu ?cHu ?kHu ?aAp ?lAp ?cAp ?kAp ?aBe ?lBe ?cBe ?kBe ?aLc ?lLc ?cLc ?kLc ?aK ?lK ?cK ?kK ?aHo ?lHo ?cHo ?kHo ?aFa ?lFa ?cFa ?kFa ?aLk ?lLk ?cLk ?kLk ?aCo ?lCo ?cCo ?kCo ?aLo ?lLo ?cLo ?kLo ?aTx ?lTx ?cTx ?kTx ?aIs ?lIs ?cIs ?kIs ?aCt ?lCt ?cCt ?kCt ?aN ?lN ?cN ?kN ?aW ?lW ?cW ?kW ?gC ?xC ?kC ?sC ?tC ?iC ?uC ?gM ?lI ?eI ?nI ?z_len ?z_int ?z_range ?z_tuple ?z_list ?z_min ?z_max ?z_enumerate ?z_isinstance ?z_str ?z_all ?z_any tab
    (case aDr => first | k_is | rfl)
    (case lDr => first | k_is | rfl)
    (case cDr => first | k_is | rfl)
    (case kDr => first | k_is | rfl)
    (case aLi => first | k_is | rfl)
    (case lLi => first | k_is | rfl)
    (case cLi => first | k_is | rfl)
    (case kLi => first | k_is | rfl)
    (case aTa => first | k_is | rfl)
    (case lTa => first | k_is | rfl)
    (case cTa => first | k_is | rfl)
    (case kTa => first | k_is | rfl)
    (case aPa => first | k_is | rfl)
    (case lPa => first | k_is | rfl)
    (case cPa => first | k_is | rfl)
    (case kPa => first | k_is | rfl)
    (case aHu => first | k_is | rfl)
    (case lHu => first | k_is | rfl)
    (case cHu => first | k_is | rfl)
    (case kHu => first | k_is | rfl)
    (case aAp => first | k_is | rfl)
    (case lAp => first | k_is | rfl)
    (case cAp => first | k_is | rfl)
    (case kAp => first | k_is | rfl)
    (case aBe => first | k_is | rfl)
    (case lBe => first | k_is | rfl)
    (case cBe => first | k_is | rfl)
    (case kBe => first | k_is | rfl)
    (case aLc => first | k_is | rfl)
    (case lLc => first | k_is | rfl)
    (case cLc => first | k_is | rfl)
    (case kLc => first | k_is | rfl)
    (case aK => first | k_is | rfl)
    (case lK => first | k_is | rfl)
    (case cK => first | k_is | rfl)
    (case kK => first | k_is | rfl)
    (case aHo => first | k_is | rfl)
    (case lHo => first | k_is | rfl)
    (case cHo => first | k_is | rfl)
    (case kHo => first | k_is | rfl)
    (case aFa => first | k_is | rfl)
    (case lFa => first | k_is | rfl)
    (case cFa => first | k_is | rfl)
    (case kFa => first | k_is | rfl)
    (case aLk => first | k_is | rfl)
    (case lLk => first | k_is | rfl)
    (case cLk => first | k_is | rfl)
    (case kLk => first | k_is | rfl)
    (case aCo => first | k_is | rfl)
    (case lCo => first | k_is | rfl)
    (case cCo => first | k_is | rfl)
    (case kCo => first | k_is | rfl)
    (case aLo => first | k_is | rfl)
    (case lLo => first | k_is | rfl)
    (case cLo => first | k_is | rfl)
    (case kLo => first | k_is | rfl)
    (case aTx => first | k_is | rfl)
    (case lTx => first | k_is | rfl)
    (case cTx => first | k_is | rfl)
    (case kTx => first | k_is | rfl)
    (case aIs => first | k_is | rfl)
    (case lIs => first | k_is | rfl)
    (case cIs => first | k_is | rfl)
    (case kIs => first | k_is | rfl)
    (case aCt => first | k_is | rfl)
    (case lCt => first | k_is | rfl)
    (case cCt => first | k_is | rfl)
    (case kCt => first | k_is | rfl)
    (case aN => first | k_is | rfl)
    (case lN => first | k_is | rfl)
    (case cN => first | k_is | rfl)
    (case kN => first | k_is | rfl)
    (case aW => first | k_is | rfl)
    (case lW => first | k_is | rfl)
    (case cW => first | k_is | rfl)
    (case kW => first | k_is | rfl)
    (case gC => first | k_is | rfl)
    (case xC => first | kernel_rfl | rfl)
    (case kC => first | k_is | rfl)
    (case sC => first | k_is | rfl)
    (case tC => first | k_is | rfl)
    (case iC => first | k_is | rfl)
    (case uC => first | k_is | rfl)
    (case gM => first | k_is | rfl)
    (case lI => first | k_is | rfl)
    (case eI => rfl)
    (case nI => first | rfl | kernel_rfl)
    (case z_len => first | k_is | rfl)
    (case z_int => first | k_is | rfl)
    (case z_range => first | k_is | rfl)
    (case z_tuple => first | k_is | rfl)
    (case z_list => first | k_is | rfl)
    (case z_min => first | k_is | rfl)
    (case z_max => first | k_is | rfl)
    (case z_enumerate => first | k_is | rfl)
    (case z_isinstance => first | k_is | rfl)
    (case z_str => first | k_is | rfl)
    (case z_all => first | k_is | rfl)
    (case z_any => first | k_is | rfl)
#print axioms PySem.Challenge.cw_versionkept_k03_whole_least_scripts_of_l_holds
end
