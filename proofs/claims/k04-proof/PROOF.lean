import PyProof.Rows.All
import Wide.All
import OpenK.AllK
import Wide.FinOn
import HandS.ForMost
import HandS.TupAny
import HandS.TupMul
import HandS.Walk
import PySem.Challenge.RW_versionkept_k04_patches_that_are_joined
import HandS.ForExc
import HandS.Small
import HandS.ExcCtx
import HandS.SuiteRaise
import HandS.Style
import HandS.Iter
import KE.GoesMore
import HandS.AnyAll
import HandS.JoinGen
import PyProof.WalksMore
import HandS.Text
import HandS.IsInst
import PyProof.SliceStr2
import PyProof.IsiPairs
import PyProof.EqLayable
import KE.KExcSuper
import HandS.ExcSuper
import HandS.ExcField
import HandS.WordsExc
import HandS.ExcIs
import HandS.SortRule
import PyProof.EnumMake
import PyProof.Draws
import PyProof.IsiHeapPairs
import HandS.TupLe
import HandS.EndTab
import KE.KNest
section
set_option Elab.async false
set_option linter.all false
set_option maxRecDepth 100000
set_option maxHeartbeats 4000000
namespace VK
open PySem L2
def topS (i : Nat) : Stmt := PySem.Challenge.pw_versionkept_k04_patches_that_are_joined.main.body.getD i (.Pass ⟨0, 0, 0, 0⟩)
/-- the drawing state: what is left of the cell, the place, the script, the mixer -/
abbrev stL (s0 p : Int) (sc : Addr) (s3 : Int) : List V := [.int s0, .int p, .ref sc, .int s3]
structure StAt (K : PySem.W.Frag) (H : Hp) (st sc : Addr) (ns : List Int) : Prop where
  at_ : ∃ s0 p s3, H st = some (.lst (stL s0 p sc s3)) ∧ 0 ≤ p
  hsc : H sc = some (.lst (ns.map V.int))
  ne : sc ≠ st
theorem rd_upd {H : Hp} {a b : Addr} {o u : HO} (h : Rd H a u) (n : a ≠ b) : Rd (upd H b o) a u := by
  rcases h with h | ⟨x, h⟩
  · exact .inl (by rw [upd_ne n]; exact h)
  · exact .inr ⟨x, by rw [upd_ne n]; exact h⟩
theorem sql_upd {K : PySem.W.Frag} {H : Hp} {a b : Addr} {o : HO} {xs : List V} (h : SqL K H a xs) (n : a ≠ b) : SqL K (upd H b o) a xs := by
  rcases h with h | h
  · exact .inl (rd_upd h n)
  · exact .inr h
theorem sqt_upd {K : PySem.W.Frag} {H : Hp} {a b : Addr} {o : HO} {xs : List V} (h : SqT K H a xs) (n : a ≠ b) : SqT K (upd H b o) a xs := by
  rcases h with h | h
  · exact .inl (rd_upd h n)
  · exact .inr h
/-- a cut: what holds behind the first of two statements -/
theorem cut {t u : TS} {D : Ends} {σ : St} {H : Hp} (C : St → Hp → Prop) (h1 : ∀ nx : St → Hp → Prop, (∀ σ' H', C σ' H' → nx σ' H') → t { D with nx := nx } σ H) (h2 : ∀ σ' H', C σ' H' → u D σ' H') : tSeq t u D σ H := h1 (u D) h2
theorem seq_c {v : V} {i : Nat} {u : TS} {D : Ends} {σ : St} {H : Hp} (h : u D (σ.set i (some v)) H) : tSeq (tAsg (tC v) (gName i)) u D σ H := h
/-! rules whose reading names the written part itself: for a comprehension's block -/
def rLenQ (K : PySem.W.Frag) : List V → Hp → VK → Prop := fun xs H Q => ∃ (p : Addr) (ys : List V), xs = [.ref p] ∧ (SqL K H p ys ∨ SqT K H p ys) ∧ Q (.int (ys.length : Int)) H
theorem call_lenQ {X : Cx} {K : PySem.W.Frag} (h : X.K = K) : CallR X (.builtin "len") (rLenQ K) := by
  subst h
  exact call_len_seq
theorem ix_listQ {X : Cx} {K : PySem.W.Frag} (h : X.K = K) : IxR X (rIxL K) := by
  subst h
  exact ix_list
theorem ix_tupQ {X : Cx} {K : PySem.W.Frag} (h : X.K = K) : IxR X (rIxT K) := by
  subst h
  exact ix_tup
/-- a def of the top -/
structure Df (K : PySem.W.Frag) (mg : Str → Option Value) (nm : Str) (st : Stmt) (ps : List Str) (f : Addr) (fd : FuncData) : Prop where
  F : Fun K nm nm st f fd
  m : mg nm = some (.ref f)
  b : Binds K fd ps []
/-- all but what stands at st is kept -/
def Sv (st : Addr) (H H' : Hp) : Prop := ∀ a o, a ≠ st → H a = some o → H' a = some o
theorem Sv.refl (st : Addr) (H : Hp) : Sv st H H := fun _ _ _ e => e
theorem Sv.trans {st : Addr} {H H1 H2 : Hp} (a : Sv st H H1) (b : Sv st H1 H2) : Sv st H H2 := fun x o n e => b x o n (a x o n e)
theorem Sv.same {st : Addr} {H H' : Hp} (h : Same H H') : Sv st H H' := fun a o _ e => h a o e
theorem Sv.at_ {st : Addr} {H : Hp} {o : HO} : Sv st H (upd H st o) := fun a x n e => by rw [upd_ne n]; exact e
theorem Sv.new {st p : Addr} {H : Hp} {o : HO} (h : H p = none) : Sv st H (upd H p o) := fun a x _ e => by rw [upd_ne (ne_of_none e h)]; exact e
/-- what was free ahead may change -/
theorem Sv.mut {st p : Addr} {H H' : Hp} {o : HO} (e : Sv st H H') (h : H p = none) : Sv st H (upd H' p o) := fun a x n q => by rw [upd_ne (ne_of_none q h)]; exact e a x n q
theorem same_new {p : Addr} {H : Hp} {o : HO} (h : H p = none) : Same H (upd H p o) := fun a x e => by rw [upd_ne (ne_of_none e h)]; exact e
theorem same_mut {p : Addr} {H H' : Hp} {o : HO} (e : Same H H') (h : H p = none) : Same H (upd H' p o) := fun a x q => by rw [upd_ne (ne_of_none q h)]; exact e a x q
theorem tOr_pure {t u : TT} {x y : Bool} {σ : St} {H : Hp} {Q : Bool → Hp → Prop} (ht : ∀ Q : Bool → Hp → Prop, Q x H → t σ H Q) (hu : ∀ Q : Bool → Hp → Prop, Q y H → u σ H Q) (h : Q (x || y) H) : tOr t u σ H Q := by
  refine ht _ ?_
  cases x with
  | true => exact h
  | false => exact hu _ (by simpa using h)
theorem tAnd_pure {t u : TT} {x y : Bool} {σ : St} {H : Hp} {Q : Bool → Hp → Prop} (ht : ∀ Q : Bool → Hp → Prop, Q x H → t σ H Q) (hu : ∀ Q : Bool → Hp → Prop, Q y H → u σ H Q) (h : Q (x && y) H) : tAnd t u σ H Q := by
  refine ht _ ?_
  cases x with
  | true => exact hu _ (by simpa using h)
  | false => exact h
theorem none_of {H H' : Hp} {a : Addr} (s : Same H H') (h : H' a = none) : H a = none := by
  rcases e : H a with _ | o
  · rfl
  · rw [s _ _ e] at h; cases h
theorem _root_.L2.Same.rdS {H H' : Hp} (s : Same H H') {a : Addr} {u : HO} (h : Rd H a u) : Rd H' a u := by
  rcases h with h | ⟨x, h⟩
  · exact .inl (s _ _ h)
  · exact .inr ⟨x, s _ _ h⟩
theorem _root_.L2.Same.seqT {K : PySem.W.Frag} {H H' : Hp} (s : Same H H') {a : Addr} {xs : List V} (h : SqT K H a xs) : SqT K H' a xs := by
  rcases h with h | h
  · exact .inl (s.rdS h)
  · exact .inr h
theorem Sv.rd {st : Addr} {H H' : Hp} (s : Sv st H H') {a : Addr} {u : HO} (h : Rd H a u) (n : a ≠ st) : Rd H' a u := by
  rcases h with h | ⟨x, h⟩
  · exact .inl (s _ _ n h)
  · exact .inr ⟨x, s _ _ n h⟩
theorem Sv.sql {K : PySem.W.Frag} {st : Addr} {H H' : Hp} (s : Sv st H H') {a : Addr} {xs : List V} (h : SqL K H a xs) (n : a ≠ st) : SqL K H' a xs := by
  rcases h with h | h
  · exact .inl (s.rd h n)
  · exact .inr h
/-- the state behind, from what it is now -/
theorem StAt.to {K : PySem.W.Frag} {H H' : Hp} {st sc : Addr} {ns : List Int} (h : StAt K H st sc ns) (s : Sv st H H') {s0 p s3 : Int} (e : H' st = some (.lst (stL s0 p sc s3))) (hp : 0 ≤ p) : StAt K H' st sc ns :=
  ⟨⟨s0, p, s3, e, hp⟩, s _ _ h.ne h.hsc, h.ne⟩
theorem StAt.sv {K : PySem.W.Frag} {H H' : Hp} {st sc : Addr} {ns : List Int} (h : StAt K H st sc ns) (s : Same H H') : StAt K H' st sc ns := by
  obtain ⟨s0, p, s3, e, hp⟩ := h.at_
  exact h.to (Sv.same s) (s _ _ e) hp
theorem StAt.some {K : PySem.W.Frag} {H : Hp} {st sc : Addr} {ns : List Int} (h : StAt K H st sc ns) : ∃ l, H st = Option.some (.lst l) := by
  obtain ⟨s0, p, s3, e, hp⟩ := h.at_
  exact ⟨_, e⟩
/-- a list of ours, apart from the state, is written -/
theorem StAt.put {K : PySem.W.Frag} {H : Hp} {st sc p : Addr} {ns : List Int} {o : HO} {l : List V} (h : StAt K H st sc ns) (hp : H p = Option.some (.lst l)) (n : p ≠ st) (n2 : p ≠ sc) : StAt K (upd H p o) st sc ns := by
  obtain ⟨s0, q, s3, e, hq⟩ := h.at_
  exact ⟨⟨s0, q, s3, by rw [upd_ne n.symm]; exact e, hq⟩, by rw [upd_ne n2.symm]; exact h.hsc, h.ne⟩
/-- a line: one sign and the end -/
def Ln (x : Str) : Prop := ∃ c : Nat, c ≠ 10 ∧ c < 256 ∧ x.cps.toList = [c, 10]
def Lns (ls : List Str) : Prop := ∀ x ∈ ls, Ln x
/-- facts of the top -/
structure Txt0 (mg : Str → Option Value) : Prop where
  z_len : mg "len" = none
  z_int : mg "int" = none
  z_range : mg "range" = none
  z_tuple : mg "tuple" = none
  z_list : mg "list" = none
  z_min : mg "min" = none
  z_max : mg "max" = none
  z_enumerate : mg "enumerate" = none
end VK
end

section
set_option Elab.async false
set_option linter.all false
set_option maxRecDepth 100000
set_option maxHeartbeats 4000000
namespace VK
open PySem L2
abbrev s__law_draw : Stmt := topS 30
theorem sc__law_draw : FnScope ["state", "limit", "position", "cell", "mixed", "digit"] ["state", "limit"] (defScope s__law_draw) := ⟨rfl, rfl, rfl, by decide +kernel, rfl, by decide +kernel, by decide +kernel⟩
def spDraw (K : PySem.W.Frag) : Sp := fun vs H Q _ => ∃ (st sc : Addr) (ns : List Int) (lim : Int), vs = [.ref st, .int lim] ∧ StAt K H st sc ns ∧ 0 < lim ∧ lim < 1000000000 ∧
  ∀ (d s0 p s3 : Int), 0 ≤ d → d < lim → 0 ≤ p → Q (.int d) (upd H st (.lst (stL s0 p sc s3)))
theorem nz1 : (2147483629 : Int) ≠ 0 := by decide
theorem nz2 : (2147483647 : Int) ≠ 0 := by decide
theorem nz3 : (2147483587 : Int) ≠ 0 := by decide
section
variable {P : Program} {w : World} {K : PySem.W.Frag} {mg : Str → Option Value} {base : Heap}
theorem ok_draw {f : Addr} {fd : FuncData} (F : Fun K "_law_draw" "_law_draw" s__law_draw f fd) (T : Txt0 mg) : FnOk P w K mg base CX0 1 f fd ["state", "limit"] (spDraw K) := by
  refine F.ok sc__law_draw (fun vs H Q E h => ?_) (fun cdv A outer s H vs Q E hr h => ?_)
  · obtain ⟨st, sc, ns, lim, rfl, _⟩ := h
    rfl
  · obtain ⟨st, sc, ns, lim, rfl, ⟨⟨s0, p, s3, hst, hp⟩, hsc, hne⟩, hl, hl2, k⟩ := h
    refine ⟨_, (pss_cons (ps_if (pt_cmpR op_lt (pe_ix ix_list (pv 0) pe_int (fun _ _ => rfl)) (pv 1) (nomark _))
        (pss_cons (ps_set (i := 2) sc__law_draw.nd rfl (Or.inl rfl) (pe_ix ix_list (pv 0) pe_int (fun _ _ => rfl)))
        (pss_cons (ps_asg (pe_op op_add (pv 2) pe_int) (pg_sub (pv 0) pe_int set_list))
        (pss_cons (ps_set (i := 3) sc__law_draw.nd rfl (Or.inl rfl) pe_int)
        (pss_cons (ps_if (pt_cmpR op_lt (pv 2) (pe_callB call_len_seq (by rfl) T.z_len PySem.boot_len (pa_cons (pe_ix ix_list (pv 0) pe_int (fun _ _ => rfl)) pa_nil)) (nomark _))
          (pss_one (ps_set (i := 3) sc__law_draw.nd rfl (Or.inl rfl) (pe_ix ix_list (pe_ix ix_list (pv 0) pe_int (fun _ _ => rfl)) (pv 2) (fun _ _ => rfl))))
          pss_nil)
        (pss_one (ps_if (pt_cmpR op_ge (pv 3) (pe_op op_pow pe_int pe_int) (nomark _))
          (pss_one (ps_asg (pv 3) (pg_sub (pv 0) pe_int set_list)))
          (pss_cons (ps_asg (pe_op op_modN (pe_callTy call_int1 (by rfl) T.z_int (by decide +kernel) (pa_cons (pe_op op_mul (pe_op op_add (pe_op op_add (pe_op op_add (pe_ix ix_list (pv 0) pe_int (fun _ _ => rfl)) (pe_op op_modN (pe_callTy call_int1 (by rfl) T.z_int (by decide +kernel) (pa_cons (pv 3) pa_nil)) pe_int)) (pv 2)) pe_int) pe_int) pa_nil)) pe_int) (pg_sub (pv 0) pe_int set_list))
          (pss_cons (ps_set (i := 4) sc__law_draw.nd rfl (Or.inl rfl) (pe_op op_modN (pe_callTy call_int1 (by rfl) T.z_int (by decide +kernel) (pa_cons (pe_op op_add (pe_op op_mul (pe_ix ix_list (pv 0) pe_int (fun _ _ => rfl)) pe_int) pe_int) pa_nil)) pe_int))
          (pss_one (ps_asg (pe_op op_add (pe_op op_mul (pv 4) pe_int) (pe_op op_modN (pe_callTy call_int1 (by rfl) T.z_int (by decide +kernel) (pa_cons (pe_op op_add (pe_op op_mul (pv 4) pe_int) (pe_ix ix_list (pv 0) pe_int (fun _ _ => rfl))) pa_nil)) pe_int)) (pg_sub (pv 0) pe_int set_list)))))))))))
        pss_nil)
      (pss_cons (ps_set (i := 5) sc__law_draw.nd rfl (Or.inl rfl) (pe_op op_modN (pe_callTy call_int1 (by rfl) T.z_int (by decide +kernel) (pa_cons (pe_ix ix_list (pv 0) pe_int (fun _ _ => rfl)) pa_nil)) (pv 1)))
      (pss_cons (ps_asg (pe_op op_fdivN (pe_ix ix_list (pv 0) pe_int (fun _ _ => rfl)) (pv 1)) (pg_sub (pv 0) pe_int set_list))
      (pss_one (ps_ret (pv 5)))))), ?_⟩
    refine cut (fun σ' H' => ∃ (a b c : Option V) (t0 tp t3 : Int), 0 ≤ tp ∧ σ' = [some (.ref st), some (.int lim), a, b, c, none] ∧ H' = upd H st (.lst (stL t0 tp sc t3))) (fun nx hn => ?_) (fun σ' H' hC => ?_)
    · -- state[0] < limit
      refine ⟨_, rfl, _, _, _, _, rfl, rfl, SqL.of hst, rfl, _, rfl, _, _, rfl, rfl, _, rfl, ?_⟩
      refine ite2 (fun _ => ?_) (fun _ => hn _ _ ⟨none, none, none, s0, p, s3, hp, rfl, ?_⟩)
      · -- position = state[1]; state[1] = position + 1; cell = 0
        refine ⟨_, rfl, _, _, _, _, rfl, rfl, SqL.of hst, rfl, ?_⟩
        refine ⟨_, rfl, _, _, rfl, rfl, _, rfl, st, _, _, 1, rfl, rfl, hst, rfl, ?_⟩
        have h1 : upd H st (.lst (List.set (stL s0 p sc s3) 1 (.int (p + 1)))) = upd H st (.lst (stL s0 (p + 1) sc s3)) := rfl
        have hsc1 : SqL K (upd H st (.lst (stL s0 (p + 1) sc s3))) sc (ns.map V.int) := SqL.of (by rw [upd_ne hne]; exact hsc)
        obtain ⟨pn, rfl⟩ : ∃ pn : Nat, p = (pn : Int) := ⟨p.toNat, by omega⟩
        dsimp only
        refine seq_c ?_
        refine cut (fun σ' H' => ∃ (c : Int), σ' = [some (.ref st), some (.int lim), some (.int (pn : Int)), some (.int c), none, none] ∧ H' = upd H st (.lst (stL s0 ((pn : Int) + 1) sc s3))) (fun nx' hn' => ?_) (fun σ' H' hC => ?_)
        · refine ⟨_, rfl, _, rfl, _, _, _, _, rfl, rfl, SqL.of upd_same, rfl, sc, _, rfl, .inl hsc1, _, _, rfl, rfl, _, rfl, ?_⟩
          refine ite2 (fun e => ?_) (fun _ => hn' _ _ ⟨0, rfl, rfl⟩)
          have e' : pn < (ns.map V.int).length := by
            have q : ((pn : Int)) < (((ns.map V.int).length : Nat) : Int) := of_decide_eq_true e
            omega
          have e2 : (ns.map V.int)[pn]? = some (V.int (ns[pn]'(by simpa using e'))) := by simp at e'; simp [e']
          refine ⟨_, rfl, _, _, _, _, rfl, rfl, SqL.of upd_same, rfl, _, rfl, sc, _, _, _, rfl, rfl, hsc1, atI_nat e2, hn' _ _ ⟨_, rfl, rfl⟩⟩
        · obtain ⟨c, rfl, rfl⟩ := hC
          -- if cell >= 10 ** 18
          refine ⟨_, rfl, _, _, rfl, rfl, ⟨by decide, by decide, by decide⟩, _, _, rfl, rfl, _, rfl, ?_⟩
          refine ite2 (fun _ => ?_) (fun _ => ?_)
          · refine ⟨_, rfl, _, rfl, st, _, _, 0, rfl, rfl, upd_same, rfl, ?_⟩
            exact hn _ _ ⟨_, _, _, c, (pn : Int) + 1, s3, by omega, rfl, upd_upd⟩
          · -- state[3] = ..
            refine ⟨_, rfl, _, _, _, _, rfl, rfl, SqL.of upd_same, rfl, _, rfl, .inl ⟨_, rfl, _, _, rfl, rfl, nz1, _, _, rfl, rfl, _, rfl, _, _, rfl, rfl, _, _, rfl, rfl, _, _, rfl, rfl, .inr (by decide), .inl ⟨_, rfl, _, _, rfl, rfl, nz2, ?_⟩⟩⟩
            refine ⟨_, rfl, st, _, _, 3, rfl, rfl, upd_same, rfl, ?_⟩
            rw [upd_upd]
            -- mixed = ..
            refine ⟨_, rfl, _, _, _, _, rfl, rfl, SqL.of upd_same, rfl, _, _, rfl, rfl, .inr (by decide), _, _, rfl, rfl, .inl ⟨_, rfl, _, _, rfl, rfl, nz1, ?_⟩⟩
            -- state[0] = ..
            refine ⟨_, rfl, _, _, rfl, rfl, .inr (by decide), _, rfl, _, _, rfl, rfl, .inr (by decide), _, rfl, _, _, _, _, rfl, rfl, SqL.of upd_same, rfl, _, _, rfl, rfl, .inl ⟨_, rfl, _, _, rfl, rfl, nz3, _, _, rfl, rfl, ?_⟩⟩
            refine ⟨_, rfl, st, _, _, 0, rfl, rfl, upd_same, rfl, ?_⟩
            exact hn _ _ ⟨_, _, _, _, (pn : Int) + 1, _, by omega, rfl, upd_upd⟩
      · funext b
        by_cases hb : b = st
        · subst hb
          rw [upd_same, hst]
        · rw [upd_ne hb]
    · obtain ⟨a, b, c, t0, tp, t3, htp, rfl, rfl⟩ := hC
      -- digit = int(state[0]) % limit
      refine ⟨_, rfl, _, _, _, _, rfl, rfl, SqL.of upd_same, rfl, .inl ⟨_, rfl, _, rfl, _, _, rfl, rfl, ?_, ?_⟩⟩
      · show lim ≠ 0
        omega
      -- state[0] = state[0] // limit
      refine ⟨_, rfl, _, _, _, _, rfl, rfl, SqL.of upd_same, rfl, _, rfl, _, _, rfl, rfl, ⟨by omega, by omega⟩, _, rfl, st, _, _, 0, rfl, rfl, upd_same, rfl, ?_⟩
      refine ⟨_, rfl, ?_⟩
      rw [upd_upd]
      exact k _ _ tp t3 (by rw [Int.fmod_eq_emod_of_nonneg _ (by omega)]; exact Int.emod_nonneg _ (by omega)) (by rw [Int.fmod_eq_emod_of_nonneg _ (by omega)]; exact Int.emod_lt_of_pos _ hl) htp
end
end VK
end

section
set_option Elab.async false
set_option linter.all false
set_option maxRecDepth 100000
set_option maxHeartbeats 4000000
namespace VK
open PySem L2
abbrev s__law_lines : Stmt := topS 31
theorem sc__law_lines : FnScope ["state", "many", "k"] ["state", "many"] (defScope s__law_lines) := ⟨rfl, rfl, rfl, by decide +kernel, rfl, by decide +kernel, by decide +kernel⟩
theorem abcd_at {d : Int} (h0 : 0 ≤ d) (h1 : d < 4) : ∃ c : Nat, (c ≠ 10 ∧ c < 256) ∧ atI ("abcd" : Str).cps.toList d = some c := by
  have h : d = 0 ∨ d = 1 ∨ d = 2 ∨ d = 3 := by omega
  rcases h with rfl | rfl | rfl | rfl
  · exact ⟨97, ⟨by decide, by decide⟩, by decide +kernel⟩
  · exact ⟨98, ⟨by decide, by decide⟩, by decide +kernel⟩
  · exact ⟨99, ⟨by decide, by decide⟩, by decide +kernel⟩
  · exact ⟨100, ⟨by decide, by decide⟩, by decide +kernel⟩
theorem ln_mk (c : Nat) (h : c ≠ 10 ∧ c < 256) : Ln ((⟨#[c]⟩ : Str) ++ ("\n" : Str)) := ⟨c, h.1, h.2, by
  show ((#[c] : Array Nat) ++ #[10]).toList = [c, 10]
  simp⟩
def spLines (K : PySem.W.Frag) : Sp := fun vs H Q _ => ∃ (st sc : Addr) (ns : List Int) (many : Int), vs = [.ref st, .int many] ∧ StAt K H st sc ns ∧ 0 ≤ many ∧ many < 100 ∧
  ∀ (H' : Hp) (t : Addr) (ls : List Str), Sv st H H' → StAt K H' st sc ns → H' t = some (.tup (ls.map V.str)) → Lns ls → (ls.length : Int) ≤ many → Q (.ref t) H'
section
variable {P : Program} {w : World} {K : PySem.W.Frag} {mg : Str → Option Value} {base : Heap}
theorem ok_lines {f fD : Addr} {fd fdD : FuncData} (F : Fun K "_law_lines" "_law_lines" s__law_lines f fd) (T : Txt0 mg) (D : Df K mg "_law_draw" s__law_draw ["state", "limit"] fD fdD) : FnOk P w K mg base CX0 2 f fd ["state", "many"] (spLines K) := by
  have GD : FnOk P w K mg base CX0 1 fD fdD ["state", "limit"] (spDraw K) := ok_draw D.F T
  refine F.ok sc__law_lines (fun vs H Q E h => ?_) (fun cdv A outer s H vs Q E hr h => ?_)
  · obtain ⟨st, sc, ns, many, rfl, _⟩ := h
    rfl
  · obtain ⟨st, sc, ns, many, rfl, hS, hm0, hm1, k⟩ := h
    refine ⟨_, (pss_one (ps_ret (pe_callTy call_tuple_of (by rfl) T.z_tuple (by decide +kernel) (pa_cons (pe_lc (own := [("k", 2)]) (g := gName 2) (tt := tYes) rfl sc__law_lines.nd (pi_range1 (by rfl) T.z_range (pa_cons (pe_call GD hr rfl D.m D.F.kp D.b .nil pass0 (pa_cons (pv 0) (pa_cons (pe_op op_add (pv 1) pe_int) pa_nil))) pa_nil)) (blkOk_by (own := [("k", 2)]) (N := ["state", "many", "k"]) (sc := defScope s__law_lines) (by decide +kernel)) (fun _ _ _ _ _ => (pg_name (i := 2) sc__law_lines.nd rfl (Or.inl rfl))) (fun _ _ _ _ _ => pts_nil) (fun _ _ _ _ _ => (pe_op op_add_str (pe_ix ix_str pe_str (pe_call GD hr rfl D.m D.F.kp D.b .nil pass0 (pa_cons (pv 0) (pa_cons pe_int pa_nil))) (fun _ _ => rfl)) pe_str))) pa_nil)))), ?_⟩
    refine ⟨_, rfl, _, rfl, _, _, rfl, rfl, st, sc, ns, _, rfl, hS, by show (0 : Int) < many + 1; omega, by show many + 1 < (1000000000 : Int); omega, fun d s0 p s3 hd0 hd1 hp => ?_⟩
    have hd1 : d < many + 1 := hd1
    refine ⟨d, rfl, by omega, by omega, fun D hD => ?_⟩
    have S1 : StAt K (upd H st (.lst (stL s0 p sc s3))) st sc ns := hS.to Sv.at_ upd_same hp
    have nDst : D ≠ st := fun e => by rw [e, upd_same] at hD; cases hD
    have hD0 : H D = none := by rw [upd_ne nDst] at hD; exact hD
    refine lc_range (lo := 0) (n := d.toNat) (fun i H' => ∃ ls : List Str, H' D = some (.lst (ls.map V.str)) ∧ ls.length = i ∧ Lns ls ∧ Sv st H H' ∧ StAt K H' st sc ns) ⟨[], upd_same, rfl, (fun _ h => nomatch h), Sv.at_.trans (Sv.new hD), S1.sv (same_new hD)⟩ ?_ ?_
    · rintro i H' hi ⟨ls, hl, hn, hL, hv, hs⟩
      refine ⟨rfl, _, rfl, st, sc, ns, 4, rfl, hs, by decide, by decide, fun d2 t0 tp t3 h0 h4 hp2 => ?_⟩
      obtain ⟨c, hc, hat⟩ := abcd_at h0 h4
      refine ⟨_, d2, c, rfl, rfl, by decide +kernel, hat, _, _, rfl, rfl, (by show (1 : Nat) + 1 ≤ sizeLine; decide), ls.map V.str, ?_, ?_, ?_⟩
      · rw [upd_ne nDst]; exact hl
      · rw [List.length_map, hn]
        exact Nat.lt_of_lt_of_le (show i < 100 by omega) (by decide)
      · have hs2 : StAt K (upd H' st (.lst (stL t0 tp sc t3))) st sc ns := hs.to Sv.at_ upd_same hp2
        have hsD : sc ≠ D := ne_of_none hS.hsc hD0
        refine ⟨ls ++ [(⟨#[c]⟩ : Str) ++ ("\n" : Str)], ?_, ?_, ?_, ?_, ?_⟩
        · rw [upd_same, List.map_append]; rfl
        · rw [List.length_append, hn]; rfl
        · intro x hx
          rcases List.mem_append.mp hx with hx | hx
          · exact hL x hx
          · rw [List.mem_singleton.mp hx]; exact ln_mk c hc
        · exact (hv.trans Sv.at_).mut hD0
        · exact hs2.put (l := ls.map V.str) (by rw [upd_ne nDst]; exact hl) nDst hsD.symm
    · rintro H' ⟨ls, hl, hn, hL, hv, hs⟩
      refine ⟨D, _, rfl, .inl ⟨SqL.of hl, fun t ht => ?_⟩⟩
      exact k _ t ls (hv.trans (Sv.new ht)) (hs.sv (same_new ht)) upd_same hL (by omega)
end
end VK
end

section
set_option Elab.async false
set_option linter.all false
set_option maxRecDepth 100000
set_option maxHeartbeats 4000000
namespace VK
open PySem PySem.Spec PyProof.Rows L2
/-- X(), an own exception class without __init__ -/
theorem pmk_own0 {X : Cx} {C : Addr} {bmB : List Value} {B newId initId : String} {x : Str} {p pos : Pos}
    (F : ExcBaseFacts B newId initId bmB) (q : PySem.W.excIn X.K C bmB newId = true) (gC : X.mg x = some (.ref C))
    (kC : PySem.W.keepIn X.K (.ref C) = true) (r : Raises X (.ref C)) (hg : Gl X x)
    (hdb : (x == ("__debug__" : Str)) = false := by decide) : L2N.PMk X (.Call (.Name x p) [] [] pos) (fun _ H Q => Q (.ref C) none H) := by
  intro pins s σ H Q I h
  refine wpAny_Call_Name_kw (ld_glob I hg gC ?_ hdb)
  refine PySem.W.callWith_K0 I.kIn kC ?_
  show wpAny _ _ (call (.ref C) []) _ _ _
  obtain ⟨bm, N, nm, qn, bs, hdct, sn, sub, ab, col, dd, k0, k1, k2, k3, k5, mN, hC, hN, hni, T⟩ := exc_obj I.kIn q
  exact wpAny_call_exc_subT F T hC hN hni (fun h' e hm => L2N.mk_of I hm r h (I.hok.gone hm.new)) (Nat.zero_le _)
/-- nothing is wished of what is raised: it is shown not to be -/
theorem pass_no {P : Program} {w : World} {X : Cx} : Passes (L2N.CX P w) X (fun _ _ _ => False) := fun _ _ _ _ _ _ _ h => by
  obtain ⟨_, _, _, _, _, _, _, _, _, _, _, _, h⟩ := h
  exact h.elim
/-- in a def that may raise: what the callee raises is what this one raises -/
theorem pass_on {P : Program} {w : World} {X : Cx} {E : XK} (hP : X.prog = P) (hw : X.w = w) (tk : L2N.Takes X (fun cls d _ H => E cls d H)) : Passes (L2N.CX P w) X E := fun pins σ H s e s' I h => by
  subst hP hw
  exact L2N.passes_call tk (fun _ _ _ _ z => z) pins σ H s e s' I h
section
variable {P : Program} {w : World} {K : PySem.W.Frag} {mg : Str → Option Value} {base : Heap}
/-- as Fun.okX, for exceptions without a context -/
theorem okXN {x qual : Str} {st : Stmt} {f : Addr} {fd : FuncData} {N ps : List Str} {k : Nat} {sp : Sp} (F : Fun K x qual st f fd) (S : FnScope N ps (defScope st)) (len : ∀ vs H Q E, sp vs H Q E → vs.length = ps.length)
    (hbody : ∀ (cdv : Value) (A : Around) (outer : List Env) (s : Shared) (H : Hp) (vs : List V) (Q : VK) (E : XK), Room k (A.deeper (PyProof.Rows.envOfC qual (defScope st) s.heap.objs.size f cdv)) → sp vs H Q E →
      ∃ t, PSs (cxOf (L2N.CX P w) P w K mg base N qual (defScope st) f cdv A outer s H E) (defBody st) t ∧ t { nx := fun _ H' => Q .non H', rt := Q } (start N vs) H) : FnOk P w K mg base (L2N.CX P w) (k + 1) f fd ps sp := by
  obtain ⟨oc, od, kV, doc, pm, an, cdv, ct, osl, rfl, lk, hcd⟩ := F.ex
  exact fn_of lk hcd S len fun A outer s H vs Q E hr hsp => hbody cdv A outer s H vs Q E hr hsp
end
/-- the class TooLarge -/
structure TL (K : PySem.W.Frag) (mg : Str → Option Value) (C : Addr) : Prop where
  g : mg "TooLarge" = some (.ref C)
  x : PySem.W.excIn K C [.type "ValueError", .type "Exception", .type "BaseException", .type "object"] "ValueError.__new__" = true
  k : PySem.W.keepIn K (.ref C) = true
  s : PySem.W.subIn K (.ref C) (.type "BaseException") = some true
  t : PySem.W.typeIn K (.ref C) = some (.type "type")
end VK
end

section
set_option Elab.async false
set_option linter.all false
set_option maxRecDepth 100000
set_option maxHeartbeats 4000000
namespace VK
open PySem L2
/-! ### the length of a longest common row -/
def lcs : List Str → List Str → Nat
  | [], _ => 0
  | _ :: _, [] => 0
  | x :: xs, y :: ys => if x = y then lcs xs ys + 1 else max (lcs xs (y :: ys)) (lcs (x :: xs) ys)
termination_by xs ys => xs.length + ys.length
decreasing_by all_goals (simp_wf <;> omega)
theorem lcs_nil (ys : List Str) : lcs [] ys = 0 := by unfold lcs; rfl
theorem lcs_nil2 (xs : List Str) : lcs xs [] = 0 := by cases xs <;> (unfold lcs; rfl)
theorem lcs_cons (x y : Str) (xs ys : List Str) : lcs (x :: xs) (y :: ys) = if x = y then lcs xs ys + 1 else max (lcs xs (y :: ys)) (lcs (x :: xs) ys) := by
  rw [lcs]
/-- the table -/
def T (one two : List Str) (i j : Nat) : Nat := lcs (one.drop i) (two.drop j)
theorem T_end1 {one two : List Str} {i j : Nat} (h : one.length ≤ i) : T one two i j = 0 := by
  unfold T
  rw [List.drop_eq_nil_of_le h, lcs_nil]
theorem T_end2 {one two : List Str} {i j : Nat} (h : two.length ≤ j) : T one two i j = 0 := by
  unfold T
  rw [List.drop_eq_nil_of_le h, lcs_nil2]
theorem T_eq {one two : List Str} {i j : Nat} {x : Str} (h1 : one[i]? = some x) (h2 : two[j]? = some x) : T one two i j = T one two (i + 1) (j + 1) + 1 := by
  obtain ⟨a1, a2⟩ := List.getElem?_eq_some_iff.mp h1
  obtain ⟨b1, b2⟩ := List.getElem?_eq_some_iff.mp h2
  unfold T
  rw [List.drop_eq_getElem_cons a1, List.drop_eq_getElem_cons b1, lcs_cons, a2, b2, if_pos rfl]
theorem T_ne {one two : List Str} {i j : Nat} {x y : Str} (h1 : one[i]? = some x) (h2 : two[j]? = some y) (n : x ≠ y) : T one two i j = max (T one two (i + 1) j) (T one two i (j + 1)) := by
  obtain ⟨a1, a2⟩ := List.getElem?_eq_some_iff.mp h1
  obtain ⟨b1, b2⟩ := List.getElem?_eq_some_iff.mp h2
  unfold T
  rw [List.drop_eq_getElem_cons a1, List.drop_eq_getElem_cons b1, lcs_cons, a2, b2, if_neg n]
theorem lcs_le1 : ∀ (xs ys : List Str), lcs xs ys ≤ xs.length
  | [], ys => by rw [lcs_nil]; exact Nat.zero_le _
  | x :: xs, [] => by rw [lcs_nil2]; exact Nat.zero_le _
  | x :: xs, y :: ys => by
    rw [lcs_cons]
    have h1 := lcs_le1 xs ys
    have h2 := lcs_le1 xs (y :: ys)
    have h3 := lcs_le1 (x :: xs) ys
    simp only [List.length_cons] at h3 ⊢
    split <;> omega
termination_by xs ys => xs.length + ys.length
decreasing_by all_goals (simp_wf <;> omega)
/-! ### rows of ints in the heap -/
def rowL (m : Nat) (g : Nat → Int) : List V := (List.range (m + 1)).map fun j => V.int (g j)
theorem rowL_len (m : Nat) (g : Nat → Int) : (rowL m g).length = m + 1 := by unfold rowL; simp
theorem rowL_at {m : Nat} {g : Nat → Int} {k : Nat} (h : k ≤ m) : (rowL m g)[k]? = some (V.int (g k)) := by
  unfold rowL
  rw [List.getElem?_map, List.getElem?_range (by omega)]
  rfl
theorem rowL_set {m : Nat} {g : Nat → Int} {k : Nat} {v : Int} (h : k ≤ m) : (rowL m g).set k (V.int v) = rowL m fun j => if j = k then v else g j := by
  apply List.ext_getElem?
  intro i
  by_cases hi : i ≤ m
  · rw [rowL_at hi, List.getElem?_set]
    by_cases e : k = i
    · subst e
      simp [rowL_len, h, Nat.lt_succ_of_le h]
    · rw [if_neg e, rowL_at hi, if_neg (fun q => e q.symm)]
  · rw [List.getElem?_eq_none (by rw [List.length_set, rowL_len]; omega), List.getElem?_eq_none (by rw [rowL_len]; omega)]
/-- a list of lists of ints -/
structure Tb (H : Hp) (t : Addr) (as : List Addr) (m : Nat) (g : Nat → Nat → Int) : Prop where
  at_ : H t = some (.lst (as.map V.ref))
  row : ∀ (i : Nat) a, as[i]? = some a → H a = some (.lst (rowL m (g i)))
  nd : ∀ (i j : Nat) a, as[i]? = some a → as[j]? = some a → i = j
  nt : ∀ (i : Nat) a, as[i]? = some a → a ≠ t
theorem Tb.put {H : Hp} {t a : Addr} {as : List Addr} {m i k : Nat} {g : Nat → Nat → Int} {v : Int} (h : Tb H t as m g) (ha : as[i]? = some a) (hk : k ≤ m) :
    Tb (upd H a (.lst ((rowL m (g i)).set k (V.int v)))) t as m (fun i' j => if i' = i ∧ j = k then v else g i' j) where
  at_ := by rw [upd_ne (h.nt i a ha).symm]; exact h.at_
  row := fun i' b hb => by
    by_cases e : i' = i
    · subst e
      have q : b = a := Option.some.inj (hb.symm.trans ha)
      subst q
      rw [upd_same, rowL_set hk]
      have q2 : (fun j => if j = k then v else g i' j) = (fun j => if i' = i' ∧ j = k then v else g i' j) := by funext j; simp
      rw [q2]
    · have q : b ≠ a := fun z => e (h.nd i' i a (z ▸ hb) ha)
      rw [upd_ne q, h.row i' b hb]
      have q2 : (fun j => g i' j) = (fun j => if i' = i ∧ j = k then v else g i' j) := by funext j; simp [e]
      rw [← q2]
  nd := h.nd
  nt := h.nt
theorem Tb.same {H H' : Hp} {t : Addr} {as : List Addr} {m : Nat} {g : Nat → Nat → Int} (h : Tb H t as m g) (s : Same H H') : Tb H' t as m g :=
  ⟨s _ _ h.at_, fun i a e => s _ _ (h.row i a e), h.nd, h.nt⟩
/-- the table of two rows of lines stands at t -/
def TabOk (H : Hp) (t : Addr) (one two : List Str) : Prop :=
  ∃ as g, as.length = one.length + 1 ∧ Tb H t as two.length g ∧ ∀ i j, i ≤ one.length → j ≤ two.length → g i j = (T one two i j : Int)
theorem TabOk.same {H H' : Hp} {t : Addr} {one two : List Str} (h : TabOk H t one two) (s : Same H H') : TabOk H' t one two := by
  obtain ⟨as, g, h1, h2, h3⟩ := h
  exact ⟨as, g, h1, h2.same s, h3⟩
/-- an entry -/
theorem TabOk.get {H : Hp} {t : Addr} {one two : List Str} (h : TabOk H t one two) {i j : Nat} (hi : i ≤ one.length) (hj : j ≤ two.length) :
    ∃ as a row, H t = some (.lst as) ∧ as[i]? = some (V.ref a) ∧ H a = some (.lst row) ∧ row[j]? = some (V.int (T one two i j : Int)) := by
  obtain ⟨as, g, h1, h2, h3⟩ := h
  have hl : i < as.length := by omega
  have ha : as[i]? = some as[i] := List.getElem?_eq_getElem hl
  refine ⟨_, as[i], _, h2.at_, by rw [List.getElem?_map, ha]; rfl, h2.row i _ ha, ?_⟩
  rw [rowL_at hj, h3 i j hi hj]
/-- .. and its rows are new -/
def TabAt (H0 H : Hp) (t : Addr) (one two : List Str) : Prop :=
  ∃ as g, as.length = one.length + 1 ∧ Tb H t as two.length g ∧ (∀ i j, i ≤ one.length → j ≤ two.length → g i j = (T one two i j : Int)) ∧ H0 t = none ∧ ∀ (i : Nat) a, as[i]? = some a → H0 a = none
theorem TabAt.ok {H0 H : Hp} {t : Addr} {one two : List Str} (h : TabAt H0 H t one two) : TabOk H t one two := by
  obtain ⟨as, g, h1, h2, h3, h4, h5⟩ := h
  exact ⟨as, g, h1, h2, h3⟩
/-- what was there ahead is no part of it -/
theorem TabAt.sv {H0 H H' : Hp} {t fo : Addr} {o : HO} {one two : List Str} (h : TabAt H0 H t one two) (ho : H0 fo = some o) (s : Sv fo H H') : TabAt H0 H' t one two := by
  obtain ⟨as, g, h1, h2, h3, h4, h5⟩ := h
  have n1 : t ≠ fo := fun e => by rw [e, ho] at h4; cases h4
  have n2 : ∀ (i : Nat) a, as[i]? = some a → a ≠ fo := fun i a e z => by
    have := h5 i a e
    rw [z, ho] at this; cases this
  exact ⟨as, g, h1, ⟨s _ _ n1 h2.at_, fun i a e => s _ _ (n2 i a e) (h2.row i a e), h2.nd, h2.nt⟩, h3, h4, h5⟩
end VK
end

section
set_option Elab.async false
set_option linter.all false
set_option maxRecDepth 100000
set_option maxHeartbeats 4000000
namespace VK
open PySem L2
abbrev s_common_table : Stmt := topS 6
theorem sc_common_table : FnScope ["one", "two", "table", "first", "row", "below", "second", "_"] ["one", "two"] (defScope s_common_table) := ⟨rfl, rfl, rfl, by decide +kernel, rfl, by decide +kernel, by decide +kernel⟩
/-- rows of a table, new since H: fresh, unlike, apart from the table -/
structure Fr (H0 : Hp) (t : Addr) (as : List Addr) : Prop where
  t : H0 t = none
  row : ∀ (i : Nat) a, as[i]? = some a → H0 a = none
theorem rep_zero (m : Nat) : (List.replicate (((m : Int) + 1).toNat) [V.int 0]).flatten = rowL m fun _ => 0 := by
  have e : ((m : Int) + 1).toNat = m + 1 := by omega
  rw [e]
  unfold rowL
  generalize m + 1 = k
  induction k with
  | zero => rfl
  | succ k ih => rw [List.replicate_succ', List.flatten_append, ih, List.range_succ, List.map_append]; rfl
def spTable (K : PySem.W.Frag) (C : Addr) : Sp := fun vs H Q E => ∃ (a b : Addr) (one two : List Str), vs = [.ref a, .ref b] ∧ SqT K H a (one.map V.str) ∧ SqT K H b (two.map V.str) ∧ one.length ≤ 1000 ∧ two.length ≤ 1000 ∧
  (40000 < one.length * two.length → E (.ref C) none H) ∧ (one.length * two.length ≤ 40000 → ∀ (H' : Hp) (t : Addr), Same H H' → TabAt H H' t one two → Q (.ref t) H')
/-- the making of a table of zeros: what the comprehension keeps -/
structure Mk0 (H0 H : Hp) (D : Addr) (m i : Nat) (as : List Addr) : Prop where
  len : as.length = i
  at_ : H D = some (.lst (as.map V.ref))
  row : ∀ (k : Nat) a, as[k]? = some a → H a = some (.lst (rowL m fun _ => 0)) ∧ H0 a = none ∧ a ≠ D
  nd : ∀ (j k : Nat) a, as[j]? = some a → as[k]? = some a → j = k
  same : Same H0 H
theorem Mk0.more {H0 H : Hp} {D p q : Addr} {m i : Nat} {as : List Addr} {xs : List V} (h : Mk0 H0 H D m i as) (h0 : H0 D = none) (hp : H p = none) (hq : upd H p (.lst xs) q = none) :
    Mk0 H0 (upd (upd (upd H p (.lst xs)) q (.lst (rowL m fun _ => 0))) D (.lst ((as.map V.ref) ++ [V.ref q]))) D m (i + 1) (as ++ [q]) where
  len := by rw [List.length_append, h.len]; rfl
  at_ := by rw [upd_same, List.map_append]; rfl
  row := fun k a e => by
    have nqp : q ≠ p := fun z => by rw [z, upd_same] at hq; cases hq
    have hq' : H q = none := by rw [upd_ne nqp] at hq; exact hq
    have nqD : q ≠ D := (ne_of_none h.at_ hq').symm
    by_cases hk : k < as.length
    · rw [List.getElem?_append_left hk] at e
      obtain ⟨h1, h2, h3⟩ := h.row k a e
      refine ⟨?_, h2, h3⟩
      rw [upd_ne h3, upd_ne (ne_of_none h1 hq'), upd_ne (ne_of_none h1 hp)]
      exact h1
    · have hk2 : k = as.length := by
        have z := (List.getElem?_eq_some_iff.mp e).1
        rw [List.length_append] at z
        simp at z
        omega
      subst hk2
      rw [List.getElem?_append_right (Nat.le_refl _)] at e
      simp at e
      subst e
      refine ⟨by rw [upd_ne nqD, upd_same], h.same.free hq', nqD⟩
  nd := fun j k a e1 e2 => by
    have nqp : q ≠ p := fun z => by rw [z, upd_same] at hq; cases hq
    have hq' : H q = none := by rw [upd_ne nqp] at hq; exact hq
    have old : ∀ j a, as[j]? = some a → a ≠ q := fun j a e => ne_of_none (h.row j a e).1 hq'
    have lst : ∀ j a, (as ++ [q])[j]? = some a → as[j]? = some a ∨ (j = as.length ∧ a = q) := fun j a e => by
      by_cases hj : j < as.length
      · rw [List.getElem?_append_left hj] at e; exact .inl e
      · have z := (List.getElem?_eq_some_iff.mp e).1
        rw [List.length_append] at z
        simp at z
        have hj2 : j = as.length := by omega
        subst hj2
        rw [List.getElem?_append_right (Nat.le_refl _)] at e
        simp at e
        exact .inr ⟨rfl, e.symm⟩
    rcases lst j a e1 with x | ⟨x, y⟩
    · rcases lst k a e2 with x2 | ⟨x2, y2⟩
      · exact h.nd j k a x x2
      · exact absurd y2 (old j a x)
    · rcases lst k a e2 with x2 | ⟨x2, y2⟩
      · exact absurd y (old k a x2)
      · rw [x, x2]
  same := by
    refine fun b o e => ?_
    have e1 := h.same b o e
    have nbp : b ≠ p := ne_of_none e1 hp
    have e2 : upd H p (.lst xs) b = some o := by rw [upd_ne nbp]; exact e1
    have nbq : b ≠ q := ne_of_none e2 hq
    rw [upd_ne (ne_of_none e h0), upd_ne nbq]
    exact e2
section
variable {P : Program} {w : World} {K : PySem.W.Frag} {mg : Str → Option Value} {base : Heap}
theorem ok_table {f C : Addr} {fd : FuncData} (F : Fun K "common_table" "common_table" s_common_table f fd) (T0 : Txt0 mg) (L : TL K mg C) {tM : Tok} (hc : mg "MOST_PLACES" = some (.int 40000 tM)) : FnOk P w K mg base (L2N.CX P w) 1 f fd ["one", "two"] (spTable K C) := by
  refine okXN F sc_common_table (fun vs H Q E h => ?_) (fun cdv A outer s H vs Q E hr h => ?_)
  · obtain ⟨a, b, one, two, rfl, _⟩ := h
    rfl
  · obtain ⟨a, b, one, two, rfl, hA, hB, ha, hb, kE, k⟩ := h
    refine ⟨_, (pss_cons (ps_if (pt_cmpR op_gt (pe_op op_mul (pe_callB call_len_seq (by rfl) T0.z_len PySem.boot_len (pa_cons (pv 0) pa_nil)) (pe_callB call_len_seq (by rfl) T0.z_len PySem.boot_len (pa_cons (pv 1) pa_nil))) (pe_glob (v := .int 40000) rfl hc ⟨_, rfl⟩) (nomark _))
        (pss_one (L2N.ps_raise rfl (L2N.takes_of rfl rfl rfl rfl) (pmk_own0 PySem.F.excBase_ValueError L.x L.g L.k (raises_own L.s L.t) rfl)))
        pss_nil)
      (pss_cons (ps_setLc (i := 2) (own := [("_", 7)]) (g := gName 7) (tt := tYes) rfl sc_common_table.nd rfl rfl (sw_true rfl rfl rfl (by decide +kernel)) (pi_range1 (by rfl) T0.z_range (pa_cons (pe_op op_add (pe_callB call_len_seq (by rfl) T0.z_len PySem.boot_len (pa_cons (pv 0) pa_nil)) pe_int) pa_nil)) (blkOk_by (own := [("_", 7)]) (N := ["one", "two", "table", "first", "row", "below", "second", "_"]) (sc := defScope s_common_table) (by decide +kernel)) (fun _ _ _ _ _ => (pg_name (i := 7) sc_common_table.nd rfl (Or.inl rfl))) (fun _ _ _ _ _ => pts_nil) (fun _ _ _ _ _ => (pe_op op_rep (pe_lst (pa_cons pe_int pa_nil)) (pe_op op_add (pe_callB (call_lenQ (K := K) rfl) (by rfl) T0.z_len PySem.boot_len (pa_cons (pv 1) pa_nil)) pe_int))))
      (pss_cons (ps_for (passes_of rfl) rfl (pi_range3 (by rfl) T0.z_range (pa_cons (pe_op op_sub (pe_callB call_len_seq (by rfl) T0.z_len PySem.boot_len (pa_cons (pv 0) pa_nil)) pe_int) (pa_cons (pe_un un_neg pe_int) (pa_cons (pe_un un_neg pe_int) pa_nil)))) (pg_name (i := 3) sc_common_table.nd rfl (Or.inl rfl))
        (pss_cons (ps_par (i := 4) (j := 5) (by rfl) sc_common_table.nd rfl rfl (by decide) rfl rfl (pa_cons (pe_ix ix_list (pv 2) (pv 3) (fun _ _ => rfl)) (pa_cons (pe_ix ix_list (pv 2) (pe_op op_add (pv 3) pe_int) (fun _ _ => rfl)) pa_nil)) (by rfl))
        (pss_one (ps_for (passes_of rfl) rfl (pi_range3 (by rfl) T0.z_range (pa_cons (pe_op op_sub (pe_callB call_len_seq (by rfl) T0.z_len PySem.boot_len (pa_cons (pv 1) pa_nil)) pe_int) (pa_cons (pe_un un_neg pe_int) (pa_cons (pe_un un_neg pe_int) pa_nil)))) (pg_name (i := 6) sc_common_table.nd rfl (Or.inl rfl))
          (pss_one (ps_if (pt_cmpR op_eq (pe_ix ix_tup (pv 0) (pv 3) (fun _ _ => rfl)) (pe_ix ix_tup (pv 1) (pv 6) (fun _ _ => rfl)) (nomark _))
            (pss_one (ps_asg (pe_op op_add (pe_ix ix_list (pv 5) (pe_op op_add (pv 6) pe_int) (fun _ _ => rfl)) pe_int) (pg_sub (pv 4) (pv 6) set_list)))
            (pss_one (ps_asg (pe_callB (call_max2 rfl) (by rfl) T0.z_max (by decide +kernel) (pa_cons (pe_ix ix_list (pv 5) (pv 6) (fun _ _ => rfl)) (pa_cons (pe_ix ix_list (pv 4) (pe_op op_add (pv 6) pe_int) (fun _ _ => rfl)) pa_nil))) (pg_sub (pv 4) (pv 6) set_list)))))))))
      (pss_one (ps_ret (pv 2)))))), ?_⟩
    -- if len(one) * len(two) > MOST_PLACES
    refine ⟨_, rfl, a, _, rfl, .inr hA, _, rfl, b, _, rfl, .inr hB, _, _, rfl, rfl, .inl (by simp only [List.length_map]; omega), _, _, rfl, rfl, _, rfl, ?_⟩
    simp only [List.length_map]
    refine ite2 (fun e => kE ?_) (fun e => ?_)
    · have q : (40000 : Int) < (one.length : Int) * (two.length : Int) := of_decide_eq_true e
      have q2 : ((one.length * two.length : Nat) : Int) = (one.length : Int) * (two.length : Int) := Int.natCast_mul _ _
      omega
    have hle : one.length * two.length ≤ 40000 := by
      have q2 : ((one.length * two.length : Nat) : Int) = (one.length : Int) * (two.length : Int) := Int.natCast_mul _ _
      have q : ¬ (40000 : Int) < (one.length : Int) * (two.length : Int) := fun z => e (decide_eq_true z)
      omega
    have k := k hle
    -- table = [[0] * (len(two) + 1) for _ in range(len(one) + 1)]
    refine ⟨_, rfl, a, _, rfl, .inr hA, _, _, rfl, rfl, _, rfl, ?_, ?_, fun D hD => ?_⟩
    · simp only [List.length_map]; omega
    · simp only [List.length_map]; omega
    have en : ((one.map V.str).length : Int) + 1 = ((one.length + 1 : Nat) : Int) := by simp
    refine lc_range (lo := 0) (n := (((one.map V.str).length : Int) + 1).toNat) (fun i H' => ∃ as, Mk0 H H' D two.length i as) ⟨[], rfl, upd_same, (fun k a e => nomatch e), (fun j k a e => nomatch e), same_new hD⟩ ?_ ?_
    · rintro i H' hi ⟨as, M⟩
      refine ⟨rfl, by show 1 ≤ sizeLine; decide, fun p hp => ?_⟩
      have hB' : SqT K (upd H' p (.lst [V.int 0])) b (two.map V.str) := (M.same.trans (same_new hp)).seqT hB
      refine ⟨_, rfl, b, _, rfl, .inr hB', _, _, rfl, rfl, p, _, _, rfl, rfl, upd_same, ?_, ?_, ?_, fun q hq => ?_⟩
      · simp only [List.length_map]; omega
      · simp only [List.length_map]; omega
      · simp only [List.length_map, List.length_singleton]
        exact Nat.le_trans (show 1 * ((two.length : Int) + 1).toNat ≤ 1001 by omega) (by decide)
      · have e0 : (List.replicate (((two.map V.str).length : Int) + 1).toNat [V.int 0]).flatten = rowL two.length fun _ => 0 := by
          rw [List.length_map]
          exact rep_zero two.length
        have nD : D ≠ p := ne_of_none M.at_ hp
        have e1 : upd H' p (.lst [V.int 0]) D = some (.lst (as.map V.ref)) := by rw [upd_ne nD]; exact M.at_
        have nDq : D ≠ q := ne_of_none e1 hq
        refine ⟨as.map V.ref, by rw [upd_ne nDq]; exact e1, ?_, as ++ [q], ?_⟩
        · rw [List.length_map, M.len]
          have hi' : i < one.length + 1 := by rw [en] at hi; simpa using hi
          exact Nat.lt_of_lt_of_le (show i < 2000 by omega) (by decide)
        · have e2 : (fun i j => V.int (i + j)) ((two.map V.str).length : Int) 1 = V.int (((two.map V.str).length : Int) + 1) := rfl
          rw [e0]
          exact M.more hD hp hq
    · rintro H1 ⟨as, M⟩
      have hlen : as.length = one.length + 1 := by rw [M.len, en]; simp
      have tb0 : Tb H1 D as two.length fun _ _ => 0 := ⟨M.at_, fun i a e => (M.row i a e).1, M.nd, fun i a e => (M.row i a e).2.2⟩
      have fr : ∀ (i : Nat) a, as[i]? = some a → H a = none := fun i a e => (M.row i a e).2.1
      -- for first in range(len(one) - 1, -1, -1)
      have hA1 : SqT K H1 a (one.map V.str) := M.same.seqT hA
      refine ⟨_, rfl, a, _, rfl, .inr hA1, _, _, rfl, rfl, _, rfl, _, rfl, (one.length : Int) - 1, -1, -1, one.length, ?_, ?_, ?_⟩
      · simp only [List.length_map]
      · have q := RgC.neg (i := (one.length : Int) - 1) (j := -1) (by omega) (by omega) (by omega) (by omega)
        have e : ((one.length : Int) - 1 - -1).toNat = one.length := by omega
        rw [e] at q
        exact q
      refine for_it walk_rangeC (fun i σ H' => ∃ (g : Nat → Nat → Int) (x3 x4 x5 x6 : Option V), σ = [some (.ref a), some (.ref b), some (.ref D), x3, x4, x5, x6, none] ∧ Tb H' D as two.length g ∧ Same H H' ∧
          ∀ r j, r ≤ one.length → j ≤ two.length → g r j = if one.length - i ≤ r then (T one two r j : Int) else 0) ?_ (fun _ _ _ _ _ => trivial) ?_ ?_
      · refine ⟨fun _ _ => 0, none, none, none, none, rfl, tb0, M.same, fun r j hr hj => ?_⟩
        by_cases e : one.length - 0 ≤ r
        · rw [if_pos e, T_end1 (by omega)]; rfl
        · rw [if_neg e]
      · rintro i x σ H2o H2 hi ⟨g, x3, x4, x5, x6, rfl, tb, sm, hg⟩ ⟨rfl, hx⟩
        obtain ⟨r, hr⟩ : ∃ r : Nat, r = one.length - 1 - i := ⟨_, rfl⟩
        have er : ((one.length : Int) - 1 + (i : Nat) * -1) = (r : Int) := by omega
        obtain rfl : x = V.int (r : Int) := hx.trans (congrArg V.int er)
        have l1 : r < as.length := by omega
        have l2 : r + 1 < as.length := by omega
        have r1 : as[r]? = some as[r] := List.getElem?_eq_getElem l1
        have r2 : as[r + 1]? = some as[r + 1] := List.getElem?_eq_getElem l2
        have q1 : (as.map V.ref)[r]? = some (V.ref as[r]) := by rw [List.getElem?_map, r1]; rfl
        have q2 : (as.map V.ref)[r + 1]? = some (V.ref as[r + 1]) := by rw [List.getElem?_map, r2]; rfl
        -- row, below = (table[first], table[first + 1])
        refine ⟨_, rfl, _, rfl, D, _, _, _, rfl, rfl, SqL.of tb.at_, atI_nat q1, _, rfl, _, rfl, _, _, rfl, rfl, D, _, _, _, rfl, rfl, SqL.of tb.at_, atI_nat (j := r + 1) q2, _, _, rfl, ?_⟩
        -- for second in range(len(two) - 1, -1, -1)
        have hB1 : SqT K H2 b (two.map V.str) := sm.seqT hB
        refine ⟨_, rfl, b, _, rfl, .inr hB1, _, _, rfl, rfl, _, rfl, _, rfl, (two.length : Int) - 1, -1, -1, two.length, ?_, ?_, ?_⟩
        · simp only [List.length_map]
        · have q := RgC.neg (i := (two.length : Int) - 1) (j := -1) (by omega) (by omega) (by omega) (by omega)
          have e : ((two.length : Int) - 1 - -1).toNat = two.length := by omega
          rw [e] at q
          exact q
        refine for_it walk_rangeC (fun t σ H3 => ∃ (g' : Nat → Nat → Int) (y6 : Option V), σ = [some (.ref a), some (.ref b), some (.ref D), some (.int (r : Int)), some (.ref as[r]), some (.ref as[r + 1]), y6, none] ∧ Tb H3 D as two.length g' ∧ Same H H3 ∧
            ∀ r' j, r' ≤ one.length → j ≤ two.length → g' r' j = if r + 1 ≤ r' then (T one two r' j : Int) else if r' = r ∧ two.length - t ≤ j then (T one two r j : Int) else 0) ?_ (fun _ _ _ _ _ => trivial) ?_ ?_
        · refine ⟨g, x6, rfl, tb, sm, fun r' j h1 h2 => ?_⟩
          rw [hg r' j h1 h2]
          by_cases e : r + 1 ≤ r'
          · rw [if_pos e, if_pos (by omega)]
          · rw [if_neg e, if_neg (by omega)]
            by_cases e2 : r' = r ∧ two.length - 0 ≤ j
            · rw [if_pos e2, T_end2 (by omega)]; rfl
            · rw [if_neg e2]
        · rintro t x σ H3o H3 ht ⟨g', y6, rfl, tb', sm', hg'⟩ ⟨rfl, hx⟩
          obtain ⟨s, hs⟩ : ∃ s : Nat, s = two.length - 1 - t := ⟨_, rfl⟩
          have es : ((two.length : Int) - 1 + (t : Nat) * -1) = (s : Int) := by omega
          obtain rfl : x = V.int (s : Int) := hx.trans (congrArg V.int es)
          have hA2 : SqT K H3 a (one.map V.str) := sm'.seqT hA
          have hB2 : SqT K H3 b (two.map V.str) := sm'.seqT hB
          have o1 : r < one.length := by omega
          have o2 : s < two.length := by omega
          have n1 : one[r]? = some one[r] := List.getElem?_eq_getElem o1
          have n2 : two[s]? = some two[s] := List.getElem?_eq_getElem o2
          have m1 : (one.map V.str)[r]? = some (V.str one[r]) := by rw [List.getElem?_map, n1]; rfl
          have m2 : (two.map V.str)[s]? = some (V.str two[s]) := by rw [List.getElem?_map, n2]; rfl
          have w1 := tb'.row r _ r1
          have w2 := tb'.row (r + 1) _ r2
          have v1 : (rowL two.length (g' (r + 1)))[s + 1]? = some (V.int (T one two (r + 1) (s + 1) : Int)) := by
            rw [rowL_at (by omega), hg' (r + 1) (s + 1) (by omega) (by omega), if_pos (Nat.le_refl _)]
          have v2 : (rowL two.length (g' (r + 1)))[s]? = some (V.int (T one two (r + 1) s : Int)) := by
            rw [rowL_at (by omega), hg' (r + 1) s (by omega) (by omega), if_pos (Nat.le_refl _)]
          have v3 : (rowL two.length (g' r))[s + 1]? = some (V.int (T one two r (s + 1) : Int)) := by
            rw [rowL_at (by omega), hg' r (s + 1) (by omega) (by omega), if_neg (by omega), if_pos ⟨rfl, by omega⟩]
          have ixs : ixN (rowL two.length (g' r)).length (s : Int) = some s := by
            rw [rowL_len]
            unfold ixN
            rw [if_pos (by omega), if_pos (by omega)]
            rfl
          have fin : ∀ v : Int, v = (T one two r s : Int) → ∃ (gg : Nat → Nat → Int) (y6 : Option V), [some (V.ref a), some (.ref b), some (.ref D), some (.int (r : Int)), some (.ref as[r]), some (.ref as[r + 1]), some (.int (s : Int)), none] = [some (V.ref a), some (.ref b), some (.ref D), some (.int (r : Int)), some (.ref as[r]), some (.ref as[r + 1]), y6, none] ∧
              Tb (upd H3 as[r] (.lst ((rowL two.length (g' r)).set s (V.int v)))) D as two.length gg ∧ Same H (upd H3 as[r] (.lst ((rowL two.length (g' r)).set s (V.int v)))) ∧
            ∀ r' j, r' ≤ one.length → j ≤ two.length → gg r' j = if r + 1 ≤ r' then (T one two r' j : Int) else if r' = r ∧ two.length - (t + 1) ≤ j then (T one two r j : Int) else 0 := by
            intro v hv
            refine ⟨_, some (.int (s : Int)), rfl, tb'.put r1 (show s ≤ two.length by omega), same_mut sm' (fr r _ r1), fun r' j h1 h2 => ?_⟩
            by_cases e : r' = r ∧ j = s
            · obtain ⟨e1, e2⟩ := e
              subst e1 e2
              rw [if_pos ⟨rfl, rfl⟩, if_neg (by omega), if_pos ⟨rfl, by omega⟩, hv]
            · rw [if_neg e, hg' r' j h1 h2]
              by_cases e3 : r + 1 ≤ r'
              · rw [if_pos e3, if_pos e3]
              · rw [if_neg e3, if_neg e3]
                by_cases e4 : r' = r
                · by_cases e5 : two.length - t ≤ j
                  · rw [if_pos ⟨e4, e5⟩, if_pos ⟨e4, by omega⟩]
                  · have e6 : j ≠ s := fun z => e ⟨e4, z⟩
                    rw [if_neg (fun z => e5 z.2), if_neg (fun z => by have := z.2; omega)]
                · rw [if_neg (fun z => e4 z.1), if_neg (fun z => e4 z.1)]
          refine ⟨_, rfl, _, rfl, a, _, _, _, rfl, rfl, hA2, atI_nat m1, _, rfl, _, rfl, b, _, _, _, rfl, rfl, hB2, atI_nat m2, rfl, _, rfl, ?_⟩
          refine ite2 (fun e => ?_) (fun e => ?_)
          · have e' : one[r] = two[s] := V.str.inj (of_decide_eq_true e)
            refine ⟨_, rfl, _, rfl, _, _, rfl, rfl, _, _, _, _, rfl, rfl, SqL.of w2, atI_nat (j := s + 1) v1, _, _, rfl, rfl, _, rfl, _, rfl, _, _, _, s, rfl, rfl, w1, ixs, ?_⟩
            refine fin _ ?_
            rw [T_eq n1 (e' ▸ n2)]
            omega
          · have e' : one[r] ≠ two[s] := fun z => e (decide_eq_true (congrArg V.str z))
            refine ⟨_, rfl, _, rfl, _, _, _, _, rfl, rfl, SqL.of w2, atI_nat (j := s) v2, _, rfl, _, rfl, _, _, rfl, rfl, _, _, _, _, rfl, rfl, SqL.of w1, atI_nat (j := s + 1) v3, _, _, rfl, _, rfl, _, rfl, _, _, _, s, rfl, rfl, w1, ixs, ?_⟩
            refine fin _ ?_
            rw [T_ne n1 n2 e']
            split <;> omega
        · rintro σ H3 ⟨g', y6, rfl, tb', sm', hg'⟩
          refine ⟨g', _, _, _, y6, rfl, tb', sm', fun r' j h1 h2 => ?_⟩
          rw [hg' r' j h1 h2]
          by_cases e : r + 1 ≤ r'
          · rw [if_pos e, if_pos (by omega)]
          · rw [if_neg e]
            by_cases e2 : r' = r
            · subst e2
              rw [if_pos ⟨rfl, by omega⟩, if_pos (by omega)]
            · rw [if_neg (fun z => e2 z.1), if_neg (by omega)]
      · rintro σ H2 ⟨g, x3, x4, x5, x6, rfl, tb, sm, hg⟩
        refine ⟨_, rfl, k H2 D sm ⟨as, g, hlen, tb, fun i j h1 h2 => ?_, hD, fr⟩⟩
        rw [hg i j h1 h2, if_pos (by omega)]
end
end VK
end

section
set_option Elab.async false
set_option linter.all false
set_option maxRecDepth 100000
set_option maxHeartbeats 4000000
namespace VK
open PySem L2
abbrev s__law_table : Stmt := topS 32
theorem sc__law_table : FnScope ["one", "two", "table", "i", "j", "k"] ["one", "two"] (defScope s__law_table) := ⟨rfl, rfl, rfl, by decide +kernel, rfl, by decide +kernel, by decide +kernel⟩
def spLTable (K : PySem.W.Frag) : Sp := fun vs H Q _ => ∃ (a b : Addr) (one two : List Str), vs = [.ref a, .ref b] ∧ SqT K H a (one.map V.str) ∧ SqT K H b (two.map V.str) ∧ one.length ≤ 1000 ∧ two.length ≤ 1000 ∧
  ∀ (H' : Hp) (t : Addr), Same H H' → H t = none → TabOk H' t one two → Q (.ref t) H'
section
variable {P : Program} {w : World} {K : PySem.W.Frag} {mg : Str → Option Value} {base : Heap}
theorem ok_ltable {f : Addr} {fd : FuncData} (F : Fun K "_law_table" "_law_table" s__law_table f fd) (T0 : Txt0 mg) : FnOk P w K mg base CX0 1 f fd ["one", "two"] (spLTable K) := by
  refine F.ok sc__law_table (fun vs H Q E h => ?_) (fun cdv A outer s H vs Q E hr h => ?_)
  · obtain ⟨a, b, one, two, rfl, _⟩ := h
    rfl
  · obtain ⟨a, b, one, two, rfl, hA, hB, ha, hb, k⟩ := h
    refine ⟨_, (pss_cons (ps_setLc (i := 2) (own := [("k", 5)]) (g := gName 5) (tt := tYes) rfl sc__law_table.nd rfl rfl (sw_true rfl rfl rfl (by decide +kernel)) (pi_range1 (by rfl) T0.z_range (pa_cons (pe_op op_add (pe_callB call_len_seq (by rfl) T0.z_len PySem.boot_len (pa_cons (pv 0) pa_nil)) pe_int) pa_nil)) (blkOk_by (own := [("k", 5)]) (N := ["one", "two", "table", "i", "j", "k"]) (sc := defScope s__law_table) (by decide +kernel)) (fun _ _ _ _ _ => (pg_name (i := 5) sc__law_table.nd rfl (Or.inl rfl))) (fun _ _ _ _ _ => pts_nil) (fun _ _ _ _ _ => (pe_op op_rep (pe_lst (pa_cons pe_int pa_nil)) (pe_op op_add (pe_callB (call_lenQ (K := K) rfl) (by rfl) T0.z_len PySem.boot_len (pa_cons (pv 1) pa_nil)) pe_int))))
      (pss_cons (ps_for PassesOwn.never rfl (pi_range3 (by rfl) T0.z_range (pa_cons (pe_op op_sub (pe_callB call_len_seq (by rfl) T0.z_len PySem.boot_len (pa_cons (pv 0) pa_nil)) pe_int) (pa_cons (pe_op op_sub pe_int pe_int) (pa_cons (pe_op op_sub pe_int pe_int) pa_nil)))) (pg_name (i := 3) sc__law_table.nd rfl (Or.inl rfl))
        (pss_one (ps_for PassesOwn.never rfl (pi_range3 (by rfl) T0.z_range (pa_cons (pe_op op_sub (pe_callB call_len_seq (by rfl) T0.z_len PySem.boot_len (pa_cons (pv 1) pa_nil)) pe_int) (pa_cons (pe_op op_sub pe_int pe_int) (pa_cons (pe_op op_sub pe_int pe_int) pa_nil)))) (pg_name (i := 4) sc__law_table.nd rfl (Or.inl rfl))
          (pss_one (ps_asg (pe_ifExp (pt_cmpR op_eq (pe_ix ix_tup (pv 0) (pv 3) (fun _ _ => rfl)) (pe_ix ix_tup (pv 1) (pv 4) (fun _ _ => rfl)) (nomark _)) (pe_op op_add (pe_ix ix_list (pe_ix ix_list (pv 2) (pe_op op_add (pv 3) pe_int) (fun _ _ => rfl)) (pe_op op_add (pv 4) pe_int) (fun _ _ => rfl)) pe_int) (pe_callB (call_max2 rfl) (by rfl) T0.z_max (by decide +kernel) (pa_cons (pe_ix ix_list (pe_ix ix_list (pv 2) (pe_op op_add (pv 3) pe_int) (fun _ _ => rfl)) (pv 4) (fun _ _ => rfl)) (pa_cons (pe_ix ix_list (pe_ix ix_list (pv 2) (pv 3) (fun _ _ => rfl)) (pe_op op_add (pv 4) pe_int) (fun _ _ => rfl)) pa_nil)))) (pg_sub (pe_ix ix_list (pv 2) (pv 3) (fun _ _ => rfl)) (pv 4) set_list))))))
      (pss_one (ps_ret (pv 2))))), ?_⟩
    -- table = [[0] * (len(two) + 1) for _ in range(len(one) + 1)]
    refine ⟨_, rfl, a, _, rfl, .inr hA, _, _, rfl, rfl, _, rfl, ?_, ?_, fun D hD => ?_⟩
    · simp only [List.length_map]; omega
    · simp only [List.length_map]; omega
    have en : ((one.map V.str).length : Int) + 1 = ((one.length + 1 : Nat) : Int) := by simp
    refine lc_range (lo := 0) (n := (((one.map V.str).length : Int) + 1).toNat) (fun i H' => ∃ as, Mk0 H H' D two.length i as) ⟨[], rfl, upd_same, (fun k a e => nomatch e), (fun j k a e => nomatch e), same_new hD⟩ ?_ ?_
    · rintro i H' hi ⟨as, M⟩
      refine ⟨rfl, by show 1 ≤ sizeLine; decide, fun p hp => ?_⟩
      have hB' : SqT K (upd H' p (.lst [V.int 0])) b (two.map V.str) := (M.same.trans (same_new hp)).seqT hB
      refine ⟨_, rfl, b, _, rfl, .inr hB', _, _, rfl, rfl, p, _, _, rfl, rfl, upd_same, ?_, ?_, ?_, fun q hq => ?_⟩
      · simp only [List.length_map]; omega
      · simp only [List.length_map]; omega
      · simp only [List.length_map, List.length_singleton]
        exact Nat.le_trans (show 1 * ((two.length : Int) + 1).toNat ≤ 1001 by omega) (by decide)
      · have e0 : (List.replicate (((two.map V.str).length : Int) + 1).toNat [V.int 0]).flatten = rowL two.length fun _ => 0 := by
          rw [List.length_map]
          exact rep_zero two.length
        have nD : D ≠ p := ne_of_none M.at_ hp
        have e1 : upd H' p (.lst [V.int 0]) D = some (.lst (as.map V.ref)) := by rw [upd_ne nD]; exact M.at_
        have nDq : D ≠ q := ne_of_none e1 hq
        refine ⟨as.map V.ref, by rw [upd_ne nDq]; exact e1, ?_, as ++ [q], ?_⟩
        · rw [List.length_map, M.len]
          have hi' : i < one.length + 1 := by rw [en] at hi; simpa using hi
          exact Nat.lt_of_lt_of_le (show i < 2000 by omega) (by decide)
        · have e2 : (fun i j => V.int (i + j)) ((two.map V.str).length : Int) 1 = V.int (((two.map V.str).length : Int) + 1) := rfl
          rw [e0]
          exact M.more hD hp hq
    · rintro H1 ⟨as, M⟩
      have hlen : as.length = one.length + 1 := by rw [M.len, en]; simp
      have tb0 : Tb H1 D as two.length fun _ _ => 0 := ⟨M.at_, fun i a e => (M.row i a e).1, M.nd, fun i a e => (M.row i a e).2.2⟩
      have fr : ∀ (i : Nat) a, as[i]? = some a → H a = none := fun i a e => (M.row i a e).2.1
      -- for first in range(len(one) - 1, -1, -1)
      have hA1 : SqT K H1 a (one.map V.str) := M.same.seqT hA
      refine ⟨_, rfl, a, _, rfl, .inr hA1, _, _, rfl, rfl, _, _, rfl, rfl, _, _, rfl, rfl, (one.length : Int) - 1, -1, -1, one.length, ?_, ?_, ?_⟩
      · simp only [List.length_map]; rfl
      · have q := RgC.neg (i := (one.length : Int) - 1) (j := -1) (by omega) (by omega) (by omega) (by omega)
        have e : ((one.length : Int) - 1 - -1).toNat = one.length := by omega
        rw [e] at q
        exact q
      refine for_it walk_rangeC (fun i σ H' => ∃ (g : Nat → Nat → Int) (x3 x4 : Option V), σ = [some (.ref a), some (.ref b), some (.ref D), x3, x4, none] ∧ Tb H' D as two.length g ∧ Same H H' ∧
          ∀ r j, r ≤ one.length → j ≤ two.length → g r j = if one.length - i ≤ r then (T one two r j : Int) else 0) ?_ (fun _ _ _ _ _ => trivial) ?_ ?_
      · refine ⟨fun _ _ => 0, none, none, rfl, tb0, M.same, fun r j hr hj => ?_⟩
        by_cases e : one.length - 0 ≤ r
        · rw [if_pos e, T_end1 (by omega)]; rfl
        · rw [if_neg e]
      · rintro i x σ H2o H2 hi ⟨g, x3, x4, rfl, tb, sm, hg⟩ ⟨rfl, hx⟩
        obtain ⟨r, hr⟩ : ∃ r : Nat, r = one.length - 1 - i := ⟨_, rfl⟩
        have er : ((one.length : Int) - 1 + (i : Nat) * -1) = (r : Int) := by omega
        obtain rfl : x = V.int (r : Int) := hx.trans (congrArg V.int er)
        have l1 : r < as.length := by omega
        have l2 : r + 1 < as.length := by omega
        have r1 : as[r]? = some as[r] := List.getElem?_eq_getElem l1
        have r2 : as[r + 1]? = some as[r + 1] := List.getElem?_eq_getElem l2
        have q1 : (as.map V.ref)[r]? = some (V.ref as[r]) := by rw [List.getElem?_map, r1]; rfl
        have q2 : (as.map V.ref)[r + 1]? = some (V.ref as[r + 1]) := by rw [List.getElem?_map, r2]; rfl
        -- for second in range(len(two) - 1, -1, -1)
        have hB1 : SqT K H2 b (two.map V.str) := sm.seqT hB
        refine ⟨_, rfl, b, _, rfl, .inr hB1, _, _, rfl, rfl, _, _, rfl, rfl, _, _, rfl, rfl, (two.length : Int) - 1, -1, -1, two.length, ?_, ?_, ?_⟩
        · simp only [List.length_map]; rfl
        · have q := RgC.neg (i := (two.length : Int) - 1) (j := -1) (by omega) (by omega) (by omega) (by omega)
          have e : ((two.length : Int) - 1 - -1).toNat = two.length := by omega
          rw [e] at q
          exact q
        refine for_it walk_rangeC (fun t σ H3 => ∃ (g' : Nat → Nat → Int) (y6 : Option V), σ = [some (.ref a), some (.ref b), some (.ref D), some (.int (r : Int)), y6, none] ∧ Tb H3 D as two.length g' ∧ Same H H3 ∧
            ∀ r' j, r' ≤ one.length → j ≤ two.length → g' r' j = if r + 1 ≤ r' then (T one two r' j : Int) else if r' = r ∧ two.length - t ≤ j then (T one two r j : Int) else 0) ?_ (fun _ _ _ _ _ => trivial) ?_ ?_
        · refine ⟨g, x4, rfl, tb, sm, fun r' j h1 h2 => ?_⟩
          rw [hg r' j h1 h2]
          by_cases e : r + 1 ≤ r'
          · rw [if_pos e, if_pos (by omega)]
          · rw [if_neg e, if_neg (by omega)]
            by_cases e2 : r' = r ∧ two.length - 0 ≤ j
            · rw [if_pos e2, T_end2 (by omega)]; rfl
            · rw [if_neg e2]
        · rintro t x σ H3o H3 ht ⟨g', y6, rfl, tb', sm', hg'⟩ ⟨rfl, hx⟩
          obtain ⟨s, hs⟩ : ∃ s : Nat, s = two.length - 1 - t := ⟨_, rfl⟩
          have es : ((two.length : Int) - 1 + (t : Nat) * -1) = (s : Int) := by omega
          obtain rfl : x = V.int (s : Int) := hx.trans (congrArg V.int es)
          have hA2 : SqT K H3 a (one.map V.str) := sm'.seqT hA
          have hB2 : SqT K H3 b (two.map V.str) := sm'.seqT hB
          have o1 : r < one.length := by omega
          have o2 : s < two.length := by omega
          have n1 : one[r]? = some one[r] := List.getElem?_eq_getElem o1
          have n2 : two[s]? = some two[s] := List.getElem?_eq_getElem o2
          have m1 : (one.map V.str)[r]? = some (V.str one[r]) := by rw [List.getElem?_map, n1]; rfl
          have m2 : (two.map V.str)[s]? = some (V.str two[s]) := by rw [List.getElem?_map, n2]; rfl
          have w1 := tb'.row r _ r1
          have w2 := tb'.row (r + 1) _ r2
          have v1 : (rowL two.length (g' (r + 1)))[s + 1]? = some (V.int (T one two (r + 1) (s + 1) : Int)) := by
            rw [rowL_at (by omega), hg' (r + 1) (s + 1) (by omega) (by omega), if_pos (Nat.le_refl _)]
          have v2 : (rowL two.length (g' (r + 1)))[s]? = some (V.int (T one two (r + 1) s : Int)) := by
            rw [rowL_at (by omega), hg' (r + 1) s (by omega) (by omega), if_pos (Nat.le_refl _)]
          have v3 : (rowL two.length (g' r))[s + 1]? = some (V.int (T one two r (s + 1) : Int)) := by
            rw [rowL_at (by omega), hg' r (s + 1) (by omega) (by omega), if_neg (by omega), if_pos ⟨rfl, by omega⟩]
          have ixs : ixN (rowL two.length (g' r)).length (s : Int) = some s := by
            rw [rowL_len]
            unfold ixN
            rw [if_pos (by omega), if_pos (by omega)]
            rfl
          have fin : ∀ v : Int, v = (T one two r s : Int) → ∃ (gg : Nat → Nat → Int) (y6 : Option V), [some (V.ref a), some (.ref b), some (.ref D), some (.int (r : Int)), some (.int (s : Int)), none] = [some (V.ref a), some (.ref b), some (.ref D), some (.int (r : Int)), y6, none] ∧
              Tb (upd H3 as[r] (.lst ((rowL two.length (g' r)).set s (V.int v)))) D as two.length gg ∧ Same H (upd H3 as[r] (.lst ((rowL two.length (g' r)).set s (V.int v)))) ∧
            ∀ r' j, r' ≤ one.length → j ≤ two.length → gg r' j = if r + 1 ≤ r' then (T one two r' j : Int) else if r' = r ∧ two.length - (t + 1) ≤ j then (T one two r j : Int) else 0 := by
            intro v hv
            refine ⟨_, some (.int (s : Int)), rfl, tb'.put r1 (show s ≤ two.length by omega), same_mut sm' (fr r _ r1), fun r' j h1 h2 => ?_⟩
            by_cases e : r' = r ∧ j = s
            · obtain ⟨e1, e2⟩ := e
              subst e1 e2
              rw [if_pos ⟨rfl, rfl⟩, if_neg (by omega), if_pos ⟨rfl, by omega⟩, hv]
            · rw [if_neg e, hg' r' j h1 h2]
              by_cases e3 : r + 1 ≤ r'
              · rw [if_pos e3, if_pos e3]
              · rw [if_neg e3, if_neg e3]
                by_cases e4 : r' = r
                · by_cases e5 : two.length - t ≤ j
                  · rw [if_pos ⟨e4, e5⟩, if_pos ⟨e4, by omega⟩]
                  · have e6 : j ≠ s := fun z => e ⟨e4, z⟩
                    rw [if_neg (fun z => e5 z.2), if_neg (fun z => by have := z.2; omega)]
                · rw [if_neg (fun z => e4 z.1), if_neg (fun z => e4 z.1)]
          refine ⟨_, rfl, _, rfl, a, _, _, _, rfl, rfl, hA2, atI_nat m1, _, rfl, _, rfl, b, _, _, _, rfl, rfl, hB2, atI_nat m2, rfl, _, rfl, ?_⟩
          have q1' : (as.map V.ref)[r]? = some (V.ref as[r]) := q1
          refine ite2 (fun e => ?_) (fun e => ?_)
          · have e' : one[r] = two[s] := V.str.inj (of_decide_eq_true e)
            refine ⟨_, rfl, _, rfl, _, _, rfl, rfl, D, _, _, _, rfl, rfl, SqL.of tb'.at_, atI_nat (j := r + 1) q2, _, rfl, _, _, rfl, rfl, _, _, _, _, rfl, rfl, SqL.of w2, atI_nat (j := s + 1) v1, _, _, rfl, rfl, ?_⟩
            refine ⟨_, rfl, _, rfl, D, _, _, _, rfl, rfl, SqL.of tb'.at_, atI_nat q1, _, rfl, _, _, _, s, rfl, rfl, w1, ixs, ?_⟩
            refine fin _ ?_
            rw [T_eq n1 (e' ▸ n2)]
            omega
          · have e' : one[r] ≠ two[s] := fun z => e (decide_eq_true (congrArg V.str z))
            refine ⟨_, rfl, _, rfl, _, _, rfl, rfl, D, _, _, _, rfl, rfl, SqL.of tb'.at_, atI_nat (j := r + 1) q2, _, rfl, _, _, _, _, rfl, rfl, SqL.of w2, atI_nat (j := s) v2, ?_⟩
            refine ⟨_, rfl, _, rfl, D, _, _, _, rfl, rfl, SqL.of tb'.at_, atI_nat q1, _, rfl, _, _, rfl, rfl, _, _, _, _, rfl, rfl, SqL.of w1, atI_nat (j := s + 1) v3, _, _, rfl, ?_⟩
            refine ⟨_, rfl, _, rfl, D, _, _, _, rfl, rfl, SqL.of tb'.at_, atI_nat q1, _, rfl, _, _, _, s, rfl, rfl, w1, ixs, ?_⟩
            refine fin _ ?_
            rw [T_ne n1 n2 e']
            split <;> omega
        · rintro σ H3 ⟨g', y6, rfl, tb', sm', hg'⟩
          refine ⟨g', _, y6, rfl, tb', sm', fun r' j h1 h2 => ?_⟩
          rw [hg' r' j h1 h2]
          by_cases e : r + 1 ≤ r'
          · rw [if_pos e, if_pos (by omega)]
          · rw [if_neg e]
            by_cases e2 : r' = r
            · subst e2
              rw [if_pos ⟨rfl, by omega⟩, if_pos (by omega)]
            · rw [if_neg (fun z => e2 z.1), if_neg (by omega)]
      · rintro σ H2 ⟨g, x3, x4, rfl, tb, sm, hg⟩
        refine ⟨_, rfl, k H2 D sm hD ⟨as, g, hlen, tb, fun i j h1 h2 => ?_⟩⟩
        rw [hg i j h1 h2, if_pos (by omega)]
end
end VK
end

section
set_option Elab.async false
set_option linter.all false
set_option maxRecDepth 100000
set_option maxHeartbeats 4000000
namespace VK
open PySem L2
/-! ### data without lists: it stays while tuples stay -/
mutual
def imm : PyData → Bool
  | .list _ => false
  | .dict _ => false
  | .tuple ds => immAll ds
  | .none => true
  | .bool _ => true
  | .int _ => true
  | .str _ => true
def immAll : List PyData → Bool
  | [] => true
  | d :: ds => imm d && immAll ds
end
/-- tuples stay -/
def TK (K : PySem.W.Frag) (H H' : Hp) : Prop := ∀ a xs, SqT K H a xs → SqT K H' a xs
theorem TK.refl (K : PySem.W.Frag) (H : Hp) : TK K H H := fun _ _ h => h
theorem TK.trans {K : PySem.W.Frag} {H H1 H2 : Hp} (a : TK K H H1) (b : TK K H1 H2) : TK K H H2 := fun x y h => b x y (a x y h)
theorem TK.same {K : PySem.W.Frag} {H H' : Hp} (s : Same H H') : TK K H H' := fun _ _ h => s.seqT h
/-- a list is written, or something new is laid -/
theorem TK.put {K : PySem.W.Frag} {H : Hp} {p : Addr} {o : HO} (h : H p = none ∨ ∃ l, H p = some (.lst l)) : TK K H (upd H p o) := fun a xs q => by
  rcases q with q | q
  · have n : a ≠ p := by
      rintro rfl
      rcases q with q | ⟨x, q⟩ <;> (rcases h with h | ⟨l, h⟩ <;> (rw [h] at q; cases q))
    exact .inl (rd_upd q n)
  · exact .inr q
theorem TK.new {K : PySem.W.Frag} {H : Hp} {p : Addr} {o : HO} (h : H p = none) : TK K H (upd H p o) := TK.put (.inl h)
theorem TK.lst {K : PySem.W.Frag} {H : Hp} {p : Addr} {o : HO} {l : List V} (h : H p = some (.lst l)) : TK K H (upd H p o) := TK.put (.inr ⟨l, h⟩)
mutual
theorem dp_keep {K : PySem.W.Frag} {H H' : Hp} (t : TK K H H') : ∀ (d : PyData) (v : V), imm d = true → Dp K H v d → Dp K H' v d
  | .none, _, _, h => by cases h; exact .non
  | .bool b, _, _, h => by cases h; exact .bl b
  | .int i, _, _, h => by cases h; exact .int i
  | .str x, _, _, h => by cases h; exact .str x
  | .list _, _, e, _ => by simp [imm] at e
  | .dict _, _, e, _ => by simp [imm] at e
  | .tuple ds, _, e, h => by
    cases h with
    | tup q r => exact .tup (t _ _ q) (dpAll_keep t ds _ (by simpa [imm] using e) r)
theorem dpAll_keep {K : PySem.W.Frag} {H H' : Hp} (t : TK K H H') : ∀ (ds : List PyData) (vs : List V), immAll ds = true → DpAll K H vs ds → DpAll K H' vs ds
  | [], _, _, h => by cases h; exact .nil
  | d :: ds, _, e, h => by
    have e' : imm d = true ∧ immAll ds = true := by simpa [immAll] using e
    cases h with
    | cons a b => exact .cons (dp_keep t d _ e'.1 a) (dpAll_keep t ds _ e'.2 b)
end
theorem immAll_map {α : Type} (f : α → PyData) (h : ∀ x, imm (f x) = true) : ∀ l : List α, immAll (l.map f) = true
  | [] => rfl
  | x :: l => by
    show (imm (f x) && immAll (l.map f)) = true
    rw [h x, immAll_map f h l]
    rfl
theorem dpAll_len {K : PySem.W.Frag} {H : Hp} : ∀ {vs : List V} {ds : List PyData}, DpAll K H vs ds → vs.length = ds.length
  | _, _, .nil => rfl
  | _, _, .cons _ b => by simp [dpAll_len b]
theorem dpAll_app {K : PySem.W.Frag} {H : Hp} : ∀ {vs ws : List V} {ds es : List PyData}, DpAll K H vs ds → DpAll K H ws es → DpAll K H (vs ++ ws) (ds ++ es)
  | _, _, _, _, .nil, h => h
  | _, _, _, _, .cons a b, h => .cons a (dpAll_app b h)
theorem dpAll_one {K : PySem.W.Frag} {H : Hp} {v : V} {d : PyData} (h : Dp K H v d) : DpAll K H [v] [d] := .cons h .nil
theorem dpAll_at {K : PySem.W.Frag} {H : Hp} : ∀ {vs : List V} {ds : List PyData} {k : Nat} {d : PyData}, DpAll K H vs ds → ds[k]? = some d → ∃ v, vs[k]? = some v ∧ Dp K H v d
  | _, _, _, _, .nil, e => by simp at e
  | _, _, 0, d, .cons a _, e => by
    simp at e
    subst e
    exact ⟨_, rfl, a⟩
  | _, _, k + 1, d, .cons _ b, e => by
    obtain ⟨v, h1, h2⟩ := dpAll_at (k := k) b (by simpa using e)
    exact ⟨v, by simpa using h1, h2⟩
theorem dpAll_drop {K : PySem.W.Frag} {H : Hp} : ∀ {vs : List V} {ds : List PyData} (k : Nat), DpAll K H vs ds → DpAll K H (vs.drop k) (ds.drop k)
  | _, _, 0, h => h
  | _, _, _ + 1, .nil => .nil
  | _, _, k + 1, .cons _ b => dpAll_drop k b
theorem dpAll_take {K : PySem.W.Frag} {H : Hp} : ∀ {vs : List V} {ds : List PyData} (k : Nat), DpAll K H vs ds → DpAll K H (vs.take k) (ds.take k)
  | _, _, 0, _ => .nil
  | _, _, _ + 1, .nil => .nil
  | _, _, k + 1, .cons a b => .cons a (dpAll_take k b)
theorem dpAll_set {K : PySem.W.Frag} {H : Hp} {v : V} {d : PyData} (h : Dp K H v d) : ∀ {vs : List V} {ds : List PyData} (k : Nat), DpAll K H vs ds → DpAll K H (vs.set k v) (ds.set k d)
  | _, _, _, .nil => .nil
  | _, _, 0, .cons _ b => .cons h b
  | _, _, k + 1, .cons a b => .cons a (dpAll_set h k b)
theorem dpAll_split {K : PySem.W.Frag} {H : Hp} {d : PyData} : ∀ {ds : List PyData} {vs : List V}, DpAll K H vs (ds ++ [d]) → ∃ ws v, vs = ws ++ [v] ∧ DpAll K H ws ds ∧ Dp K H v d
  | [], _, h => by
    cases h with
    | cons a b =>
      cases b
      exact ⟨[], _, rfl, .nil, a⟩
  | e :: ds, _, h => by
    cases h with
    | cons a b =>
      obtain ⟨ws, v, h1, h2, h3⟩ := dpAll_split (ds := ds) b
      subst h1
      exact ⟨_ :: ws, v, rfl, .cons a h2, h3⟩
/-- texts -/
theorem dpAll_strs {K : PySem.W.Frag} {H : Hp} : ∀ ls : List Str, DpAll K H (ls.map V.str) (ls.map PyData.str)
  | [] => .nil
  | x :: l => .cons (.str x) (dpAll_strs l)
theorem of_strs {K : PySem.W.Frag} {H : Hp} : ∀ {ls : List Str} {vs : List V}, DpAll K H vs (ls.map PyData.str) → vs = ls.map V.str
  | [], _, h => by cases h; rfl
  | x :: l, _, h => by
    cases h with
    | cons a b =>
      cases a
      rw [of_strs b]
      rfl
/-- a tuple of lines; a pair of numbers; a change -/
abbrev linesD (ls : List Str) : PyData := .tuple (ls.map PyData.str)
abbrev pairD (p : Nat × Nat) : PyData := .tuple [.int (p.1 : Int), .int (p.2 : Int)]
structure Hunk where
  start : Nat
  gone : List Str
  come : List Str
abbrev hunkD (h : Hunk) : PyData := .tuple [.int (h.start : Int), linesD h.gone, linesD h.come]
theorem imm_lines (ls : List Str) : imm (linesD ls) = true := by
  show immAll (ls.map PyData.str) = true
  exact immAll_map _ (fun _ => rfl) ls
theorem imm_pair (p : Nat × Nat) : imm (pairD p) = true := rfl
theorem imm_hunk (h : Hunk) : imm (hunkD h) = true := by
  show (imm (.int (h.start : Int)) && (imm (linesD h.gone) && (imm (linesD h.come) && immAll []))) = true
  rw [imm_lines, imm_lines]
  rfl
theorem dp_lines {K : PySem.W.Frag} {H : Hp} {a : Addr} {ls : List Str} (h : SqT K H a (ls.map V.str)) : Dp K H (.ref a) (linesD ls) := .tup h (dpAll_strs ls)
theorem of_lines {K : PySem.W.Frag} {H : Hp} {v : V} {ls : List Str} (h : Dp K H v (linesD ls)) : ∃ a, v = .ref a ∧ SqT K H a (ls.map V.str) := by
  cases h with
  | tup q r => exact ⟨_, rfl, by rw [← of_strs r]; exact q⟩
theorem dp_pair {K : PySem.W.Frag} {H : Hp} {a : Addr} {i j : Nat} (h : SqT K H a [.int (i : Int), .int (j : Int)]) : Dp K H (.ref a) (pairD (i, j)) := .tup h (.cons (.int _) (.cons (.int _) .nil))
theorem of_pair {K : PySem.W.Frag} {H : Hp} {v : V} {p : Nat × Nat} (h : Dp K H v (pairD p)) : ∃ a, v = .ref a ∧ SqT K H a [.int (p.1 : Int), .int (p.2 : Int)] := by
  cases h with
  | tup q r =>
    cases r with
    | cons a b =>
      cases a
      cases b with
      | cons a b =>
        cases a
        cases b
        exact ⟨_, rfl, q⟩
theorem of_hunk {K : PySem.W.Frag} {H : Hp} {v : V} {h : Hunk} (q : Dp K H v (hunkD h)) : ∃ a b c, v = .ref a ∧ SqT K H a [.int (h.start : Int), .ref b, .ref c] ∧ SqT K H b (h.gone.map V.str) ∧ SqT K H c (h.come.map V.str) := by
  cases q with
  | tup q r =>
    cases r with
    | cons x r =>
      cases x
      cases r with
      | cons y r =>
        cases r with
        | cons z r =>
          cases r
          obtain ⟨b, rfl, hb⟩ := of_lines y
          obtain ⟨c, rfl, hc⟩ := of_lines z
          exact ⟨_, b, c, rfl, q, hb, hc⟩
theorem dp_hunk {K : PySem.W.Frag} {H : Hp} {a b c : Addr} {h : Hunk} (q : SqT K H a [.int (h.start : Int), .ref b, .ref c]) (hb : SqT K H b (h.gone.map V.str)) (hc : SqT K H c (h.come.map V.str)) : Dp K H (.ref a) (hunkD h) :=
  .tup q (.cons (.int _) (.cons (dp_lines hb) (.cons (dp_lines hc) .nil)))
/-- pairs, changes in a row -/
theorem pairs_keep {K : PySem.W.Frag} {H H' : Hp} (t : TK K H H') {vs : List V} {ps : List (Nat × Nat)} (h : DpAll K H vs (ps.map pairD)) : DpAll K H' vs (ps.map pairD) :=
  dpAll_keep t _ _ (immAll_map _ imm_pair ps) h
theorem hunks_keep {K : PySem.W.Frag} {H H' : Hp} (t : TK K H H') {vs : List V} {hs : List Hunk} (h : DpAll K H vs (hs.map hunkD)) : DpAll K H' vs (hs.map hunkD) :=
  dpAll_keep t _ _ (immAll_map _ imm_hunk hs) h
end VK
end

section
set_option Elab.async false
set_option linter.all false
set_option maxRecDepth 100000
set_option maxHeartbeats 4000000
namespace VK
open PySem L2
/-! ### the greedy row of pairs -/
theorem lcs_steps : ∀ (n : Nat) (xs ys : List Str), xs.length + ys.length ≤ n →
    (∀ x, lcs xs ys ≤ lcs (x :: xs) ys ∧ lcs (x :: xs) ys ≤ lcs xs ys + 1) ∧ (∀ y, lcs xs ys ≤ lcs xs (y :: ys) ∧ lcs xs (y :: ys) ≤ lcs xs ys + 1)
  | 0, xs, ys, h => by
    have e1 : xs = [] := List.eq_nil_of_length_eq_zero (by omega)
    have e2 : ys = [] := List.eq_nil_of_length_eq_zero (by omega)
    subst e1 e2
    refine ⟨fun x => ?_, fun y => ?_⟩
    · rw [lcs_nil2, lcs_nil2]; omega
    · rw [lcs_nil, lcs_nil]; omega
  | n + 1, xs, ys, h => by
    refine ⟨fun x => ?_, fun y => ?_⟩
    · cases ys with
      | nil => rw [lcs_nil2, lcs_nil2]; omega
      | cons y ys =>
        have i1 := lcs_steps n xs ys (by simp only [List.length_cons] at h; omega)
        have q1 := i1.1 x
        have q2 := i1.2 y
        rw [lcs_cons]
        by_cases e : x = y
        · rw [if_pos e]; omega
        · rw [if_neg e]; omega
    · cases xs with
      | nil => rw [lcs_nil, lcs_nil]; omega
      | cons x xs =>
        have i1 := lcs_steps n xs ys (by simp only [List.length_cons] at h; omega)
        have q1 := i1.1 x
        have q2 := i1.2 y
        rw [lcs_cons]
        by_cases e : x = y
        · rw [if_pos e]; omega
        · rw [if_neg e]; omega
theorem T_mono1 (one two : List Str) (i j : Nat) : T one two (i + 1) j ≤ T one two i j := by
  by_cases h : i < one.length
  · have q := (lcs_steps _ (one.drop (i + 1)) (two.drop j) (Nat.le_refl _)).1 one[i]
    unfold T
    rw [List.drop_eq_getElem_cons h]
    exact q.1
  · rw [T_end1 (by omega)]; omega
theorem T_mono2 (one two : List Str) (i j : Nat) : T one two i (j + 1) ≤ T one two i j := by
  by_cases h : j < two.length
  · have q := (lcs_steps _ (one.drop i) (two.drop (j + 1)) (Nat.le_refl _)).2 two[j]
    unfold T
    rw [List.drop_eq_getElem_cons h]
    exact q.1
  · rw [T_end2 (by omega)]; omega
theorem T_mono2s (one two : List Str) (i : Nat) : ∀ (d j : Nat), T one two i (j + d) ≤ T one two i j
  | 0, j => Nat.le_refl _
  | d + 1, j => by
    have h1 := T_mono2 one two i (j + d)
    have h2 := T_mono2s one two i d j
    have e : j + (d + 1) = j + d + 1 := by omega
    rw [e]; omega
def hitP (one two : List Str) (i j k : Nat) : Bool := decide (one[i]? = two[k]?) && decide (T one two (i + 1) (k + 1) + 1 = T one two i j)
/-- the first place from j on -/
def hit (one two : List Str) (i j : Nat) : Option Nat := (List.range' j (two.length - j)).find? (hitP one two i j)
theorem hit_some {one two : List Str} {i j k : Nat} (h : hit one two i j = some k) : j ≤ k ∧ k < two.length ∧ one[i]? = two[k]? ∧ i < one.length ∧ T one two (i + 1) (k + 1) + 1 = T one two i j ∧ ∀ k', j ≤ k' → k' < k → hitP one two i j k' = false := by
  have h1 := List.mem_of_find?_eq_some h
  have h2 := List.find?_some h
  rw [List.mem_range'_1] at h1
  unfold hitP at h2
  rw [Bool.and_eq_true, decide_eq_true_eq, decide_eq_true_eq] at h2
  have hk : k < two.length := by omega
  refine ⟨h1.1, hk, h2.1, ?_, h2.2, fun k' a b => ?_⟩
  · have e := h2.1
    rw [List.getElem?_eq_getElem hk] at e
    exact (List.getElem?_eq_some_iff.mp e).1
  · unfold hit at h
    rw [List.find?_eq_some_iff_append] at h
    obtain ⟨_, as, bs, e, hn⟩ := h
    have hm : k' ∈ as := by
      have : as ++ k :: bs = List.range' j (two.length - j) := e.symm
      have m : k' ∈ as ++ k :: bs := by rw [this, List.mem_range'_1]; omega
      rcases List.mem_append.mp m with m | m
      · exact m
      · exfalso
        have sorted : (as ++ k :: bs).Pairwise (· < ·) := by rw [this]; exact List.pairwise_lt_range'
        rw [List.pairwise_append] at sorted
        rcases List.mem_cons.mp m with m | m
        · omega
        · have := (List.pairwise_cons.mp sorted.2.1).1 k' m
          omega
    have := hn k' hm
    simpa using this
theorem hit_none {one two : List Str} {i j : Nat} (h : hit one two i j = none) {k : Nat} (h1 : j ≤ k) (h2 : k < two.length) : ¬ (one[i]? = two[k]? ∧ T one two (i + 1) (k + 1) + 1 = T one two i j) := by
  unfold hit at h
  rw [List.find?_eq_none] at h
  have q := h k (by rw [List.mem_range'_1]; omega)
  unfold hitP at q
  simpa using q
/-- a row is left, or a place is there -/
theorem T_step {one two : List Str} {i : Nat} (hi : i < one.length) : ∀ (d j : Nat), two.length - j = d → T one two i j = T one two (i + 1) j ∨ ∃ k, j ≤ k ∧ k < two.length ∧ one[i]? = two[k]? ∧ T one two (i + 1) (k + 1) + 1 = T one two i j
  | 0, j, e => by
    left
    rw [T_end2 (i := i) (by omega), T_end2 (i := i + 1) (by omega)]
  | d + 1, j, e => by
    have hj : j < two.length := by omega
    have n1 : one[i]? = some one[i] := List.getElem?_eq_getElem hi
    have n2 : two[j]? = some two[j] := List.getElem?_eq_getElem hj
    by_cases q : one[i] = two[j]
    · right
      exact ⟨j, Nat.le_refl _, hj, by rw [n1, n2, q], by rw [T_eq n1 (q ▸ n2)]⟩
    · have t := T_ne n1 n2 q
      have m := T_mono2 one two (i + 1) j
      rcases T_step (two := two) hi d (j + 1) (by omega) with r | ⟨k, a, b, c, r⟩
      · left
        omega
      · by_cases z : T one two (i + 1) j = T one two i j
        · exact .inl z.symm
        · right
          exact ⟨k, by omega, b, c, by omega⟩
theorem T_none {one two : List Str} {i j : Nat} (h : hit one two i j = none) : T one two (i + 1) j = T one two i j := by
  by_cases hi : i < one.length
  · rcases T_step hi _ j rfl with r | ⟨k, a, b, c, r⟩
    · exact r.symm
    · exact absurd ⟨c, r⟩ (hit_none h a b)
  · rw [T_end1 (i := i + 1) (by omega), T_end1 (i := i) (by omega)]
/-- the row from (i, j) on -/
def pairsF (one two : List Str) : Nat → Nat → Nat → List (Nat × Nat)
  | 0, _, _ => []
  | n + 1, i, j => match hit one two i j with
    | some k => (i, k) :: pairsF one two n (i + 1) (k + 1)
    | none => pairsF one two n (i + 1) j
def PR (one two : List Str) (i j : Nat) : List (Nat × Nat) := pairsF one two (one.length - i) i j
theorem PR_some {one two : List Str} {i j k : Nat} (h : hit one two i j = some k) : PR one two i j = (i, k) :: PR one two (i + 1) (k + 1) := by
  have hi := (hit_some h).2.2.2.1
  unfold PR
  have e : one.length - i = (one.length - (i + 1)) + 1 := by omega
  rw [e, pairsF, h]
theorem PR_none {one two : List Str} {i j : Nat} (h : hit one two i j = none) : PR one two i j = PR one two (i + 1) j := by
  unfold PR
  by_cases hi : i < one.length
  · have e : one.length - i = (one.length - (i + 1)) + 1 := by omega
    rw [e, pairsF, h]
  · have e : one.length - i = 0 := by omega
    have e2 : one.length - (i + 1) = 0 := by omega
    rw [e, e2]; rfl
theorem PR_end {one two : List Str} {i j : Nat} (h : one.length ≤ i) : PR one two i j = [] := by
  unfold PR
  have e : one.length - i = 0 := by omega
  rw [e]; rfl
theorem PR_len {one two : List Str} : ∀ (d i j : Nat), one.length - i = d → (PR one two i j).length = T one two i j
  | 0, i, j, e => by rw [PR_end (by omega), T_end1 (by omega)]; rfl
  | d + 1, i, j, e => by
    cases h : hit one two i j with
    | some k =>
      rw [PR_some h, List.length_cons, PR_len d (i + 1) (k + 1) (by omega)]
      exact (hit_some h).2.2.2.2.1
    | none => rw [PR_none h, PR_len d (i + 1) j (by omega), T_none h]
theorem PR_zero {one two : List Str} {i j : Nat} (h : T one two i j = 0) : PR one two i j = [] :=
  List.eq_nil_of_length_eq_zero (by rw [PR_len _ i j rfl, h])
/-- all pairs are places of the same line, and both rise -/
def Row (one two : List Str) : Nat → Nat → List (Nat × Nat) → Prop
  | _, _, [] => True
  | i, j, (a, b) :: r => i ≤ a ∧ j ≤ b ∧ a < one.length ∧ b < two.length ∧ one[a]? = two[b]? ∧ Row one two (a + 1) (b + 1) r
theorem Row.le {one two : List Str} : ∀ {r : List (Nat × Nat)} {i j i' j' : Nat}, i' ≤ i → j' ≤ j → Row one two i j r → Row one two i' j' r
  | [], _, _, _, _, _, _, _ => trivial
  | (a, b) :: r, _, _, _, _, h1, h2, ⟨x, y, z⟩ => ⟨by omega, by omega, z⟩
theorem PR_row {one two : List Str} : ∀ (d i j : Nat), one.length - i = d → Row one two i j (PR one two i j)
  | 0, i, j, e => by rw [PR_end (by omega)]; trivial
  | d + 1, i, j, e => by
    cases h : hit one two i j with
    | some k =>
      rw [PR_some h]
      obtain ⟨a, b, c, hi, _⟩ := hit_some h
      exact ⟨Nat.le_refl _, a, hi, b, c, PR_row d (i + 1) (k + 1) (by omega)⟩
    | none =>
      rw [PR_none h]
      exact (PR_row d (i + 1) j (by omega)).le (by omega) (Nat.le_refl _)
/-- the law's row -/
def pairs (one two : List Str) : List (Nat × Nat) := PR one two 0 0
theorem pairs_len (one two : List Str) : (pairs one two).length = T one two 0 0 := PR_len _ 0 0 rfl
theorem pairs_row (one two : List Str) : Row one two 0 0 (pairs one two) := PR_row _ 0 0 rfl
end VK
end

section
set_option Elab.async false
set_option linter.all false
set_option maxRecDepth 100000
set_option maxHeartbeats 4000000
namespace VK
open PySem L2
abbrev s__law_pairs : Stmt := topS 33
theorem sc__law_pairs : FnScope ["one", "two", "table", "found", "i", "j", "hits", "k"] ["one", "two"] (defScope s__law_pairs) := ⟨rfl, rfl, rfl, by decide +kernel, rfl, by decide +kernel, by decide +kernel⟩
def spLPairs (K : PySem.W.Frag) : Sp := fun vs H Q _ => ∃ (a b : Addr) (one two : List Str), vs = [.ref a, .ref b] ∧ SqT K H a (one.map V.str) ∧ SqT K H b (two.map V.str) ∧ one.length ≤ 1000 ∧ two.length ≤ 1000 ∧
  ∀ (H' : Hp) (t : Addr) (ws : List V), Same H H' → H t = none → H' t = some (.lst ws) → DpAll K H' ws ((pairs one two).map pairD) → Q (.ref t) H'
section
variable {P : Program} {w : World} {K : PySem.W.Frag} {mg : Str → Option Value} {base : Heap}
theorem ok_lpairs {f fT : Addr} {fd fdT : FuncData} (F : Fun K "_law_pairs" "_law_pairs" s__law_pairs f fd) (T0 : Txt0 mg) (DT : Df K mg "_law_table" s__law_table ["one", "two"] fT fdT) : FnOk P w K mg base CX0 2 f fd ["one", "two"] (spLPairs K) := by
  have GT : FnOk P w K mg base CX0 1 fT fdT ["one", "two"] (spLTable K) := ok_ltable DT.F T0
  refine F.ok sc__law_pairs (fun vs H Q E h => ?_) (fun cdv A outer s H vs Q E hr h => ?_)
  · obtain ⟨a, b, one, two, rfl, _⟩ := h
    rfl
  · obtain ⟨a, b, one, two, rfl, hA, hB, ha, hb, k⟩ := h
    refine ⟨_, (pss_cons (ps_set (i := 2) sc__law_pairs.nd rfl (Or.inr rfl) (pe_call GT hr rfl DT.m DT.F.kp DT.b .nil pass0 (pa_cons (pv 0) (pa_cons (pv 1) pa_nil))))
      (pss_cons (ps_set (i := 3) sc__law_pairs.nd rfl (Or.inl rfl) (pe_lst pa_nil))
      (pss_cons (ps_set (i := 4) sc__law_pairs.nd rfl (Or.inr rfl) pe_int)
      (pss_cons (ps_set (i := 5) sc__law_pairs.nd rfl (Or.inr rfl) pe_int)
      (pss_cons (ps_while PassesOwn.never (pt_cmpR op_gt (pe_ix ix_list (pe_ix ix_list (pv 2) (pv 4) (fun _ _ => rfl)) (pv 5) (fun _ _ => rfl)) pe_int (nomark _))
        (pss_cons (ps_setLc (i := 6) (own := [("k", 7)]) (g := gName 7) (tt := _) rfl sc__law_pairs.nd rfl rfl (sw_true rfl rfl rfl (by decide +kernel)) (pi_range2 (by rfl) T0.z_range (pa_cons (pv 5) (pa_cons (pe_callB call_len_seq (by rfl) T0.z_len PySem.boot_len (pa_cons (pv 1) pa_nil)) pa_nil))) (blkOk_by (own := [("k", 7)]) (N := ["one", "two", "table", "found", "i", "j", "hits", "k"]) (sc := defScope s__law_pairs) (by decide +kernel)) (fun _ _ _ _ _ => (pg_name (i := 7) sc__law_pairs.nd rfl (Or.inl rfl))) (fun _ _ _ _ _ => (pts_one (PW.pt (pw_and (pt_cmpR op_eq (pe_ix (ix_tupQ (K := K) rfl) (pv 0) (pv 4) (fun _ _ => rfl)) (pe_ix (ix_tupQ (K := K) rfl) (pv 1) (pv 7) (fun _ _ => rfl)) (nomark _)) (pw_and1 (pt_cmpR op_eq (pe_op op_add (pe_ix (ix_listQ (K := K) rfl) (pe_ix (ix_listQ (K := K) rfl) (pv 2) (pe_op op_add (pv 4) pe_int) (fun _ _ => rfl)) (pe_op op_add (pv 7) pe_int) (fun _ _ => rfl)) pe_int) (pe_ix (ix_listQ (K := K) rfl) (pe_ix (ix_listQ (K := K) rfl) (pv 2) (pv 4) (fun _ _ => rfl)) (pv 5) (fun _ _ => rfl)) (nomark _))))))) (fun _ _ _ _ _ => (pv 7)))
        (pss_cons (ps_if (pt_cmpR op_gt (pe_callB call_len_seq (by rfl) T0.z_len PySem.boot_len (pa_cons (pv 6) pa_nil)) pe_int (nomark _))
          (pss_cons (ps_expr (pe_bm PySem.F.plainAttrs_list PySem.F.slot_list_append PySem.F.type_list_append mt_append (pv 3) (pa_cons (pe_tup (pa_cons (pv 4) (pa_cons (pe_ix ix_list (pv 6) pe_int (fun _ _ => rfl)) pa_nil))) pa_nil)))
          (pss_one (ps_set (i := 5) sc__law_pairs.nd rfl (Or.inr rfl) (pe_op op_add (pe_ix ix_list (pv 6) pe_int (fun _ _ => rfl)) pe_int))))
          pss_nil)
        (pss_one (ps_set (i := 4) sc__law_pairs.nd rfl (Or.inr rfl) (pe_op op_add (pv 4) pe_int))))))
      (pss_one (ps_ret (pv 3)))))))), ?_⟩
    refine ⟨_, rfl, _, rfl, a, b, one, two, rfl, hA, hB, ha, hb, fun H1 t s1 ht0 tab => ?_⟩
    refine ⟨by show 0 ≤ sizeLine; decide, fun fo hfo => ?_⟩
    refine seq_c ?_
    refine seq_c ?_
    refine ⟨fun m σ H' => ∃ (i j : Nat) (ws : List V) (dn : List (Nat × Nat)) (x6 : Option V), m = one.length - i ∧ σ = [some (.ref a), some (.ref b), some (.ref t), some (.ref fo), some (.int (i : Int)), some (.int (j : Int)), x6, none] ∧
        Same H1 H' ∧ H' fo = some (.lst ws) ∧ DpAll K H' ws (dn.map pairD) ∧ dn ++ PR one two i j = pairs one two ∧ i ≤ one.length ∧ j ≤ two.length, ⟨_, 0, 0, [], [], none, rfl, rfl, same_new hfo, upd_same, .nil, rfl, Nat.zero_le _, Nat.zero_le _⟩, ?_⟩
    rintro m σ H2 ⟨i, j, ws, dn, x6, rfl, rfl, s2, hw, hd, hp, hi, hj⟩
    have tab2 := tab.same s2
    obtain ⟨as, r, row, hT, hr1, hr2, hr3⟩ := tab2.get hi hj
    refine ⟨_, rfl, _, rfl, t, as, (i : Int), _, rfl, rfl, SqL.of hT, atI_nat hr1, _, rfl, r, row, (j : Int), _, rfl, rfl, SqL.of hr2, atI_nat hr3, _, _, rfl, rfl, ?_⟩
    refine ⟨_, rfl, ?_⟩
    refine ite2 (fun e => ?_) (fun e => ?_)
    · have e : (0 : Int) < (T one two i j : Int) := of_decide_eq_true e
      have hi1 : i < one.length := by
        rcases Nat.lt_or_ge i one.length with z | z
        · exact z
        · rw [T_end1 z] at e; omega
      have hj1 : j < two.length := by
        rcases Nat.lt_or_ge j two.length with z | z
        · exact z
        · rw [T_end2 z] at e; omega
      refine ⟨fun σ' H' => ∃ m', m' < one.length - i ∧ ∃ (i j : Nat) (ws : List V) (dn : List (Nat × Nat)) (x6 : Option V), m' = one.length - i ∧ σ' = [some (.ref a), some (.ref b), some (.ref t), some (.ref fo), some (.int (i : Int)), some (.int (j : Int)), x6, none] ∧
        Same H1 H' ∧ H' fo = some (.lst ws) ∧ DpAll K H' ws (dn.map pairD) ∧ dn ++ PR one two i j = pairs one two ∧ i ≤ one.length ∧ j ≤ two.length, fun _ _ h => h, ?_⟩
      have hA2 := (s1.trans s2).seqT hA
      have hB2 := (s1.trans s2).seqT hB
      refine ⟨_, rfl, _, rfl, b, _, rfl, .inr hB2, _, _, rfl, ⟨?_, ?_, ?_, ?_⟩, fun D hD => ?_⟩
      · omega
      · omega
      · simp only [List.length_map]; omega
      · simp only [List.length_map]; omega
      have en : (((two.map V.str).length : Int) - (j : Int)).toNat = two.length - j := by rw [List.length_map]; omega
      rw [en]
      refine lc_range (lo := (j : Int)) (n := two.length - j) (fun q H' => Same H2 H' ∧ H' D = some (.lst (((List.range' j q).filter (hitP one two i j)).map fun n : Nat => V.int (n : Int)))) ⟨same_new hD, upd_same⟩ ?_ ?_
      · rintro q H3 hq ⟨s3, hl⟩
        refine ⟨rfl, ?_⟩
        have hA3 := s3.seqT hA2
        have hB3 := s3.seqT hB2
        obtain ⟨m, hm⟩ : ∃ m : Nat, m = j + q := ⟨_, rfl⟩
        have hm' : ((j : Int) + (q : Nat)) = (m : Int) := by omega
        rw [hm']
        have hm2 : m < two.length := by omega
        have n1 : one[i]? = some one[i] := List.getElem?_eq_getElem hi1
        have n2 : two[m]? = some two[m] := List.getElem?_eq_getElem hm2
        have m1 : (one.map V.str)[i]? = some (V.str one[i]) := by rw [List.getElem?_map, n1]; rfl
        have m2 : (two.map V.str)[m]? = some (V.str two[m]) := by rw [List.getElem?_map, n2]; rfl
        refine ⟨_, rfl, _, rfl, a, _, _, _, rfl, rfl, hA3, atI_nat m1, _, rfl, _, rfl, b, _, _, _, rfl, rfl, hB3, atI_nat m2, rfl, _, rfl, ?_⟩
        have r1 : List.range' j (q + 1) = List.range' j q ++ [m] := by rw [List.range'_1_concat, hm]
        have yes : hitP one two i j m = true → (List.range' j (q + 1)).filter (hitP one two i j) = (List.range' j q).filter (hitP one two i j) ++ [m] := fun z => by
          rw [r1, List.filter_append, List.filter_cons_of_pos z]; rfl
        have no : hitP one two i j m = false → (List.range' j (q + 1)).filter (hitP one two i j) = (List.range' j q).filter (hitP one two i j) := fun z => by
          rw [r1, List.filter_append, List.filter_cons_of_neg (by rw [z]; exact Bool.false_ne_true)]; simp
        dsimp only
        refine ite2 (fun e1 => ?_) (fun e1 => ?_)
        · have e1' : one[i] = two[m] := V.str.inj (of_decide_eq_true e1)
          have tab3 := tab2.same s3
          obtain ⟨as1, r', row1, q1, q2, q3, q4⟩ := tab3.get (i := i + 1) (j := m + 1) (by omega) (by omega)
          obtain ⟨as2, r'', row2, p1, p2, p3, p4⟩ := tab3.get hi hj
          refine ⟨_, rfl, _, rfl, _, _, rfl, rfl, t, as1, _, _, rfl, rfl, SqL.of q1, atI_nat (j := i + 1) q2, _, rfl, _, _, rfl, rfl, _, _, _, _, rfl, rfl, SqL.of q3, atI_nat (j := m + 1) q4, _, _, rfl, rfl, _, rfl, _, rfl, t, as2, _, _, rfl, rfl, SqL.of p1, atI_nat p2, _, rfl, _, _, _, _, rfl, rfl, SqL.of p3, atI_nat p4, rfl, _, rfl, ?_⟩
          refine ite2 (fun e2 => ?_) (fun e2 => ?_)
          · have e2' : T one two (i + 1) (m + 1) + 1 = T one two i j := by
              have := V.int.inj (of_decide_eq_true e2)
              omega
            have hh : hitP one two i j m = true := by unfold hitP; rw [n1, n2, e1', e2']; simp
            refine ⟨_, rfl, _, hl, ?_, same_mut s3 hD, ?_⟩
            · rw [List.length_map]
              have := List.length_filter_le (hitP one two i j) (List.range' j q)
              rw [List.length_range'] at this
              exact Nat.lt_of_lt_of_le (show _ < 2000 by omega) (by decide)
            · rw [upd_same, yes hh, List.map_append]; rfl
          · refine ⟨s3, ?_⟩
            have hh : hitP one two i j m = false := by
              unfold hitP
              have : ¬ T one two (i + 1) (m + 1) + 1 = T one two i j := fun z => e2 (decide_eq_true (congrArg V.int (by omega)))
              rw [decide_eq_false this, Bool.and_false]
            rw [no hh]; exact hl
        · refine ⟨s3, ?_⟩
          have hh : hitP one two i j m = false := by
            unfold hitP
            have : ¬ one[i]? = two[m]? := fun z => e1 (decide_eq_true (congrArg V.str (by rw [n1, n2] at z; exact Option.some.inj z)))
            rw [decide_eq_false this, Bool.false_and]
          rw [no hh]; exact hl
      · rintro H3 ⟨s3, hl⟩
        have hh : ((List.range' j (two.length - j)).filter (hitP one two i j)).head? = hit one two i j := List.head?_filter
        obtain ⟨hs, ehs⟩ : ∃ hs, hs = (List.range' j (two.length - j)).filter (hitP one two i j) := ⟨_, rfl⟩
        rw [← ehs] at hl hh
        dsimp only [gName]
        have hfo3 : H3 fo = some (.lst ws) := s3 _ _ hw
        have hd3 : DpAll K H3 ws (dn.map pairD) := pairs_keep (TK.same s3) hd
        refine ⟨_, rfl, D, _, rfl, .inl (SqL.of hl), _, _, rfl, rfl, _, rfl, ?_⟩
        cases hs with
        | nil => 
          refine ite2 (fun z => ?_) (fun z => ?_)
          · cases z
          · have e0 : PR one two i j = PR one two (i + 1) j := PR_none hh.symm
            refine ⟨_, rfl, _, _, rfl, rfl, _, ?_, i + 1, j, ws, dn, _, rfl, rfl, s2.trans s3, hfo3, hd3, by rw [← e0]; exact hp, hi1, hj⟩
            omega
        | cons h0 hs =>
          refine ite2 (fun z => ?_) (fun z => ?_)
          · have e1 : hit one two i j = some h0 := hh.symm
            have e0 := PR_some e1
            refine ⟨_, rfl, .inl ⟨rfl, _, SqL.of hfo3⟩, _, rfl, _, rfl, D, _, _, _, rfl, rfl, SqL.of hl, atI_nat (j := 0) rfl, by show 2 ≤ sizeLine; decide, fun p hp2 => ?_⟩
            have nfp : fo ≠ p := ne_of_none hfo3 hp2
            have nDp : D ≠ p := ne_of_none hl hp2
            have hfo4 : upd H3 p (.tup [.int (i : Int), .int (h0 : Int)]) fo = some (.lst ws) := by rw [upd_ne nfp]; exact hfo3
            have lw : ws.length < 2000 := by
              have q1 := dpAll_len hd3
              have q2 := congrArg List.length hp
              rw [List.length_append, pairs_len] at q2
              have q3 : T one two 0 0 ≤ one.length := lcs_le1 _ _
              rw [List.length_map] at q1
              omega
            have nDf : D ≠ fo := by
              rintro rfl
              rw [hw] at hD; cases hD
            refine ⟨fo, ws, _, rfl, rfl, hfo4, Nat.lt_of_lt_of_le lw (by decide), ?_⟩
            have hl4 : upd (upd H3 p (.tup [.int (i : Int), .int (h0 : Int)])) fo (.lst (ws ++ [.ref p])) D = some (.lst ((h0 :: hs).map fun n : Nat => V.int (n : Int))) := by
              rw [upd_ne nDf, upd_ne nDp]; exact hl
            refine ⟨_, rfl, D, _, _, _, rfl, rfl, SqL.of hl4, atI_nat (j := 0) rfl, _, _, rfl, rfl, ?_⟩
            refine ⟨_, rfl, _, _, rfl, rfl, _, ?_, i + 1, h0 + 1, _, dn ++ [(i, h0)], _, rfl, rfl, ?_, upd_same, ?_, ?_, hi1, (hit_some e1).2.1⟩
            · omega
            · exact (s2.trans s3).trans (same_new hp2) |> fun q => same_mut q hfo
            · rw [List.map_append]
              have tk : TK K H3 (upd (upd H3 p (.tup [.int (i : Int), .int (h0 : Int)])) fo (.lst (ws ++ [.ref p]))) := (TK.new hp2).trans (TK.lst hfo4)
              refine dpAll_app (pairs_keep tk hd3) (dpAll_one (dp_pair ?_))
              refine TK.lst hfo4 _ _ ?_
              exact .inl (.inl upd_same)
            · rw [List.append_assoc, ← hp, e0]; rfl
          · exact absurd (decide_eq_true (show (0 : Int) < ((((h0 :: hs).map fun n : Nat => V.int (n : Int)).length : Nat) : Int) by simp)) z
    · have h0 : ¬ (0 : Int) < (T one two i j : Int) := fun z => e (decide_eq_true z)
      have z : T one two i j = 0 := by omega
      rw [PR_zero z, List.append_nil] at hp
      exact ⟨_, rfl, k _ fo ws (s1.trans s2) (none_of s1 hfo) hw (by rw [← hp]; exact hd)⟩
end
end VK
end

section
set_option Elab.async false
set_option linter.all false
set_option maxRecDepth 100000
set_option maxHeartbeats 4000000
namespace VK
open PySem L2
def cutL {α : Type} (xs : List α) (i h : Nat) : List α := (xs.drop i).take (h - i)
theorem cutV_nat (xs : List V) (i h : Nat) : cutV xs (some (i : Int)) (some (h : Int)) = cutL xs i h := by
  unfold cutV cutL
  rw [HT.sIx_nat, HT.sIx_nat]
  by_cases h1 : xs.length ≤ i
  · rw [Nat.min_eq_right h1, List.drop_eq_nil_of_le (Nat.le_refl _), List.drop_eq_nil_of_le h1]; simp
  · rw [Nat.min_eq_left (a := i) (by omega)]
    by_cases h2 : h ≤ xs.length
    · rw [Nat.min_eq_left h2]
    · rw [Nat.min_eq_right (a := h) (by omega), List.take_of_length_le (by rw [List.length_drop]; omega), List.take_of_length_le (by rw [List.length_drop]; omega)]
theorem cutV_from (xs : List V) (i : Nat) : cutV xs (some (i : Int)) none = xs.drop i := by
  unfold cutV
  rw [HT.sIx_nat, HT.sIx_none]
  by_cases h1 : xs.length ≤ i
  · rw [Nat.min_eq_right h1, List.drop_eq_nil_of_le (Nat.le_refl _), List.drop_eq_nil_of_le h1]; simp
  · rw [Nat.min_eq_left (by omega), List.take_of_length_le (by rw [List.length_drop]; omega)]
theorem cutV_to (xs : List V) (h : Nat) : cutV xs none (some (h : Int)) = xs.take h := by
  unfold cutV
  rw [HT.sIx_nat, HT.sIx_none, List.drop_zero, Nat.sub_zero]
  by_cases h1 : h ≤ xs.length
  · rw [Nat.min_eq_left h1]
  · rw [Nat.min_eq_right (by omega), List.take_of_length_le (Nat.le_refl _), List.take_of_length_le (by omega)]
theorem cutV_init (xs : List V) (v : V) : cutV (xs ++ [v]) none (some (-1)) = xs := by
  unfold cutV
  have e : HT.sIx (xs ++ [v]).length (xs ++ [v]).length (some (-1)) = xs.length := by
    unfold HT.sIx
    rw [List.length_append]
    simp
    omega
  rw [e, HT.sIx_none, List.drop_zero, Nat.sub_zero, List.take_append_of_le_length (Nat.le_refl _), List.take_length]
theorem cutL_map {α β : Type} (f : α → β) (xs : List α) (i h : Nat) : cutL (xs.map f) i h = (cutL xs i h).map f := by
  unfold cutL
  rw [List.map_take, List.map_drop]
theorem cutL_len {α : Type} (xs : List α) (i h : Nat) : (cutL xs i h).length ≤ xs.length := by
  unfold cutL
  rw [List.length_take, List.length_drop]
  omega
/-- a slice of a tuple -/
theorem sl_tupK {K : PySem.W.Frag} {H : Hp} {a : Addr} {xs : List V} {lo hi : Option Int} {Q : VK} (hx : SqT K H a xs) (k : ∀ H' p, Same H H' → SqT K H' p (cutV xs lo hi) → Q (.ref p) H') : rSlA K (.ref a) lo hi H Q := by
  refine ⟨a, xs, rfl, hx, fun h => k H a (fun _ _ e => e) ?_, fun _ p hp => k _ p (same_new hp) (.inl (.inl upd_same))⟩
  unfold cutV
  rw [h.1, h.2, List.drop_zero, Nat.sub_zero, List.take_length]
  exact hx
/-- two tuples behind each other -/
theorem cat_tupK {K : PySem.W.Frag} {H : Hp} {a b : Addr} {xs ys : List V} {Q : VK} (hx : SqT K H a xs) (hy : SqT K H b ys) (hl : xs.length + ys.length ≤ sizeLine) (k : ∀ H' p, Same H H' → SqT K H' p (xs ++ ys) → Q (.ref p) H') : rCatA K (.ref a) (.ref b) H Q := by
  refine ⟨a, b, xs, ys, rfl, rfl, hx, hy, hl, fun e => ?_, fun _ e => ?_, fun _ _ p hp => k _ p (same_new hp) (.inl (.inl upd_same))⟩
  · subst e
    exact k H b (fun _ _ e => e) hy
  · subst e
    exact k H a (fun _ _ e => e) (by rw [List.append_nil]; exact hx)
/-- a slice of lines -/
theorem sl_lines {K : PySem.W.Frag} {H : Hp} {a : Addr} {ls : List Str} {i h : Nat} {Q : VK} (hx : SqT K H a (ls.map V.str)) (k : ∀ H' p, Same H H' → SqT K H' p ((cutL ls i h).map V.str) → Q (.ref p) H') : rSlA K (.ref a) (some (i : Int)) (some (h : Int)) H Q :=
  sl_tupK hx fun H' p s q => k H' p s (by rw [cutV_nat, cutL_map] at q; exact q)
theorem sl_linesFrom {K : PySem.W.Frag} {H : Hp} {a : Addr} {ls : List Str} {i : Nat} {Q : VK} (hx : SqT K H a (ls.map V.str)) (k : ∀ H' p, Same H H' → SqT K H' p ((ls.drop i).map V.str) → Q (.ref p) H') : rSlA K (.ref a) (some (i : Int)) none H Q :=
  sl_tupK hx fun H' p s q => k H' p s (by rw [cutV_from, ← List.map_drop] at q; exact q)
theorem sl_linesTo {K : PySem.W.Frag} {H : Hp} {a : Addr} {ls : List Str} {h : Nat} {Q : VK} (hx : SqT K H a (ls.map V.str)) (k : ∀ H' p, Same H H' → SqT K H' p ((ls.take h).map V.str) → Q (.ref p) H') : rSlA K (.ref a) none (some (h : Int)) H Q :=
  sl_tupK hx fun H' p s q => k H' p s (by rw [cutV_to, ← List.map_take] at q; exact q)
theorem cat_lines {K : PySem.W.Frag} {H : Hp} {a b : Addr} {xs ys : List Str} {Q : VK} (hx : SqT K H a (xs.map V.str)) (hy : SqT K H b (ys.map V.str)) (hl : xs.length + ys.length ≤ 100000) (k : ∀ H' p, Same H H' → SqT K H' p ((xs ++ ys).map V.str) → Q (.ref p) H') : rCatA K (.ref a) (.ref b) H Q :=
  cat_tupK hx hy (by rw [List.length_map, List.length_map]; exact Nat.le_trans hl (by decide)) fun H' p s q => k H' p s (by rw [List.map_append]; exact q)
/-- the changes of a row of pairs -/
def hunksF (one two : List Str) : Nat → Nat → List (Nat × Nat) → List Hunk
  | _, _, [] => []
  | i, j, (h, t) :: r => (if i < h ∨ j < t then [⟨i, cutL one i h, cutL two j t⟩] else []) ++ hunksF one two (h + 1) (t + 1) r
def hunksL (one two : List Str) : List Hunk := hunksF one two 0 0 (pairs one two ++ [(one.length, two.length)])
theorem hunksF_len (one two : List Str) : ∀ (r : List (Nat × Nat)) (i j : Nat), (hunksF one two i j r).length ≤ r.length
  | [], _, _ => Nat.le_refl _
  | (h, t) :: r, i, j => by
    have := hunksF_len one two r (h + 1) (t + 1)
    rw [hunksF, List.length_append, List.length_cons]
    split <;> simp <;> omega
abbrev hunksD (hs : List Hunk) : PyData := .tuple (hs.map hunkD)
abbrev pairsD (ps : List (Nat × Nat)) : PyData := .tuple (ps.map pairD)
theorem of_tupD {K : PySem.W.Frag} {H : Hp} {v : V} {ds : List PyData} (h : Dp K H v (.tuple ds)) : ∃ a ws, v = .ref a ∧ SqT K H a ws ∧ DpAll K H ws ds := by
  cases h with
  | tup q r => exact ⟨_, _, rfl, q, r⟩
theorem imm_hunks (hs : List Hunk) : imm (hunksD hs) = true := by
  show immAll (hs.map hunkD) = true
  exact immAll_map _ imm_hunk hs
theorem imm_pairs (ps : List (Nat × Nat)) : imm (pairsD ps) = true := by
  show immAll (ps.map pairD) = true
  exact immAll_map _ imm_pair ps
end VK
end

section
set_option Elab.async false
set_option linter.all false
set_option maxRecDepth 100000
set_option maxHeartbeats 4000000
namespace VK
open PySem L2
abbrev s__law_hunks : Stmt := topS 34
theorem sc__law_hunks : FnScope ["one", "two", "found", "i", "j", "here", "there"] ["one", "two"] (defScope s__law_hunks) := ⟨rfl, rfl, rfl, by decide +kernel, rfl, by decide +kernel, by decide +kernel⟩
def spLHunks (K : PySem.W.Frag) : Sp := fun vs H Q _ => ∃ (a b : Addr) (one two : List Str), vs = [.ref a, .ref b] ∧ SqT K H a (one.map V.str) ∧ SqT K H b (two.map V.str) ∧ one.length ≤ 1000 ∧ two.length ≤ 1000 ∧
  ∀ (H' : Hp) (v : V), Same H H' → Dp K H' v (hunksD (hunksL one two)) → Q v H'
section
variable {P : Program} {w : World} {K : PySem.W.Frag} {mg : Str → Option Value} {base : Heap}
theorem ok_lhunks {f fT fP : Addr} {fd fdT fdP : FuncData} (F : Fun K "_law_hunks" "_law_hunks" s__law_hunks f fd) (T0 : Txt0 mg) (DT : Df K mg "_law_table" s__law_table ["one", "two"] fT fdT) (DP : Df K mg "_law_pairs" s__law_pairs ["one", "two"] fP fdP) : FnOk P w K mg base CX0 3 f fd ["one", "two"] (spLHunks K) := by
  have GP : FnOk P w K mg base CX0 2 fP fdP ["one", "two"] (spLPairs K) := ok_lpairs DP.F T0 DT
  refine F.ok sc__law_hunks (fun vs H Q E h => ?_) (fun cdv A outer s H vs Q E hr h => ?_)
  · obtain ⟨a, b, one, two, rfl, _⟩ := h
    rfl
  · obtain ⟨a, b, one, two, rfl, hA, hB, ha, hb, k⟩ := h
    refine ⟨_, (pss_cons (ps_set (i := 2) sc__law_hunks.nd rfl (Or.inl rfl) (pe_lst pa_nil))
      (pss_cons (ps_set (i := 3) sc__law_hunks.nd rfl (Or.inl rfl) pe_int)
      (pss_cons (ps_set (i := 4) sc__law_hunks.nd rfl (Or.inl rfl) pe_int)
      (pss_cons (ps_for PassesOwn.never rfl (pi_list (pe_op op_cat (pe_call GP hr rfl DP.m DP.F.kp DP.b .nil pass0 (pa_cons (pv 0) (pa_cons (pv 1) pa_nil))) (pe_lst (pa_cons (pe_tup (pa_cons (pe_callB call_len_seq (by rfl) T0.z_len PySem.boot_len (pa_cons (pv 0) pa_nil)) (pa_cons (pe_callB call_len_seq (by rfl) T0.z_len PySem.boot_len (pa_cons (pv 1) pa_nil)) pa_nil))) pa_nil)))) (pg_tup rfl (pgs_cons (pg_name (i := 5) sc__law_hunks.nd rfl (Or.inl rfl)) (pgs_cons (pg_name (i := 6) sc__law_hunks.nd rfl (Or.inl rfl)) pgs_nil)))
        (pss_cons (ps_if (PW.pt (pw_or (pt_cmpR op_gt (pv 5) (pv 3) (nomark _)) (pw_or1 (pt_cmpR op_gt (pv 6) (pv 4) (nomark _)))))
          (pss_one (ps_expr (pe_bm PySem.F.plainAttrs_list PySem.F.slot_list_append PySem.F.type_list_append mt_append (pv 2) (pa_cons (pe_tup (pa_cons (pv 3) (pa_cons (pe_callTy call_tupleT (by rfl) T0.z_tuple (by decide +kernel) (pa_cons (pe_slice sl_tupA (pv 0) (po_some (pv 3)) (po_some (pv 5))) pa_nil)) (pa_cons (pe_callTy call_tupleT (by rfl) T0.z_tuple (by decide +kernel) (pa_cons (pe_slice sl_tupA (pv 1) (po_some (pv 4)) (po_some (pv 6))) pa_nil)) pa_nil)))) pa_nil))))
          pss_nil)
        (pss_cons (ps_set (i := 3) sc__law_hunks.nd rfl (Or.inl rfl) (pe_op op_add (pv 5) pe_int))
        (pss_one (ps_set (i := 4) sc__law_hunks.nd rfl (Or.inl rfl) (pe_op op_add (pv 6) pe_int))))))
      (pss_one (ps_ret (pe_callTy call_tuple_of (by rfl) T0.z_tuple (by decide +kernel) (pa_cons (pv 2) pa_nil)))))))), ?_⟩
    refine ⟨by show 0 ≤ sizeLine; decide, fun fo hfo => ?_⟩
    refine seq_c ?_
    refine seq_c ?_
    have s0 : Same H (upd H fo (.lst [])) := same_new hfo
    refine ⟨_, rfl, _, rfl, a, b, one, two, rfl, s0.seqT hA, s0.seqT hB, ha, hb, fun H1 lp ws s1 hlp hlp1 hd => ?_⟩
    have s01 := s0.trans s1
    refine ⟨_, rfl, a, _, rfl, .inr (s01.seqT hA), _, rfl, b, _, rfl, .inr (s01.seqT hB), by show 2 ≤ sizeLine; decide, fun pp hpp => ⟨by show 1 ≤ sizeLine; decide, fun lq hlq => ?_⟩⟩
    obtain ⟨H2, e2⟩ : ∃ H2, H2 = upd H1 pp (.tup [.int ((one.map V.str).length : Int), .int ((two.map V.str).length : Int)]) := ⟨_, rfl⟩
    rw [← e2] at hlq ⊢
    have s12 : Same H1 H2 := by rw [e2]; exact same_new hpp
    have hpp2 : H2 pp = some (.tup [.int (one.length : Int), .int (two.length : Int)]) := by rw [e2, upd_same, List.length_map, List.length_map]
    obtain ⟨H3, e3⟩ : ∃ H3, H3 = upd H2 lq (.lst [.ref pp]) := ⟨_, rfl⟩
    rw [← e3]
    have s23 : Same H2 H3 := by rw [e3]; exact same_new hlq
    have s13 := s12.trans s23
    have lws : ws.length ≤ 1000 := by
      have q1 := dpAll_len hd
      have q3 : T one two 0 0 ≤ one.length := lcs_le1 _ _
      rw [List.length_map, pairs_len] at q1
      omega
    refine ⟨lp, lq, ws, [.ref pp], rfl, rfl, s13 _ _ hlp1, by rw [e3, upd_same], Nat.le_trans (show ws.length + 1 ≤ 2000 by omega) (by decide), fun L hL => ?_⟩
    obtain ⟨H4, e4⟩ : ∃ H4, H4 = upd H3 L (.lst (ws ++ [.ref pp])) := ⟨_, rfl⟩
    rw [← e4]
    have s34 : Same H3 H4 := by rw [e4]; exact same_new hL
    have hL4 : H4 L = some (.lst (ws ++ [.ref pp])) := by rw [e4, upd_same]
    obtain ⟨full, hfull⟩ : ∃ full, full = pairs one two ++ [(one.length, two.length)] := ⟨_, rfl⟩
    have d4 : DpAll K H4 (ws ++ [.ref pp]) (full.map pairD) := by
      rw [hfull, List.map_append]
      refine dpAll_app (pairs_keep (TK.same (s13.trans s34)) hd) (dpAll_one (dp_pair ?_))
      exact (s23.trans s34).seqT (.inl (.inl hpp2))
    have hfo1 : H1 fo = some (.lst []) := s1 _ _ upd_same
    have hfo4 : H4 fo = some (.lst []) := (s13.trans s34) _ _ hfo1
    have nLfo : L ≠ fo := by
      rintro rfl
      rw [s13 _ _ hfo1] at hL; cases hL
    have s4 : Same H H4 := s01.trans (s13.trans s34)
    have ln : (ws ++ [V.ref pp]).length = full.length := by rw [dpAll_len d4, List.length_map]
    have lf : full.length ≤ 1001 := by rw [← ln, List.length_append]; simp; omega
    refine ⟨L, rfl, ⟨_, SqL.of hL4⟩, ?_⟩
    refine for_it (walk_list (xs := ws ++ [.ref pp])) (fun c σ H' => ∃ (i j : Nat) (vs : List V) (dn : List Hunk) (x5 x6 : Option V), σ = [some (.ref a), some (.ref b), some (.ref fo), some (.int (i : Int)), some (.int (j : Int)), x5, x6] ∧ Same H H' ∧ TK K H4 H' ∧ H' L = some (.lst (ws ++ [.ref pp])) ∧
        H' fo = some (.lst vs) ∧ DpAll K H' vs (dn.map hunkD) ∧ dn ++ hunksF one two i j (full.drop c) = hunksL one two ∧ dn.length ≤ c) ?_ (fun c σ H' _ h => ?_) ?_ ?_
    · exact ⟨0, 0, [], [], none, none, rfl, s4, TK.refl _ _, hL4, hfo4, .nil, by rw [hfull]; rfl, Nat.le_refl _⟩
    · obtain ⟨i, j, vs, dn, x5, x6, rfl, h1, h2, h3, h4⟩ := h
      exact SqL.of h3
    · rintro c x σ H5o H5 hc ⟨i, j, vs, dn, x5, x6, rfl, sm, tk, hLL, hv, hdd, hp, hl⟩ ⟨rfl, hx⟩
      have hcf : c < full.length := by rw [← ln]; exact hc
      obtain ⟨⟨h, t⟩, ht⟩ : ∃ q, q = full[c] := ⟨_, rfl⟩
      have hf : full[c]? = some (h, t) := by rw [List.getElem?_eq_getElem hcf, ht]
      obtain ⟨v, hv1, hv2⟩ := dpAll_at (pairs_keep tk d4) (k := c) (d := pairD (h, t)) (by rw [List.getElem?_map, hf]; rfl)
      obtain rfl : v = x := Option.some.inj (hv1.symm.trans hx)
      obtain ⟨q, rfl, hq⟩ := of_pair hv2
      have ed : full.drop c = (h, t) :: full.drop (c + 1) := by rw [List.drop_eq_getElem_cons hcf, ← ht]
      rw [ed, hunksF] at hp
      refine ⟨q, _, rfl, hq, rfl, ?_⟩
      have fin : ∀ (vs' : List V) (dn' : List Hunk) (H' : Hp), Same H H' → TK K H4 H' → H' L = some (.lst (ws ++ [.ref pp])) → H' fo = some (.lst vs') → DpAll K H' vs' (dn'.map hunkD) → dn' ++ hunksF one two (h + 1) (t + 1) (full.drop (c + 1)) = hunksL one two → dn'.length ≤ c + 1 →
          ∃ (i j : Nat) (vs : List V) (dn : List Hunk) (x5 x6 : Option V), [some (.ref a), some (.ref b), some (.ref fo), some (V.int ((h : Int) + 1)), some (V.int ((t : Int) + 1)), some (V.int (h : Int)), some (V.int (t : Int))] = [some (.ref a), some (.ref b), some (.ref fo), some (.int (i : Int)), some (.int (j : Int)), x5, x6] ∧ Same H H' ∧ TK K H4 H' ∧ H' L = some (.lst (ws ++ [.ref pp])) ∧
        H' fo = some (.lst vs) ∧ DpAll K H' vs (dn.map hunkD) ∧ dn ++ hunksF one two i j (full.drop (c + 1)) = hunksL one two ∧ dn.length ≤ c + 1 := fun vs' dn' H' p1 p2 p3 p4 p5 p6 p7 => ⟨h + 1, t + 1, vs', dn', _, _, rfl, p1, p2, p3, p4, p5, p6, p7⟩
      refine ⟨_, _, rfl, _, _, rfl, rfl, ?_⟩
      refine cut (fun σ' H' => σ' = [some (.ref a), some (.ref b), some (.ref fo), some (V.int (i : Int)), some (V.int (j : Int)), some (V.int (h : Int)), some (V.int (t : Int))] ∧ ∃ (vs' : List V) (dn' : List Hunk), Same H H' ∧ TK K H4 H' ∧ H' L = some (.lst (ws ++ [.ref pp])) ∧ H' fo = some (.lst vs') ∧ DpAll K H' vs' (dn'.map hunkD) ∧ dn' ++ hunksF one two (h + 1) (t + 1) (full.drop (c + 1)) = hunksL one two ∧ dn'.length ≤ c + 1) (fun nx hn => ?_) ?_
      · refine tOr_pure (fun Q h => ⟨_, rfl, _, rfl, _, _, rfl, rfl, _, rfl, h⟩) (fun Q h => ⟨_, rfl, _, rfl, _, _, rfl, rfl, _, rfl, h⟩) ?_
        refine ite2 (fun e => ?_) (fun e => ?_)
        · have hc2 : i < h ∨ j < t := by
            rw [Bool.or_eq_true, decide_eq_true_eq, decide_eq_true_eq] at e
            omega
          rw [if_pos hc2] at hp
          refine ⟨_, rfl, .inl ⟨rfl, _, SqL.of hv⟩, _, rfl, _, rfl, _, rfl, _, rfl, _, rfl, _, rfl, sl_lines (sm.seqT hA) fun H6 p s56 hp6 => ?_⟩
          refine ⟨p, _, rfl, hp6, _, rfl, _, rfl, _, rfl, _, rfl, _, rfl, sl_lines ((sm.trans s56).seqT hB) fun H7 r s67 hr7 => ?_⟩
          refine ⟨r, _, rfl, hr7, by show 3 ≤ sizeLine; decide, fun z hz => ?_⟩
          have s57 := s56.trans s67
          have hv7 : H7 fo = some (.lst vs) := s57 _ _ hv
          have nfz : fo ≠ z := ne_of_none hv7 hz
          have hv8 : upd H7 z (.tup [.int (i : Int), .ref p, .ref r]) fo = some (.lst vs) := by rw [upd_ne nfz]; exact hv7
          have lvs : vs.length < 2000 := by
            have q1 := dpAll_len hdd
            rw [List.length_map] at q1
            omega
          refine ⟨fo, vs, _, rfl, rfl, hv8, Nat.lt_of_lt_of_le lvs (by decide), ?_⟩
          have tk8 : TK K H5 (upd (upd H7 z (.tup [.int (i : Int), .ref p, .ref r])) fo (.lst (vs ++ [.ref z]))) := ((TK.same s57).trans (TK.new hz)).trans (TK.lst hv8)
          refine hn _ _ ⟨rfl, vs ++ [.ref z], dn ++ [⟨i, cutL one i h, cutL two j t⟩], ?_, tk.trans tk8, ?_, upd_same, ?_, ?_, ?_⟩
          · exact same_mut ((sm.trans s57).trans (same_new hz)) hfo
          · rw [upd_ne nLfo, upd_ne (ne_of_none (s57 _ _ hLL) hz)]; exact s57 _ _ hLL
          · rw [List.map_append]
            refine dpAll_app (hunks_keep tk8 hdd) (dpAll_one (dp_hunk (b := p) (c := r) ?_ ?_ ?_))
            · exact TK.lst hv8 _ _ (.inl (.inl upd_same))
            · exact ((TK.new hz).trans (TK.lst hv8)) _ _ (s67.seqT hp6)
            · exact ((TK.new hz).trans (TK.lst hv8)) _ _ hr7
          · rw [List.append_assoc]; exact hp
          · rw [List.length_append]; exact Nat.succ_le_succ hl
        · have hc2 : ¬ (i < h ∨ j < t) := by
            intro q
            apply e
            rw [Bool.or_eq_true, decide_eq_true_eq, decide_eq_true_eq]
            omega
          rw [if_neg hc2] at hp
          exact hn _ _ ⟨rfl, vs, dn, sm, tk, hLL, hv, hdd, hp, Nat.le_succ_of_le hl⟩
      · rintro σ6 H6 ⟨rfl, vs', dn', p1, p2, p3, p4, p5, p6, p7⟩
        exact ⟨_, rfl, _, _, rfl, rfl, _, rfl, _, _, rfl, rfl, fin _ _ _ p1 p2 p3 p4 p5 p6 p7⟩
    · rintro σ H5 ⟨i, j, vs, dn, x5, x6, rfl, sm, tk, hLL, hv, hdd, hp, hl⟩
      rw [ln, List.drop_length] at hp
      have hp : dn = hunksL one two := by rw [← hp]; exact (List.append_nil dn).symm
      refine ⟨_, rfl, fo, _, rfl, .inl ⟨SqL.of hv, fun l hl2 => ?_⟩⟩
      refine k _ _ (sm.trans (same_new hl2)) ?_
      refine .tup (.inl (.inl upd_same)) ?_
      rw [← hp]
      exact hunks_keep (TK.new hl2) hdd
end
end VK
end

section
set_option Elab.async false
set_option linter.all false
set_option maxRecDepth 100000
set_option maxHeartbeats 4000000
namespace VK
open PySem L2
/-- the lines that a row of changes makes -/
def applyF (ls : List Str) : Nat → List Hunk → List Str
  | i, [] => ls.drop i
  | i, h :: r => cutL ls i h.start ++ h.come ++ applyF ls (h.start + h.gone.length) r
abbrev s__law_apply : Stmt := topS 35
theorem sc__law_apply : FnScope ["lines", "patch", "found", "here", "start", "gone", "come"] ["lines", "patch"] (defScope s__law_apply) := ⟨rfl, rfl, rfl, by decide +kernel, rfl, by decide +kernel, by decide +kernel⟩
def spApply (K : PySem.W.Frag) : Sp := fun vs H Q _ => ∃ (a b : Addr) (ls : List Str) (hs : List Hunk), vs = [.ref a, .ref b] ∧ SqT K H a (ls.map V.str) ∧ Dp K H (.ref b) (hunksD hs) ∧ (applyF ls 0 hs).length ≤ 10000 ∧
  ∀ (H' : Hp) (p : Addr), Same H H' → SqT K H' p ((applyF ls 0 hs).map V.str) → Q (.ref p) H'
section
variable {P : Program} {w : World} {K : PySem.W.Frag} {mg : Str → Option Value} {base : Heap}
theorem ok_apply {f : Addr} {fd : FuncData} (F : Fun K "_law_apply" "_law_apply" s__law_apply f fd) (T0 : Txt0 mg) : FnOk P w K mg base CX0 1 f fd ["lines", "patch"] (spApply K) := by
  refine F.ok sc__law_apply (fun vs H Q E h => ?_) (fun cdv A outer s H vs Q E hr h => ?_)
  · obtain ⟨a, b, ls, hs, rfl, _⟩ := h
    rfl
  · obtain ⟨a, b, ls, hs, rfl, hA, hB, hlen, k⟩ := h
    refine ⟨_, (pss_cons (ps_set (i := 2) sc__law_apply.nd rfl (Or.inl rfl) (pe_tup pa_nil))
      (pss_cons (ps_set (i := 3) sc__law_apply.nd rfl (Or.inl rfl) pe_int)
      (pss_cons (ps_for PassesOwn.never rfl (pi_tup (pv 1)) (pg_tup rfl (pgs_cons (pg_name (i := 4) sc__law_apply.nd rfl (Or.inl rfl)) (pgs_cons (pg_name (i := 5) sc__law_apply.nd rfl (Or.inl rfl)) (pgs_cons (pg_name (i := 6) sc__law_apply.nd rfl (Or.inl rfl)) pgs_nil))))
        (pss_cons (ps_set (i := 2) sc__law_apply.nd rfl (Or.inl rfl) (pe_op op_catA (pe_op op_catA (pv 2) (pe_callTy call_tupleT (by rfl) T0.z_tuple (by decide +kernel) (pa_cons (pe_slice sl_tupA (pv 0) (po_some (pv 3)) (po_some (pv 4))) pa_nil))) (pv 6)))
        (pss_one (ps_set (i := 3) sc__law_apply.nd rfl (Or.inl rfl) (pe_op op_add (pv 4) (pe_callB call_len_seq (by rfl) T0.z_len PySem.boot_len (pa_cons (pv 5) pa_nil)))))))
      (pss_one (ps_ret (pe_op op_catA (pv 2) (pe_callTy call_tupleT (by rfl) T0.z_tuple (by decide +kernel) (pa_cons (pe_slice sl_tupA (pv 0) (po_some (pv 3)) po_none) pa_nil)))))))), ?_⟩
    refine ⟨by show 0 ≤ sizeLine; decide, fun fo hfo => ?_⟩
    refine seq_c ?_
    have s0 : Same H (upd H fo (.tup [])) := same_new hfo
    obtain ⟨b', ws, eb, hb, hd⟩ := of_tupD hB
    cases eb
    have ln : ws.length = hs.length := by rw [dpAll_len hd, List.length_map]
    refine ⟨_, rfl, b, rfl, ⟨_, s0.seqT hb⟩, ?_⟩
    refine for_it (walk_tup (xs := ws)) (fun c σ H' => ∃ (i : Nat) (q : Addr) (fs : List Str) (x4 x5 x6 : Option V), σ = [some (.ref a), some (.ref b), some (.ref q), some (.int (i : Int)), x4, x5, x6] ∧ Same H H' ∧ SqT K H' q (fs.map V.str) ∧ fs ++ applyF ls i (hs.drop c) = applyF ls 0 hs) ?_ (fun c σ H' _ h => ?_) ?_ ?_
    · exact ⟨0, fo, [], none, none, none, rfl, s0, .inl (.inl upd_same), rfl⟩
    · obtain ⟨i, q, fs, x4, x5, x6, rfl, h1, h2, h3⟩ := h
      exact h1.seqT hb
    · rintro c x σ H5o H5 hc ⟨i, q, fs, x4, x5, x6, rfl, sm, hq, hp⟩ ⟨rfl, hx⟩
      have hcf : c < hs.length := by rw [← ln]; exact hc
      obtain ⟨h, ht⟩ : ∃ h, h = hs[c] := ⟨_, rfl⟩
      have hf : hs[c]? = some h := by rw [List.getElem?_eq_getElem hcf, ht]
      obtain ⟨v, hv1, hv2⟩ := dpAll_at (hunks_keep (TK.same sm) hd) (k := c) (d := hunkD h) (by rw [List.getElem?_map, hf]; rfl)
      obtain rfl : v = x := Option.some.inj (hv1.symm.trans hx)
      obtain ⟨z, g, m, rfl, hz, hg, hm⟩ := of_hunk hv2
      have ed : hs.drop c = h :: hs.drop (c + 1) := by rw [List.drop_eq_getElem_cons hcf, ← ht]
      rw [ed, applyF] at hp
      have hl := congrArg List.length hp
      simp only [List.length_append] at hl
      refine ⟨z, _, rfl, hz, rfl, _, _, rfl, _, _, rfl, _, _, rfl, rfl, ?_⟩
      refine ⟨_, rfl, _, rfl, _, rfl, _, rfl, _, rfl, _, rfl, sl_lines (sm.seqT hA) fun H6 p s56 hp6 => ?_⟩
      refine ⟨p, _, rfl, hp6, ?_⟩
      refine cat_lines (s56.seqT hq) hp6 (by omega) fun H7 r s67 hr7 => ?_
      refine ⟨_, rfl, cat_lines hr7 ((s56.trans s67).seqT hm) (by rw [List.length_append]; omega) fun H8 y s78 hy8 => ?_⟩
      have s58 := s56.trans (s67.trans s78)
      refine ⟨_, rfl, _, rfl, g, _, rfl, .inr (s58.seqT hg), _, _, rfl, rfl, ?_⟩
      refine ⟨h.start + h.gone.length, y, fs ++ cutL ls i h.start ++ h.come, some (.int (h.start : Int)), some (.ref g), some (.ref m), ?_, sm.trans s58, hy8, ?_⟩
      · show [_, _, _, some (V.int ((h.start : Int) + ((h.gone.map V.str).length : Int))), _, _, _] = _
        rw [List.length_map]; rfl
      · rw [← hp]; simp [List.append_assoc]
    · rintro σ H5 ⟨i, q, fs, x4, x5, x6, rfl, sm, hq, hp⟩
      rw [ln, List.drop_length, applyF] at hp
      have hl := congrArg List.length hp
      simp only [List.length_append] at hl
      refine ⟨_, rfl, _, rfl, _, rfl, _, rfl, ?_⟩
      dsimp only [tNoPart]
      refine sl_linesFrom (sm.seqT hA) fun H6 p s56 hp6 => ?_
      refine ⟨p, _, rfl, hp6, ?_⟩
      refine cat_lines (s56.seqT hq) hp6 (by omega) fun H7 r s67 hr7 => ?_
      exact k _ r (sm.trans (s56.trans s67)) (by rw [← hp]; exact hr7)
end
/-- what the changes make of the first lines are the second -/
theorem cutL_drop {α : Type} (xs : List α) {i h : Nat} (h1 : i ≤ h) : cutL xs i h ++ xs.drop h = xs.drop i := by
  unfold cutL
  have e : xs.drop h = (xs.drop i).drop (h - i) := by rw [List.drop_drop]; congr 1; omega
  rw [e, List.take_append_drop]
theorem cutL_self {α : Type} (xs : List α) (i : Nat) : cutL xs i i = [] := by unfold cutL; simp
theorem cutL_app {α : Type} (xs : List α) {i j k : Nat} (h1 : i ≤ j) (h2 : j ≤ k) : cutL xs i k = cutL xs i j ++ cutL xs j k := by
  unfold cutL
  have e : xs.drop j = (xs.drop i).drop (j - i) := by rw [List.drop_drop]; congr 1; omega
  have e2 : k - i = (j - i) + (k - j) := by omega
  rw [e, e2, List.take_add]
theorem cutL_length {α : Type} (xs : List α) {i h : Nat} (h1 : h ≤ xs.length) : (cutL xs i h).length = h - i := by
  unfold cutL
  rw [List.length_take, List.length_drop]; omega
theorem cutL_end {α : Type} (xs : List α) {i h : Nat} (h1 : xs.length ≤ h) : cutL xs i h = xs.drop i := by
  unfold cutL
  rw [List.take_of_length_le]
  rw [List.length_drop]; omega
theorem cutL_one {α : Type} {xs : List α} {h : Nat} {x : α} (e : xs[h]? = some x) : cutL xs h (h + 1) = [x] := by
  obtain ⟨h1, h2⟩ := List.getElem?_eq_some_iff.mp e
  unfold cutL
  rw [List.drop_eq_getElem_cons h1, h2]
  have e1 : h + 1 - h = 1 := by omega
  rw [e1]; rfl
theorem apply_hunks (one two : List Str) : ∀ (ps : List (Nat × Nat)) (i j i0 : Nat), Row one two i j ps → i ≤ one.length → j ≤ two.length → i0 ≤ i →
    applyF one i0 (hunksF one two i j (ps ++ [(one.length, two.length)])) = cutL one i0 i ++ two.drop j
  | [], i, j, i0, _, h1, h2, h3 => by
    rw [List.nil_append, hunksF, hunksF, List.append_nil]
    by_cases e : i < one.length ∨ j < two.length
    · rw [if_pos e, applyF, applyF]
      dsimp only
      have e1 : i + (one.length - i) = one.length := by omega
      rw [cutL_length one (Nat.le_refl _), cutL_end two (Nat.le_refl _), e1, List.drop_length, List.append_nil]
    · rw [if_neg e, applyF]
      have e1 : i = one.length := by omega
      have e2 : j = two.length := by omega
      rw [e1, e2, cutL_end one (Nat.le_refl _), List.drop_length, List.append_nil]
  | (h, t) :: ps, i, j, i0, ⟨r1, r2, r3, r4, r5, r6⟩, h1, h2, h3 => by
    rw [List.cons_append, hunksF]
    have x1 : one[h]? = some two[t] := by rw [r5, List.getElem?_eq_getElem r4]
    have x2 : two[t]? = some two[t] := List.getElem?_eq_getElem r4
    have e3 : two.drop t = two[t] :: two.drop (t + 1) := List.drop_eq_getElem_cons r4
    by_cases e : i < h ∨ j < t
    · rw [if_pos e, List.singleton_append, applyF]
      dsimp only
      have e1 : i + (cutL one i h).length = h := by rw [cutL_length one (by omega)]; omega
      rw [e1, apply_hunks one two ps (h + 1) (t + 1) h r6 r3 r4 (by omega), cutL_one x1, List.append_assoc, List.singleton_append, ← e3, cutL_drop two r2]
    · rw [if_neg e, List.nil_append, apply_hunks one two ps (h + 1) (t + 1) i0 r6 r3 r4 (by omega)]
      have e1 : i = h := by omega
      have e2 : j = t := by omega
      rw [cutL_app one (show i0 ≤ h by omega) (show h ≤ h + 1 by omega), cutL_one x1, List.append_assoc, List.singleton_append, ← e3, e1, e2]
theorem apply_law (one two : List Str) : applyF one 0 (hunksL one two) = two := by
  unfold hunksL
  rw [apply_hunks one two _ 0 0 0 (pairs_row one two) (Nat.zero_le _) (Nat.zero_le _) (Nat.le_refl _), cutL_self]
  rfl
end VK
end

section
set_option Elab.async false
set_option linter.all false
set_option maxRecDepth 100000
set_option maxHeartbeats 4000000
namespace VK
open PySem L2
theorem hit_mk {one two : List Str} {i j k : Nat} (h1 : j ≤ k) (h2 : k < two.length) (h : hitP one two i j k = true) (n : ∀ k', j ≤ k' → k' < k → hitP one two i j k' = false) : hit one two i j = some k := by
  cases e : hit one two i j with
  | none =>
    exfalso
    refine hit_none e h1 h2 ?_
    unfold hitP at h
    simpa using h
  | some k2 =>
    obtain ⟨a, b, c, d, f, g⟩ := hit_some e
    have q2 : hitP one two i j k2 = true := by unfold hitP; rw [c, f]; simp
    rcases Nat.lt_trichotomy k k2 with z | z | z
    · rw [g k h1 z] at h; cases h
    · rw [z]
    · rw [n k2 a z] at q2; cases q2
theorem hit_no {one two : List Str} {i j : Nat} (n : ∀ k', j ≤ k' → k' < two.length → hitP one two i j k' = false) : hit one two i j = none := by
  cases e : hit one two i j with
  | none => rfl
  | some k2 =>
    obtain ⟨a, b, c, d, f, g⟩ := hit_some e
    have q2 : hitP one two i j k2 = true := by unfold hitP; rw [c, f]; simp
    rw [n k2 a b] at q2; cases q2
abbrev s_next_pair : Stmt := topS 8
theorem sc_next_pair : FnScope ["one", "two", "table", "place", "first", "second", "whole", "other"] ["one", "two", "table", "place"] (defScope s_next_pair) := ⟨rfl, rfl, rfl, by decide +kernel, rfl, by decide +kernel, by decide +kernel⟩
def spNext (K : PySem.W.Frag) : Sp := fun vs H Q _ => ∃ (a b t pl : Addr) (one two : List Str) (i j : Nat), vs = [.ref a, .ref b, .ref t, .ref pl] ∧ SqT K H a (one.map V.str) ∧ SqT K H b (two.map V.str) ∧ TabOk H t one two ∧ SqT K H pl [.int (i : Int), .int (j : Int)] ∧ 0 < T one two i j ∧ one.length ≤ 1000 ∧ two.length ≤ 1000 ∧
  ∀ (H' : Hp) (p : Addr) (i' k : Nat), Same H H' → SqT K H' p [.int (i' : Int), .int (k : Int)] → PR one two i j = (i', k) :: PR one two (i' + 1) (k + 1) → i' < one.length → k < two.length → Q (.ref p) H'
section
variable {P : Program} {w : World} {K : PySem.W.Frag} {mg : Str → Option Value} {base : Heap}
theorem ok_next {f : Addr} {fd : FuncData} (F : Fun K "next_pair" "next_pair" s_next_pair f fd) (T0 : Txt0 mg) : FnOk P w K mg base CX0 1 f fd ["one", "two", "table", "place"] (spNext K) := by
  refine F.ok sc_next_pair (fun vs H Q E h => ?_) (fun cdv A outer s H vs Q E hr h => ?_)
  · obtain ⟨a, b, t, pl, one, two, i, j, rfl, _⟩ := h
    rfl
  · obtain ⟨a, b, t, pl, one, two, i, j, rfl, hA, hB, tab, hpl, hpos, ha, hb, k⟩ := h
    refine ⟨_, (pss_cons (ps_asg (pv 3) (pg_tup rfl (pgs_cons (pg_name (i := 4) sc_next_pair.nd rfl (Or.inl rfl)) (pgs_cons (pg_name (i := 5) sc_next_pair.nd rfl (Or.inl rfl)) pgs_nil))))
      (pss_cons (ps_set (i := 6) sc_next_pair.nd rfl (Or.inl rfl) (pe_ix ix_list (pe_ix ix_list (pv 2) (pv 4) (fun _ _ => rfl)) (pv 5) (fun _ _ => rfl)))
      (pss_one (ps_while PassesOwn.never (pt_val pe_bl)
        (pss_cons (ps_for PassesOwn.never rfl (pi_range2 (by rfl) T0.z_range (pa_cons (pv 5) (pa_cons (pe_callB call_len_seq (by rfl) T0.z_len PySem.boot_len (pa_cons (pv 1) pa_nil)) pa_nil))) (pg_name (i := 7) sc_next_pair.nd rfl (Or.inl rfl))
          (pss_one (ps_if (PW.pt (pw_and (pt_cmpR op_eq (pe_ix ix_tup (pv 0) (pv 4) (fun _ _ => rfl)) (pe_ix ix_tup (pv 1) (pv 7) (fun _ _ => rfl)) (nomark _)) (pw_and1 (pt_cmpR op_eq (pe_op op_add (pe_ix ix_list (pe_ix ix_list (pv 2) (pe_op op_add (pv 4) pe_int) (fun _ _ => rfl)) (pe_op op_add (pv 7) pe_int) (fun _ _ => rfl)) pe_int) (pv 6) (nomark _)))))
            (pss_one (ps_ret (pe_tup (pa_cons (pv 4) (pa_cons (pv 7) pa_nil)))))
            pss_nil)))
        (pss_one (ps_aug (i := 4) sc_next_pair.nd rfl (Or.inl rfl) pe_int ip_add))))))), ?_⟩
    have hi : i < one.length := by
      rcases Nat.lt_or_ge i one.length with z | z
      · exact z
      · rw [T_end1 z] at hpos; omega
    have hj : j < two.length := by
      rcases Nat.lt_or_ge j two.length with z | z
      · exact z
      · rw [T_end2 z] at hpos; omega
    obtain ⟨as, r, row, hT, hr1, hr2, hr3⟩ := tab.get (Nat.le_of_lt hi) (Nat.le_of_lt hj)
    refine ⟨_, rfl, pl, _, rfl, hpl, rfl, _, _, rfl, _, _, rfl, rfl, ?_⟩
    refine ⟨_, rfl, _, rfl, t, as, (i : Int), _, rfl, rfl, SqL.of hT, atI_nat hr1, _, rfl, r, row, (j : Int), _, rfl, rfl, SqL.of hr2, atI_nat hr3, ?_⟩
    refine ⟨fun m σ H' => ∃ (q : Nat) (x7 : Option V), m = one.length - q ∧ σ = [some (.ref a), some (.ref b), some (.ref t), some (.ref pl), some (.int (q : Int)), some (.int (j : Int)), some (.int (T one two i j : Int)), x7] ∧
        H' = H ∧ T one two q j = T one two i j ∧ PR one two i j = PR one two q j, ⟨_, i, none, rfl, rfl, rfl, rfl, rfl⟩, ?_⟩
    rintro m σ H2 ⟨q, x7, rfl, rfl, rfl, eT, eP⟩
    have hq : q < one.length := by
      rcases Nat.lt_or_ge q one.length with z | z
      · exact z
      · rw [T_end1 z] at eT; omega
    refine ⟨_, rfl, ?_⟩
    refine ite2 (fun _ => ?_) (fun e => absurd rfl e)
    refine ⟨fun σ' H' => ∃ m', m' < one.length - q ∧ ∃ (q : Nat) (x7 : Option V), m' = one.length - q ∧ σ' = [some (.ref a), some (.ref b), some (.ref t), some (.ref pl), some (.int (q : Int)), some (.int (j : Int)), some (.int (T one two i j : Int)), x7] ∧
        H' = H2 ∧ T one two q j = T one two i j ∧ PR one two i j = PR one two q j, fun _ _ h => h, ?_⟩
    refine ⟨_, rfl, _, rfl, b, _, rfl, .inr hB, _, _, rfl, ⟨by omega, by omega, ?_, ?_⟩, ?_⟩
    · simp only [List.length_map]; omega
    · simp only [List.length_map]; omega
    have en : (((two.map V.str).length : Int) - (j : Int)).toNat = two.length - j := by rw [List.length_map]; omega
    rw [en]
    refine for_it walk_range (fun c σ H' => ∃ (x7 : Option V), σ = [some (.ref a), some (.ref b), some (.ref t), some (.ref pl), some (.int (q : Int)), some (.int (j : Int)), some (.int (T one two i j : Int)), x7] ∧ H' = H2 ∧ ∀ k', j ≤ k' → k' < j + c → hitP one two q j k' = false) ⟨x7, rfl, rfl, fun k' h1 h2 => by omega⟩ (fun _ _ _ _ _ => trivial) ?_ ?_
    · rintro c x σ H3o H3 hc ⟨x7, rfl, rfl, hn⟩ ⟨rfl, hx⟩
      obtain ⟨m, hm⟩ : ∃ m : Nat, m = j + c := ⟨_, rfl⟩
      have hm' : ((j : Int) + (c : Nat)) = (m : Int) := by omega
      obtain rfl : x = V.int (m : Int) := hx.trans (congrArg V.int hm')
      have hm2 : m < two.length := by omega
      have n1 : one[q]? = some one[q] := List.getElem?_eq_getElem hq
      have n2 : two[m]? = some two[m] := List.getElem?_eq_getElem hm2
      have m1 : (one.map V.str)[q]? = some (V.str one[q]) := by rw [List.getElem?_map, n1]; rfl
      have m2 : (two.map V.str)[m]? = some (V.str two[m]) := by rw [List.getElem?_map, n2]; rfl
      obtain ⟨as1, r', row1, q1, q2, q3, q4⟩ := tab.get (i := q + 1) (j := m + 1) (by omega) (by omega)
      have n0 : T one two q j = T one two i j := eT
      refine tAnd_pure (fun Q h => ⟨_, rfl, _, rfl, a, _, _, _, rfl, rfl, hA, atI_nat m1, _, rfl, _, rfl, b, _, _, _, rfl, rfl, hB, atI_nat m2, rfl, _, rfl, h⟩)
        (fun Q h => ⟨_, rfl, _, rfl, _, _, rfl, rfl, t, as1, _, _, rfl, rfl, SqL.of q1, atI_nat (j := q + 1) q2, _, rfl, _, _, rfl, rfl, _, _, _, _, rfl, rfl, SqL.of q3, atI_nat (j := m + 1) q4, _, _, rfl, rfl, _, rfl, rfl, _, rfl, h⟩) ?_
      have hh : hitP one two q j m = (decide (V.str one[q] = V.str two[m]) && decide ((fun i j => V.int (i + j)) (T one two (q + 1) (m + 1) : Int) 1 = V.int (T one two i j : Int))) := by
        unfold hitP
        rw [n1, n2, n0]
        congr 1
        · apply decide_eq_decide.mpr
          constructor
          · intro z; rw [Option.some.inj z]
          · intro z; rw [V.str.inj z]
        · apply decide_eq_decide.mpr
          constructor
          · intro z; rw [← z]; rfl
          · intro z
            have := V.int.inj z
            omega
      dsimp only at hh ⊢
      refine ite2 (fun e => ?_) (fun e => ?_)
      · rw [e] at hh
        have e1 := hit_mk (i := q) (by omega) hm2 hh (fun k' h1 h2 => hn k' h1 (by omega))
        exact ⟨_, rfl, _, rfl, by show 2 ≤ sizeLine; decide, fun p hp => k _ p q m (same_new hp) (.inl (.inl upd_same)) (by rw [eP, PR_some e1]) hq hm2⟩
      · rw [Bool.not_eq_true] at e
        rw [e] at hh
        refine ⟨_, rfl, rfl, fun k' h1 h2 => ?_⟩
        by_cases z : k' < j + c
        · exact hn k' h1 z
        · have z2 : k' = m := by omega
          rw [z2]; exact hh
    · rintro σ H3 ⟨x7, rfl, rfl, hn⟩
      have e1 : hit one two q j = none := hit_no fun k' h1 h2 => hn k' h1 (by omega)
      exact ⟨_, rfl, _, _, rfl, rfl, _, by omega, q + 1, x7, rfl, rfl, rfl, by rw [T_none e1]; exact eT, by rw [eP, PR_none e1]⟩
end
end VK
end

section
set_option Elab.async false
set_option linter.all false
set_option maxRecDepth 100000
set_option maxHeartbeats 4000000
namespace VK
open PySem L2
theorem T_shift (one two : List Str) (s i j : Nat) : T one two (s + i) (s + j) = T (one.drop s) (two.drop s) i j := by
  unfold T
  rw [List.drop_drop, List.drop_drop]
theorem hitP_shift (one two : List Str) (s i j k : Nat) : hitP one two (s + i) (s + j) (s + k) = hitP (one.drop s) (two.drop s) i j k := by
  unfold hitP
  have e1 : s + i + 1 = s + (i + 1) := by omega
  have e2 : s + k + 1 = s + (k + 1) := by omega
  rw [e1, e2, T_shift, T_shift, List.getElem?_drop, List.getElem?_drop]
theorem hit_shift (one two : List Str) (s i j : Nat) : hit one two (s + i) (s + j) = (hit (one.drop s) (two.drop s) i j).map (s + ·) := by
  cases e : hit (one.drop s) (two.drop s) i j with
  | none =>
    refine hit_no fun k' h1 h2 => ?_
    have e1 : k' = s + (k' - s) := by omega
    rw [e1, hitP_shift]
    cases q : hitP (one.drop s) (two.drop s) i j (k' - s) with
    | false => rfl
    | true =>
      exfalso
      unfold hitP at q
      refine hit_none e (k := k' - s) (by omega) (by rw [List.length_drop]; omega) ?_
      simpa using q
  | some k =>
    obtain ⟨a, b, c, d, f, g⟩ := hit_some e
    rw [List.length_drop] at b
    show hit one two (s + i) (s + j) = some (s + k)
    refine hit_mk (by omega) (by omega) ?_ fun k' h1 h2 => ?_
    · rw [hitP_shift]; unfold hitP; rw [c, f]; simp
    · have e1 : k' = s + (k' - s) := by omega
      rw [e1, hitP_shift]
      exact g _ (by omega) (by omega)
def shf (s : Nat) (p : Nat × Nat) : Nat × Nat := (s + p.1, s + p.2)
theorem PR_shift (one two : List Str) (s : Nat) : ∀ (d i j : Nat), one.length - (s + i) = d → PR one two (s + i) (s + j) = (PR (one.drop s) (two.drop s) i j).map (shf s)
  | 0, i, j, e => by
    rw [PR_end (by omega), PR_end (by rw [List.length_drop]; omega)]; rfl
  | d + 1, i, j, e => by
    have e1 : s + i + 1 = s + (i + 1) := by omega
    cases h : hit (one.drop s) (two.drop s) i j with
    | none =>
      have h2 := hit_shift one two s i j
      rw [h] at h2
      rw [PR_none h2, PR_none h, e1, PR_shift one two s d (i + 1) j (by omega)]
    | some k =>
      have h2 := hit_shift one two s i j
      rw [h] at h2
      have e2 : s + k + 1 = s + (k + 1) := by omega
      rw [PR_some h2, PR_some h, e1, e2, PR_shift one two s d (i + 1) (k + 1) (by omega)]
      rfl
def diag (s : Nat) : List (Nat × Nat) := (List.range s).map fun q => (q, q)
/-- equal lines ahead -/
theorem pairs_pre {one two : List Str} : ∀ s : Nat, s ≤ one.length → s ≤ two.length → (∀ q, q < s → one[q]? = two[q]?) → pairs one two = diag s ++ PR one two s s
  | 0, _, _, _ => rfl
  | s + 1, h1, h2, h => by
    rw [pairs_pre s (by omega) (by omega) fun q hq => h q (by omega)]
    have e : hit one two s s = some s := by
      refine hit_mk (Nat.le_refl _) (by omega) ?_ fun k' a b => by omega
      have n1 : one[s]? = some one[s] := List.getElem?_eq_getElem (by omega)
      have n2 : two[s]? = some one[s] := by rw [← h s (by omega), n1]
      unfold hitP
      rw [n1, n2, T_eq n1 n2]; simp
    rw [PR_some e]
    unfold diag
    rw [List.range_succ, List.map_append, List.append_assoc]; rfl
theorem pairs_eq {one two : List Str} {s : Nat} (h1 : s ≤ one.length) (h2 : s ≤ two.length) (h : ∀ q, q < s → one[q]? = two[q]?) : pairs one two = diag s ++ (PR (one.drop s) (two.drop s) 0 0).map (shf s) := by
  rw [pairs_pre s h1 h2 h]
  have := PR_shift one two s _ 0 0 rfl
  rw [Nat.add_zero] at this
  rw [this]
end VK
end

section
set_option Elab.async false
set_option linter.all false
set_option pp.maxSteps 1500
set_option maxRecDepth 100000
set_option maxHeartbeats 4000000
namespace VK
open PySem L2
abbrev s_kept_pairs : Stmt := topS 7
theorem sc_kept_pairs : FnScope ["one", "two", "same", "found", "table", "first", "second", "place"] ["one", "two"] (defScope s_kept_pairs) := ⟨rfl, rfl, rfl, by decide +kernel, rfl, by decide +kernel, by decide +kernel⟩
def spKept (K : PySem.W.Frag) (C : Addr) : Sp := fun vs H Q E => ∃ (a b : Addr) (one two : List Str), vs = [.ref a, .ref b] ∧ SqT K H a (one.map V.str) ∧ SqT K H b (two.map V.str) ∧ one.length ≤ 1000 ∧ two.length ≤ 1000 ∧
  (∀ s, s ≤ one.length → s ≤ two.length → (s = one.length ∨ s = two.length ∨ one[s]? ≠ two[s]?) → (∀ q, q < s → one[q]? = two[q]?) → 40000 < (one.length - s) * (two.length - s) → ∀ H', Same H H' → E (.ref C) none H') ∧
  ((∃ s, s ≤ one.length ∧ s ≤ two.length ∧ (s = one.length ∨ s = two.length ∨ one[s]? ≠ two[s]?) ∧ (∀ q, q < s → one[q]? = two[q]?) ∧ (one.length - s) * (two.length - s) ≤ 40000) → ∀ (H' : Hp) (v : V), Same H H' → Dp K H' v (pairsD (pairs one two)) → Q v H')
section
variable {P : Program} {w : World} {K : PySem.W.Frag} {mg : Str → Option Value} {base : Heap}
theorem ok_kept {f fC fN C : Addr} {fd fdC fdN : FuncData} (F : Fun K "kept_pairs" "kept_pairs" s_kept_pairs f fd) (T0 : Txt0 mg) (L : TL K mg C) {tM : Tok} (hc : mg "MOST_PLACES" = some (.int 40000 tM)) (DC : Df K mg "common_table" s_common_table ["one", "two"] fC fdC) (DN : Df K mg "next_pair" s_next_pair ["one", "two", "table", "place"] fN fdN) : FnOk P w K mg base (L2N.CX P w) 2 f fd ["one", "two"] (spKept K C) := by
  have GC : FnOk P w K mg base (L2N.CX P w) 1 fC fdC ["one", "two"] (spTable K C) := ok_table DC.F T0 L hc
  have GN : FnOk P w K mg base CX0 1 fN fdN ["one", "two", "table", "place"] (spNext K) := ok_next DN.F T0
  refine okXN F sc_kept_pairs (fun vs H Q E h => ?_) (fun cdv A outer s H vs Q E hr h => ?_)
  · obtain ⟨a, b, one, two, rfl, _⟩ := h
    rfl
  · obtain ⟨a, b, one, two, rfl, hA, hB, ha, hb, kE, k⟩ := h
    refine ⟨_, (pss_cons (ps_set (i := 2) sc_kept_pairs.nd rfl (Or.inl rfl) pe_int)
      (pss_cons (ps_while (passes_of rfl) (PW.pt (pw_and (pt_cmpR op_lt (pv 2) (pe_callB (call_min2 rfl) (by rfl) T0.z_min (by decide +kernel) (pa_cons (pe_callB call_len_seq (by rfl) T0.z_len PySem.boot_len (pa_cons (pv 0) pa_nil)) (pa_cons (pe_callB call_len_seq (by rfl) T0.z_len PySem.boot_len (pa_cons (pv 1) pa_nil)) pa_nil))) (nomark _)) (pw_and1 (pt_cmpR op_eq (pe_ix ix_tup (pv 0) (pv 2) (fun _ _ => rfl)) (pe_ix ix_tup (pv 1) (pv 2) (fun _ _ => rfl)) (nomark _)))))
        (pss_one (ps_aug (i := 2) sc_kept_pairs.nd rfl (Or.inl rfl) pe_int ip_add)))
      (pss_cons (ps_setLc (i := 3) (own := [("place", 7)]) (g := gName 7) (tt := tYes) rfl sc_kept_pairs.nd rfl rfl (sw_true rfl rfl rfl (by decide +kernel)) (pi_range1 (by rfl) T0.z_range (pa_cons (pv 2) pa_nil)) (blkOk_by (own := [("place", 7)]) (N := ["one", "two", "same", "found", "table", "first", "second", "place"]) (sc := defScope s_kept_pairs) (by decide +kernel)) (fun _ _ _ _ _ => (pg_name (i := 7) sc_kept_pairs.nd rfl (Or.inl rfl))) (fun _ _ _ _ _ => pts_nil) (fun _ _ _ _ _ => (pe_tup (pa_cons (pv 7) (pa_cons (pv 7) pa_nil)))))
      (pss_cons (ps_set (i := 4) sc_kept_pairs.nd rfl (Or.inl rfl) (pe_call GC hr rfl DC.m DC.F.kp DC.b .nil (pass_on rfl rfl (L2N.takes_of rfl rfl rfl rfl)) (pa_cons (pe_slice sl_tupA (pv 0) (po_some (pv 2)) po_none) (pa_cons (pe_slice sl_tupA (pv 1) (po_some (pv 2)) po_none) pa_nil))))
      (pss_cons (ps_asg (pe_tup (pa_cons pe_int (pa_cons pe_int pa_nil))) (pg_tup rfl (pgs_cons (pg_name (i := 5) sc_kept_pairs.nd rfl (Or.inl rfl)) (pgs_cons (pg_name (i := 6) sc_kept_pairs.nd rfl (Or.inl rfl)) pgs_nil))))
      (pss_cons (ps_while (passes_of rfl) (pt_truth (pe_ix ix_list (pe_ix ix_list (pv 4) (pv 5) (fun _ _ => rfl)) (pv 6) (fun _ _ => rfl)) (by intro _; rfl))
        (pss_cons (ps_asg (pe_call GN hr rfl DN.m DN.F.kp DN.b .nil pass0 (pa_cons (pe_slice sl_tupA (pv 0) (po_some (pv 2)) po_none) (pa_cons (pe_slice sl_tupA (pv 1) (po_some (pv 2)) po_none) (pa_cons (pv 4) (pa_cons (pe_tup (pa_cons (pv 5) (pa_cons (pv 6) pa_nil))) pa_nil))))) (pg_tup rfl (pgs_cons (pg_name (i := 5) sc_kept_pairs.nd rfl (Or.inl rfl)) (pgs_cons (pg_name (i := 6) sc_kept_pairs.nd rfl (Or.inl rfl)) pgs_nil))))
        (pss_cons (ps_expr (pe_bm PySem.F.plainAttrs_list PySem.F.slot_list_append PySem.F.type_list_append mt_append (pv 3) (pa_cons (pe_tup (pa_cons (pe_op op_add (pv 2) (pv 5)) (pa_cons (pe_op op_add (pv 2) (pv 6)) pa_nil))) pa_nil)))
        (pss_one (ps_par (i := 5) (j := 6) (by rfl) sc_kept_pairs.nd rfl rfl (by decide) rfl rfl (pa_cons (pe_op op_add (pv 5) pe_int) (pa_cons (pe_op op_add (pv 6) pe_int) pa_nil)) (by rfl))))))
      (pss_one (ps_ret (pe_callTy call_tuple_of (by rfl) T0.z_tuple (by decide +kernel) (pa_cons (pv 3) pa_nil)))))))))), ?_⟩
    refine seq_c ?_
    refine cut (fun σ H' => ∃ (q : Nat), σ = [some (.ref a), some (.ref b), some (.int (q : Int)), none, none, none, none, none] ∧
        H' = H ∧ q ≤ one.length ∧ q ≤ two.length ∧ (∀ q', q' < q → one[q']? = two[q']?) ∧ (q = one.length ∨ q = two.length ∨ one[q]? ≠ two[q]?)) (fun nx hn => ?_) ?_
    · refine ⟨fun m σ H' => ∃ (q : Nat), m = one.length - q ∧ σ = [some (.ref a), some (.ref b), some (.int (q : Int)), none, none, none, none, none] ∧
        H' = H ∧ q ≤ one.length ∧ q ≤ two.length ∧ ∀ q', q' < q → one[q']? = two[q']?, ⟨_, 0, rfl, rfl, rfl, Nat.zero_le _, Nat.zero_le _, fun q' h => by omega⟩, ?_⟩
      rintro m σ H2 ⟨q, rfl, rfl, rfl, h1, h2, hpre⟩
      have emin : (if (((two.map V.str).length : Nat) : Int) < (((one.map V.str).length : Nat) : Int) then (((two.map V.str).length : Nat) : Int) else (((one.map V.str).length : Nat) : Int)) = ((min one.length two.length : Nat) : Int) := by
        rw [List.length_map, List.length_map]; split <;> omega
      refine ⟨_, rfl, _, rfl, a, _, rfl, .inr hA, _, rfl, b, _, rfl, .inr hB, _, _, rfl, _, _, rfl, rfl, _, rfl, ?_⟩
      rw [emin]
      dsimp only
      refine ite2 (fun e => ?_) (fun e => ?_)
      · have e1 := of_decide_eq_true e
        have l1 : q < one.length := by omega
        have l2 : q < two.length := by omega
        have n1 : one[q]? = some one[q] := List.getElem?_eq_getElem l1
        have n2 : two[q]? = some two[q] := List.getElem?_eq_getElem l2
        have m1 : (one.map V.str)[q]? = some (V.str one[q]) := by rw [List.getElem?_map, n1]; rfl
        have m2 : (two.map V.str)[q]? = some (V.str two[q]) := by rw [List.getElem?_map, n2]; rfl
        refine ⟨_, rfl, _, rfl, a, _, _, _, rfl, rfl, hA, atI_nat m1, _, rfl, _, rfl, b, _, _, _, rfl, rfl, hB, atI_nat m2, rfl, _, rfl, ?_⟩
        refine ite2 (fun e => ?_) (fun e => ?_)
        · have e2 : one[q] = two[q] := V.str.inj (of_decide_eq_true e)
          refine ⟨fun σ' H' => ∃ m', m' < one.length - q ∧ ∃ (q : Nat), m' = one.length - q ∧ σ' = [some (.ref a), some (.ref b), some (.int (q : Int)), none, none, none, none, none] ∧
            H' = H2 ∧ q ≤ one.length ∧ q ≤ two.length ∧ ∀ q', q' < q → one[q']? = two[q']?, fun _ _ h => h, ?_⟩
          refine ⟨_, rfl, _, _, rfl, rfl, _, by omega, q + 1, rfl, rfl, rfl, l1, l2, fun q' hq' => ?_⟩
          by_cases z : q' < q
          · exact hpre q' z
          · have : q' = q := by omega
            rw [this, n1, n2, e2]
        · refine hn _ _ ⟨q, rfl, rfl, h1, h2, hpre, .inr (.inr fun z => e (decide_eq_true ?_))⟩
          rw [n1, n2] at z
          rw [Option.some.inj z]
      · have e1 : ¬ (q : Int) < ((min one.length two.length : Nat) : Int) := fun z => e (decide_eq_true z)
        refine hn _ _ ⟨q, rfl, rfl, h1, h2, hpre, ?_⟩
        omega
    · rintro σ H2 ⟨s', rfl, rfl, hs1, hs2, hpre, hend⟩
      refine ⟨_, rfl, _, rfl, by omega, by omega, fun fo hfo => ?_⟩
      refine lc_range (lo := 0) (n := ((s' : Nat) : Int).toNat) (fun i H' => ∃ ws, H' fo = some (.lst ws) ∧ DpAll K H' ws ((diag i).map pairD) ∧ Same H2 H') ⟨[], upd_same, .nil, same_new hfo⟩ ?_ ?_
      · rintro i H3 hi ⟨ws, hw, hd, s3⟩
        refine ⟨rfl, _, rfl, _, rfl, by show 2 ≤ sizeLine; decide, fun p hp => ?_⟩
        have hw4 : upd H3 p (.tup [.int (0 + (i : Nat)), .int (0 + (i : Nat))]) fo = some (.lst ws) := by rw [upd_ne (ne_of_none hw hp)]; exact hw
        have lw : ws.length < 2000 := by
          have := dpAll_len hd
          unfold diag at this
          simp at this
          have : ((s' : Nat) : Int).toNat = s' := rfl
          omega
        refine ⟨ws, hw4, Nat.lt_of_lt_of_le lw (by decide), ws ++ [.ref p], upd_same, ?_, ?_⟩
        · have tk : TK K H3 (upd (upd H3 p (.tup [.int (0 + (i : Nat)), .int (0 + (i : Nat))])) fo (.lst (ws ++ [.ref p]))) := (TK.new hp).trans (TK.lst hw4)
          have ed : diag (i + 1) = diag i ++ [(i, i)] := by
            unfold diag
            rw [List.range_succ, List.map_append]; rfl
          rw [ed, List.map_append]
          refine dpAll_app (pairs_keep tk hd) (dpAll_one (dp_pair ?_))
          refine TK.lst hw4 _ _ (.inl (.inl ?_))
          rw [upd_same, Int.zero_add]
        · exact same_mut (s3.trans (same_new hp)) hfo
      · rintro H3 ⟨ws, hw, hd, s3⟩
        have es : ((s' : Nat) : Int).toNat = s' := rfl
        rw [es] at hd
        dsimp only [gName]
        refine ⟨_, rfl, _, rfl, _, rfl, ?_⟩
        dsimp only [tNoPart]
        refine sl_linesFrom (s3.seqT hA) fun H4 p1 s34 hp1 => ?_
        refine ⟨_, rfl, _, rfl, _, rfl, ?_⟩
        dsimp only [tNoPart]
        refine sl_linesFrom ((s3.trans s34).seqT hB) fun H5 p2 s45 hp2 => ?_
        have s25 := s3.trans (s34.trans s45)
        refine ⟨p1, p2, _, _, rfl, s45.seqT hp1, hp2, ?_, ?_, fun z => ?_, fun hle H6 t s56 tab => ?_⟩
        · rw [List.length_drop]; omega
        · rw [List.length_drop]; omega
        · rw [List.length_drop, List.length_drop] at z
          exact kE s' hs1 hs2 hend hpre z _ s25
        · rw [List.length_drop, List.length_drop] at hle
          have k := k ⟨s', hs1, hs2, hend, hpre, hle⟩
          have htab : ∀ H7, Sv fo H6 H7 → TabAt H5 H7 t (one.drop s') (two.drop s') := fun H7 q => tab.sv ((s34.trans s45) _ _ hw) q
          have s26 := s25.trans s56
          have hw6 : H6 fo = some (.lst ws) := (s34.trans (s45.trans s56)) _ _ hw
          have d6 : DpAll K H6 ws ((diag s').map pairD) := pairs_keep (TK.same (s34.trans (s45.trans s56))) hd
          refine ⟨by show 2 ≤ sizeLine; decide, fun pz hpz => ?_⟩
          refine ⟨pz, _, rfl, .inl (.inl upd_same), rfl, _, _, rfl, _, _, rfl, rfl, ?_⟩
          obtain ⟨H7, e7⟩ : ∃ H7, H7 = upd H6 pz (.tup [.int 0, .int 0]) := ⟨_, rfl⟩
          rw [← e7]
          have s67 : Same H6 H7 := by rw [e7]; exact same_new hpz
          refine ⟨fun m σ H' => ∃ (i j : Nat) (vs : List V) (dn : List (Nat × Nat)), m = one.length - i ∧ σ = [some (.ref a), some (.ref b), some (.int (s' : Int)), some (.ref fo), some (.ref t), some (.int (i : Int)), some (.int (j : Int)), none] ∧
            Sv fo H6 H' ∧ Same H2 H' ∧ H' fo = some (.lst vs) ∧ DpAll K H' vs (dn.map pairD) ∧ dn ++ (PR (one.drop s') (two.drop s') i j).map (shf s') = pairs one two ∧ i ≤ one.length - s' ∧ j ≤ two.length - s',
            ⟨_, 0, 0, ws, diag s', rfl, rfl, Sv.same s67, s26.trans s67, s67 _ _ hw6, pairs_keep (TK.same s67) d6, (pairs_eq hs1 hs2 hpre).symm, Nat.zero_le _, Nat.zero_le _⟩, ?_⟩
          rintro m σ H8 ⟨i, j, vs, dn, rfl, rfl, sv, s28, hv, hdd, hp, hi, hj⟩
          have tab8 := (htab _ sv).ok
          have li : i ≤ (one.drop s').length := by rw [List.length_drop]; exact hi
          have lj : j ≤ (two.drop s').length := by rw [List.length_drop]; exact hj
          obtain ⟨as, r, row, hT, hr1, hr2, hr3⟩ := tab8.get li lj
          refine ⟨_, rfl, _, rfl, t, as, (i : Int), _, rfl, rfl, SqL.of hT, atI_nat hr1, _, rfl, r, row, (j : Int), _, rfl, rfl, SqL.of hr2, atI_nat hr3, ?_⟩
          refine ⟨_, rfl, ?_⟩
          dsimp only
          have tpos : ((T (one.drop s') (two.drop s') i j : Int) != 0) = true → 0 < T (one.drop s') (two.drop s') i j := fun z => by
            have : (T (one.drop s') (two.drop s') i j : Int) ≠ 0 := bne_iff_ne.mp z
            omega
          refine ite2 (fun e => ?_) (fun e => ?_)
          · have hpos := tpos e
            refine ⟨fun σ' H' => ∃ m', m' < one.length - i ∧ ∃ (i j : Nat) (vs : List V) (dn : List (Nat × Nat)), m' = one.length - i ∧ σ' = [some (.ref a), some (.ref b), some (.int (s' : Int)), some (.ref fo), some (.ref t), some (.int (i : Int)), some (.int (j : Int)), none] ∧
              Sv fo H6 H' ∧ Same H2 H' ∧ H' fo = some (.lst vs) ∧ DpAll K H' vs (dn.map pairD) ∧ dn ++ (PR (one.drop s') (two.drop s') i j).map (shf s') = pairs one two ∧ i ≤ one.length - s' ∧ j ≤ two.length - s', fun _ _ h => h, ?_⟩
            refine ⟨_, rfl, _, rfl, _, rfl, ?_⟩
            dsimp only [tNoPart]
            refine sl_linesFrom (s28.seqT hA) fun H9 p3 s89 hp3 => ?_
            refine ⟨_, rfl, _, rfl, _, rfl, ?_⟩
            dsimp only [tNoPart]
            refine sl_linesFrom ((s28.trans s89).seqT hB) fun H10 p4 s90 hp4 => ?_
            refine ⟨_, rfl, _, rfl, _, rfl, by show 2 ≤ sizeLine; decide, fun p5 hp5 => ?_⟩
            have sn := same_new (o := .tup [.int (i : Int), .int (j : Int)]) hp5
            have sv11 : Sv fo H6 (upd H10 p5 (.tup [.int (i : Int), .int (j : Int)])) := sv.trans (Sv.same (s89.trans (s90.trans sn)))
            refine ⟨p3, p4, t, p5, _, _, i, j, rfl, (s90.trans sn).seqT hp3, sn.seqT hp4, (htab _ sv11).ok, .inl (.inl upd_same), hpos, ?_, ?_, fun H12 p6 i' k' s12 hp6 ePR li' lk' => ?_⟩
            · rw [List.length_drop]; omega
            · rw [List.length_drop]; omega
            rw [List.length_drop] at li' lk'
            have s8c : Same H8 H12 := s89.trans (s90.trans (sn.trans s12))
            have hii : i ≤ i' := by
              have q := PR_row (one := one.drop s') (two := two.drop s') _ i j rfl
              rw [ePR] at q
              exact q.1
            refine ⟨p6, _, rfl, hp6, rfl, _, _, rfl, _, _, rfl, rfl, ?_⟩
            have hv12 : H12 fo = some (.lst vs) := s8c _ _ hv
            have hd12 := pairs_keep (TK.same s8c) hdd
            refine ⟨_, rfl, .inl ⟨rfl, _, SqL.of hv12⟩, _, rfl, _, rfl, _, _, rfl, rfl, _, rfl, _, rfl, _, _, rfl, rfl, by show 2 ≤ sizeLine; decide, fun p7 hp7 => ?_⟩
            obtain ⟨H13, e13⟩ : ∃ H13, H13 = upd H12 p7 (.tup [.int ((s' : Int) + (i' : Int)), .int ((s' : Int) + (k' : Int))]) := ⟨_, rfl⟩
            dsimp only
            rw [← e13]
            have s1213 : Same H12 H13 := by rw [e13]; exact same_new hp7
            have hp13 : H13 p7 = some (.tup [.int ((shf s' (i', k')).1 : Int), .int ((shf s' (i', k')).2 : Int)]) := by
              rw [e13, upd_same]
              unfold shf
              simp
            have hv13 : H13 fo = some (.lst vs) := s1213 _ _ hv12
            have lvs : vs.length < 2000 := by
              have q1 := dpAll_len hdd
              have q2 := congrArg List.length hp
              have q3 : T one two 0 0 ≤ one.length := lcs_le1 _ _
              rw [List.length_append, pairs_len] at q2
              rw [List.length_map] at q1
              omega
            refine ⟨fo, vs, _, rfl, rfl, hv13, Nat.lt_of_lt_of_le lvs (by decide), ?_⟩
            have tk : TK K H8 (upd H13 fo (.lst (vs ++ [.ref p7]))) := (TK.same (s8c.trans s1213)).trans (TK.lst hv13)
            refine ⟨_, rfl, _, _, rfl, rfl, _, rfl, _, _, rfl, rfl, _, _, rfl, _, ?_, i' + 1, k' + 1, vs ++ [.ref p7], dn ++ [shf s' (i', k')], rfl, rfl, ?_, ?_, upd_same, ?_, ?_, by omega, by omega⟩
            · omega
            · exact (sv.trans (Sv.same (s8c.trans s1213))).trans Sv.at_
            · exact same_mut (s28.trans (s8c.trans s1213)) hfo
            · rw [List.map_append]
              refine dpAll_app (pairs_keep tk hdd) (dpAll_one (dp_pair ?_))
              exact TK.lst hv13 _ _ (.inl (.inl hp13))
            · rw [List.append_assoc, ← hp, ePR]; rfl
          · have z : T (one.drop s') (two.drop s') i j = 0 := by
              rcases Nat.eq_zero_or_pos (T (one.drop s') (two.drop s') i j) with z | z
              · exact z
              · exact absurd (bne_iff_ne.mpr (by omega)) e
            rw [PR_zero z] at hp
            have hp : dn = pairs one two := by rw [← hp]; exact (List.append_nil dn).symm
            refine ⟨_, rfl, fo, _, rfl, .inl ⟨SqL.of hv, fun l hl2 => ?_⟩⟩
            refine k _ _ (s28.trans (same_new hl2)) ?_
            refine .tup (.inl (.inl upd_same)) ?_
            rw [← hp]
            exact pairs_keep (TK.new hl2) hdd
end
end VK
end

section
set_option Elab.async false
set_option linter.all false
set_option pp.maxSteps 1500
set_option maxRecDepth 100000
set_option maxHeartbeats 4000000
namespace VK
open PySem L2
abbrev s_hunks_of : Stmt := topS 9
theorem sc_hunks_of : FnScope ["one", "two", "found", "first", "second", "here", "there"] ["one", "two"] (defScope s_hunks_of) := ⟨rfl, rfl, rfl, by decide +kernel, rfl, by decide +kernel, by decide +kernel⟩
def spHunksOf (K : PySem.W.Frag) : Sp := fun vs H Q _ => ∃ (a b : Addr) (one two : List Str), vs = [.ref a, .ref b] ∧ SqT K H a (one.map V.str) ∧ SqT K H b (two.map V.str) ∧ one.length ≤ 1000 ∧ two.length ≤ 1000 ∧ one.length * two.length ≤ 40000 ∧
  ∀ (H' : Hp) (v : V), Same H H' → Dp K H' v (hunksD (hunksL one two)) → Q v H'
section
variable {P : Program} {w : World} {K : PySem.W.Frag} {mg : Str → Option Value} {base : Heap}
theorem ok_hunks {f fC fN fP C : Addr} {fd fdC fdN fdP : FuncData} (F : Fun K "hunks_of" "hunks_of" s_hunks_of f fd) (T0 : Txt0 mg) (L : TL K mg C) {tM : Tok} (hc : mg "MOST_PLACES" = some (.int 40000 tM)) (DC : Df K mg "common_table" s_common_table ["one", "two"] fC fdC) (DN : Df K mg "next_pair" s_next_pair ["one", "two", "table", "place"] fN fdN) (DP : Df K mg "kept_pairs" s_kept_pairs ["one", "two"] fP fdP) : FnOk P w K mg base CX0 3 f fd ["one", "two"] (spHunksOf K) := by
  have GP : FnOk P w K mg base (L2N.CX P w) 2 fP fdP ["one", "two"] (spKept K C) := ok_kept DP.F T0 L hc DC DN
  refine F.ok sc_hunks_of (fun vs H Q E h => ?_) (fun cdv A outer s H vs Q E hr h => ?_)
  · obtain ⟨a, b, one, two, rfl, _⟩ := h
    rfl
  · obtain ⟨a, b, one, two, rfl, hA, hB, ha, hb, hm, k⟩ := h
    refine ⟨_, (pss_cons (ps_par3 (i := 2) (j := 3) (l := 4) (by rfl) sc_hunks_of.nd rfl rfl rfl (by decide) (by decide) (by decide) rfl rfl rfl (pa_cons (pe_lst pa_nil) (pa_cons pe_int (pa_cons pe_int pa_nil))) (by rfl))
      (pss_cons (ps_for PassesOwn.never rfl (pi_tup (pe_op op_catA (pe_call GP hr rfl DP.m DP.F.kp DP.b .nil (pass_no) (pa_cons (pv 0) (pa_cons (pv 1) pa_nil))) (pe_tup (pa_cons (pe_tup (pa_cons (pe_callB call_len_seq (by rfl) T0.z_len PySem.boot_len (pa_cons (pv 0) pa_nil)) (pa_cons (pe_callB call_len_seq (by rfl) T0.z_len PySem.boot_len (pa_cons (pv 1) pa_nil)) pa_nil))) pa_nil)))) (pg_tup rfl (pgs_cons (pg_name (i := 5) sc_hunks_of.nd rfl (Or.inl rfl)) (pgs_cons (pg_name (i := 6) sc_hunks_of.nd rfl (Or.inl rfl)) pgs_nil)))
        (pss_cons (ps_if (PW.pt (pw_or (pt_cmpR op_gt (pv 5) (pv 3) (nomark _)) (pw_or1 (pt_cmpR op_gt (pv 6) (pv 4) (nomark _)))))
          (pss_one (ps_expr (pe_bm PySem.F.plainAttrs_list PySem.F.slot_list_append PySem.F.type_list_append mt_append (pv 2) (pa_cons (pe_tup (pa_cons (pv 3) (pa_cons (pe_callTy call_tupleT (by rfl) T0.z_tuple (by decide +kernel) (pa_cons (pe_slice sl_tupA (pv 0) (po_some (pv 3)) (po_some (pv 5))) pa_nil)) (pa_cons (pe_callTy call_tupleT (by rfl) T0.z_tuple (by decide +kernel) (pa_cons (pe_slice sl_tupA (pv 1) (po_some (pv 4)) (po_some (pv 6))) pa_nil)) pa_nil)))) pa_nil))))
          pss_nil)
        (pss_one (ps_par (i := 3) (j := 4) (by rfl) sc_hunks_of.nd rfl rfl (by decide) rfl rfl (pa_cons (pe_op op_add (pv 5) pe_int) (pa_cons (pe_op op_add (pv 6) pe_int) pa_nil)) (by rfl)))))
      (pss_one (ps_ret (pe_callTy call_tuple_of (by rfl) T0.z_tuple (by decide +kernel) (pa_cons (pv 2) pa_nil)))))), ?_⟩
    refine ⟨by show 0 ≤ sizeLine; decide, fun fo hfo => ?_⟩
    refine ⟨_, _, _, rfl, ?_⟩
    have s0 : Same H (upd H fo (.lst [])) := same_new hfo
    refine ⟨_, rfl, _, rfl, a, b, one, two, rfl, s0.seqT hA, s0.seqT hB, ha, hb, fun z h1 h2 _ _ hz => ?_, fun _ H1 v s1 dv => ?_⟩
    · exfalso
      have := Nat.mul_le_mul (Nat.sub_le one.length z) (Nat.sub_le two.length z)
      omega
    obtain ⟨lp, ws, rfl, hlp1, hd⟩ := of_tupD dv
    have s01 := s0.trans s1
    refine ⟨_, rfl, a, _, rfl, .inr (s01.seqT hA), _, rfl, b, _, rfl, .inr (s01.seqT hB), by show 2 ≤ sizeLine; decide, fun pp hpp => ⟨by show 1 ≤ sizeLine; decide, fun lq hlq => ?_⟩⟩
    obtain ⟨H2, e2⟩ : ∃ H2, H2 = upd H1 pp (.tup [.int ((one.map V.str).length : Int), .int ((two.map V.str).length : Int)]) := ⟨_, rfl⟩
    rw [← e2] at hlq ⊢
    have s12 : Same H1 H2 := by rw [e2]; exact same_new hpp
    have hpp2 : H2 pp = some (.tup [.int (one.length : Int), .int (two.length : Int)]) := by rw [e2, upd_same, List.length_map, List.length_map]
    obtain ⟨H3, e3⟩ : ∃ H3, H3 = upd H2 lq (.tup [.ref pp]) := ⟨_, rfl⟩
    rw [← e3]
    have s23 : Same H2 H3 := by rw [e3]; exact same_new hlq
    have s13 := s12.trans s23
    have lws : ws.length ≤ 1000 := by
      have q1 := dpAll_len hd
      have q3 : T one two 0 0 ≤ one.length := lcs_le1 _ _
      rw [List.length_map, pairs_len] at q1
      omega
    refine cat_tupK (s13.seqT hlp1) (ys := [.ref pp]) (.inl (.inl (by rw [e3, upd_same]))) (Nat.le_trans (show ws.length + 1 ≤ 2000 by omega) (by decide)) fun H4 L s34 hL4 => ?_
    obtain ⟨full, hfull⟩ : ∃ full, full = pairs one two ++ [(one.length, two.length)] := ⟨_, rfl⟩
    have d4 : DpAll K H4 (ws ++ [.ref pp]) (full.map pairD) := by
      rw [hfull, List.map_append]
      refine dpAll_app (pairs_keep (TK.same (s13.trans s34)) hd) (dpAll_one (dp_pair ?_))
      exact (s23.trans s34).seqT (.inl (.inl hpp2))
    have hfo1 : H1 fo = some (.lst []) := s1 _ _ upd_same
    have hfo4 : H4 fo = some (.lst []) := (s13.trans s34) _ _ hfo1
    have s4 : Same H H4 := s01.trans (s13.trans s34)
    have ln : (ws ++ [V.ref pp]).length = full.length := by rw [dpAll_len d4, List.length_map]
    have lf : full.length ≤ 1001 := by rw [← ln, List.length_append]; simp; omega
    refine ⟨L, rfl, ⟨_, hL4⟩, ?_⟩
    refine for_it (walk_tup (xs := ws ++ [.ref pp])) (fun c σ H' => ∃ (i j : Nat) (vs : List V) (dn : List Hunk) (x5 x6 : Option V), σ = [some (.ref a), some (.ref b), some (.ref fo), some (.int (i : Int)), some (.int (j : Int)), x5, x6] ∧ Same H H' ∧ TK K H4 H' ∧
        H' fo = some (.lst vs) ∧ DpAll K H' vs (dn.map hunkD) ∧ dn ++ hunksF one two i j (full.drop c) = hunksL one two ∧ dn.length ≤ c) ?_ (fun c σ H' _ h => ?_) ?_ ?_
    · exact ⟨0, 0, [], [], none, none, rfl, s4, TK.refl _ _, hfo4, .nil, by rw [hfull]; rfl, Nat.le_refl _⟩
    · obtain ⟨i, j, vs, dn, x5, x6, rfl, h1, h2, h3, h4⟩ := h
      exact h2 _ _ hL4
    · rintro c x σ H5o H5 hc ⟨i, j, vs, dn, x5, x6, rfl, sm, tk, hv, hdd, hp, hl⟩ ⟨rfl, hx⟩
      have hcf : c < full.length := by rw [← ln]; exact hc
      obtain ⟨⟨h, t⟩, ht⟩ : ∃ q, q = full[c] := ⟨_, rfl⟩
      have hf : full[c]? = some (h, t) := by rw [List.getElem?_eq_getElem hcf, ht]
      obtain ⟨v, hv1, hv2⟩ := dpAll_at (pairs_keep tk d4) (k := c) (d := pairD (h, t)) (by rw [List.getElem?_map, hf]; rfl)
      obtain rfl : v = x := Option.some.inj (hv1.symm.trans hx)
      obtain ⟨q, rfl, hq⟩ := of_pair hv2
      have ed : full.drop c = (h, t) :: full.drop (c + 1) := by rw [List.drop_eq_getElem_cons hcf, ← ht]
      rw [ed, hunksF] at hp
      refine ⟨q, _, rfl, hq, rfl, ?_⟩
      have fin : ∀ (vs' : List V) (dn' : List Hunk) (H' : Hp), Same H H' → TK K H4 H' → H' fo = some (.lst vs') → DpAll K H' vs' (dn'.map hunkD) → dn' ++ hunksF one two (h + 1) (t + 1) (full.drop (c + 1)) = hunksL one two → dn'.length ≤ c + 1 →
          ∃ (i j : Nat) (vs : List V) (dn : List Hunk) (x5 x6 : Option V), [some (.ref a), some (.ref b), some (.ref fo), some (V.int ((h : Int) + 1)), some (V.int ((t : Int) + 1)), some (V.int (h : Int)), some (V.int (t : Int))] = [some (.ref a), some (.ref b), some (.ref fo), some (.int (i : Int)), some (.int (j : Int)), x5, x6] ∧ Same H H' ∧ TK K H4 H' ∧
        H' fo = some (.lst vs) ∧ DpAll K H' vs (dn.map hunkD) ∧ dn ++ hunksF one two i j (full.drop (c + 1)) = hunksL one two ∧ dn.length ≤ c + 1 := fun vs' dn' H' p1 p2 p4 p5 p6 p7 => ⟨h + 1, t + 1, vs', dn', _, _, rfl, p1, p2, p4, p5, p6, p7⟩
      refine ⟨_, _, rfl, _, _, rfl, rfl, ?_⟩
      refine cut (fun σ' H' => σ' = [some (.ref a), some (.ref b), some (.ref fo), some (V.int (i : Int)), some (V.int (j : Int)), some (V.int (h : Int)), some (V.int (t : Int))] ∧ ∃ (vs' : List V) (dn' : List Hunk), Same H H' ∧ TK K H4 H' ∧ H' fo = some (.lst vs') ∧ DpAll K H' vs' (dn'.map hunkD) ∧ dn' ++ hunksF one two (h + 1) (t + 1) (full.drop (c + 1)) = hunksL one two ∧ dn'.length ≤ c + 1) (fun nx hn => ?_) ?_
      · refine tOr_pure (fun Q h => ⟨_, rfl, _, rfl, _, _, rfl, rfl, _, rfl, h⟩) (fun Q h => ⟨_, rfl, _, rfl, _, _, rfl, rfl, _, rfl, h⟩) ?_
        refine ite2 (fun e => ?_) (fun e => ?_)
        · have hc2 : i < h ∨ j < t := by
            rw [Bool.or_eq_true, decide_eq_true_eq, decide_eq_true_eq] at e
            omega
          rw [if_pos hc2] at hp
          refine ⟨_, rfl, .inl ⟨rfl, _, SqL.of hv⟩, _, rfl, _, rfl, _, rfl, _, rfl, _, rfl, _, rfl, sl_lines (sm.seqT hA) fun H6 p s56 hp6 => ?_⟩
          refine ⟨p, _, rfl, hp6, _, rfl, _, rfl, _, rfl, _, rfl, _, rfl, sl_lines ((sm.trans s56).seqT hB) fun H7 r s67 hr7 => ?_⟩
          refine ⟨r, _, rfl, hr7, by show 3 ≤ sizeLine; decide, fun z hz => ?_⟩
          have s57 := s56.trans s67
          have hv7 : H7 fo = some (.lst vs) := s57 _ _ hv
          have nfz : fo ≠ z := ne_of_none hv7 hz
          have hv8 : upd H7 z (.tup [.int (i : Int), .ref p, .ref r]) fo = some (.lst vs) := by rw [upd_ne nfz]; exact hv7
          have lvs : vs.length < 2000 := by
            have q1 := dpAll_len hdd
            rw [List.length_map] at q1
            omega
          refine ⟨fo, vs, _, rfl, rfl, hv8, Nat.lt_of_lt_of_le lvs (by decide), ?_⟩
          have tk8 : TK K H5 (upd (upd H7 z (.tup [.int (i : Int), .ref p, .ref r])) fo (.lst (vs ++ [.ref z]))) := ((TK.same s57).trans (TK.new hz)).trans (TK.lst hv8)
          refine hn _ _ ⟨rfl, vs ++ [.ref z], dn ++ [⟨i, cutL one i h, cutL two j t⟩], ?_, tk.trans tk8, upd_same, ?_, ?_, ?_⟩
          · exact same_mut ((sm.trans s57).trans (same_new hz)) hfo
          · rw [List.map_append]
            refine dpAll_app (hunks_keep tk8 hdd) (dpAll_one (dp_hunk (b := p) (c := r) ?_ ?_ ?_))
            · exact TK.lst hv8 _ _ (.inl (.inl upd_same))
            · exact ((TK.new hz).trans (TK.lst hv8)) _ _ (s67.seqT hp6)
            · exact ((TK.new hz).trans (TK.lst hv8)) _ _ hr7
          · rw [List.append_assoc]; exact hp
          · rw [List.length_append]; exact Nat.succ_le_succ hl
        · have hc2 : ¬ (i < h ∨ j < t) := by
            intro q
            apply e
            rw [Bool.or_eq_true, decide_eq_true_eq, decide_eq_true_eq]
            omega
          rw [if_neg hc2] at hp
          exact hn _ _ ⟨rfl, vs, dn, sm, tk, hv, hdd, hp, Nat.le_succ_of_le hl⟩
      · rintro σ6 H6 ⟨rfl, vs', dn', p1, p2, p4, p5, p6, p7⟩
        exact ⟨_, rfl, _, _, rfl, rfl, _, rfl, _, _, rfl, rfl, _, _, rfl, fin _ _ _ p1 p2 p4 p5 p6 p7⟩
    · rintro σ H5 ⟨i, j, vs, dn, x5, x6, rfl, sm, tk, hv, hdd, hp, hl⟩
      rw [ln, List.drop_length] at hp
      have hp : dn = hunksL one two := by rw [← hp]; exact (List.append_nil dn).symm
      refine ⟨_, rfl, fo, _, rfl, .inl ⟨SqL.of hv, fun l hl2 => ?_⟩⟩
      refine k _ _ (sm.trans (same_new hl2)) ?_
      refine .tup (.inl (.inl upd_same)) ?_
      rw [← hp]
      exact hunks_keep (TK.new hl2) hdd
end
end VK
end

section
set_option Elab.async false
set_option linter.all false
set_option pp.maxSteps 1500
set_option maxRecDepth 100000
set_option maxHeartbeats 4000000
/-! enumerate(text), after HandS.Iter's enumerate(list) -/
namespace VK
open PySem PySem.Spec PyProof.Rows L2
/-- the signs of a text, each in a new pair -/
def Ites (x : Str) : It :=
  ⟨fun i _ => i < x.cps.size, fun i H v H' => ∃ T c, v = .ref T ∧ H T = none ∧ H' = upd H T (.tup [.int (i : Nat), .str ⟨#[c]⟩]) ∧ x.cps[i]? = some c, fun i _ => x.cps.size ≤ i⟩
theorem turn_enumS {P : Program} {w : World} {K : PySem.W.Frag} {elts : List Expr} {kk : Nat} {tpos : Pos} (x : Str) (t : Tok) (e it : Addr) :
    Turn P w K (.Tuple elts kk tpos) (Ites x) [e, it] e (fun i h => (∃ old, IsEnum h e it ((i : Nat) : Int) old) ∧ h.IsStrIter it (strIterType x) x t i ∧ e ≠ it ∧ i ≤ x.cps.size) where
  mem := by simp
  obj := fun i h st b hb => by
    obtain ⟨⟨old, he⟩, ⟨o, ho, hc, hd⟩, _⟩ := st
    have e' : b = e ∨ b = it := by simpa using hb
    rcases e' with z | z
    · rw [z]; exact ⟨_, he, fun v q => nomatch q⟩
    · rw [z]; exact ⟨o, ho, fun v q => by rw [hd] at q; cases q⟩
  keep := fun i h h' st k => let ⟨⟨old, he⟩, ⟨o, ho, r⟩, hne⟩ := st; ⟨⟨old, k e (by simp) _ he⟩, ⟨o, k it (by simp) o ho, r⟩, hne⟩
  item := by
    intro X hP hw hK hc i pins s σ H E I hf st hg
    subst hP hw hK
    obtain ⟨⟨old, he⟩, hit, hne, hle⟩ := st
    have hlt : i < x.cps.size := hg
    have hel : e < s.heap.objs.size := Heap.lt_size he
    have hil : it < s.heap.objs.size := by obtain ⟨_, q, _⟩ := hit; exact Heap.lt_size q
    have hh : X.A.in1.handled = none := I.ok.hd hc
    refine wpAny_pyNext_enum_itemD (Draws.text hh it x t) he hit hg hne (fun z => hne (by simpa using z)) fun v h' tk hP ho hit' hT hsz hk => ?_
    obtain ⟨c, u, hcx, rfl⟩ := hP
    refine ⟨_, rfl, wpAny_letOwnedTupleGo_enum (s := { s with heap := h', toks := tk + 1 }) ho fun h'' he' sb => ?_⟩
    have hT2 : h''.get? s.heap.objs.size = some { cls := .type "tuple", data := .seq #[.int i tk, .str ⟨#[c]⟩ u] } := (sb.2 _ (Nat.ne_of_gt hel)).trans hT
    have new : ObjOk X.prog X.w (upd H s.heap.objs.size (.tup [.int (i : Nat), .str ⟨#[c]⟩])) h'' s.heap.objs.size (.tup [.int (i : Nat), .str ⟨#[c]⟩]) :=
      ⟨by show 2 ≤ sizeLine; decide, [.int i tk, .str ⟨#[c]⟩ u], .cons ⟨_, rfl⟩ (.cons ⟨_, rfl⟩ .nil), ⟨_, hT2, rfl, _, rfl⟩⟩
    have I1 : Inv X pins σ (upd H s.heap.objs.size (.tup [.int (i : Nat), .str ⟨#[c]⟩])) { s with heap := h'', toks := tk + 1 } :=
      I.turnedNew (ch := [e, it]) (fun b ob hb q => (sb.2 b (fun z => hb (by simp [z]))).trans (hk b ob (fun z => hb (by simp [z])) (fun z => hb (by simp [z])) q)) hf (Nat.le_refl _) new
    refine ⟨.ref s.heap.objs.size, _, I1, rfl, ⟨_, c, rfl, I.hok.fresh (Nat.le_refl _), rfl, hcx⟩, ⟨⟨.str ⟨#[c]⟩ u, ?_⟩, ?_, hne, hlt⟩, fun b hb => ?_⟩
    · have e1 : ((i + 1 : Nat) : Int) = (i : Int) + 1 := by omega
      rw [e1]; exact he'
    · obtain ⟨o, q, r⟩ := hit'
      exact ⟨o, (sb.2 it (Ne.symm hne)).trans q, r⟩
    · have hb' : b < s.heap.objs.size := by
        have e' : b = e ∨ b = it := by simpa using hb
        rcases e' with z | z
        · rw [z]; exact hel
        · rw [z]; exact hil
      rw [upd_ne (Nat.ne_of_lt hb')]
      exact (hf b hb).1
  done := by
    intro X hP hw hK hc i pins s σ H E I hf st hg
    subst hP hw hK
    obtain ⟨⟨old, he⟩, hit, hne, hle⟩ := st
    have hh : X.A.in1.handled = none := I.ok.hd hc
    obtain ⟨f0, f1, f2, f3, f4, f5⟩ := hf it (by simp)
    have hn : x.cps.size ≤ i := hg
    have hi : i = x.cps.size := Nat.le_antisymm hle hn
    rw [hi] at hit
    exact wpAny_pyNext_enum_endD (Draws.text hh it x t) he hit fun h' eb => ⟨rfl, I.turned (t' := s.toks) (fun b o hb q => eb b o hb q) f0 f1 f3 f4 f5⟩
  self := fun A i s Q E st h => let ⟨⟨_, he⟩, _⟩ := st; wpAny_pyIter_enum he h
def iEnumS (ta : TA) : TI := fun σ H R => ta σ H fun vs H1 => ∃ x, vs = [.str x] ∧ R (Ites x) H1
theorem pi_enumS {X : Cx} {e : Expr} {ta : TA} {p pos tpos : Pos} {elts : List Expr} {kk : Nat} (hg : Gl X "enumerate") (hm : X.mg "enumerate" = none) (ha : PA X [e] ta) (hs : starEach [e] X.env = [(false, eval e X.env)] := by rfl) :
    PI X (.Tuple elts kk tpos) (.Call (.Name "enumerate" p) [e] [] pos) (iEnumS ta) := by
  refine ⟨fun pins s σ H R I h => ?_⟩
  refine Call_ (ld_blt I hg hm boot_enumerate (PyProof.Rows.callWith_type1 (thn (ha.run pos pins s σ H _ I h) fun us s1 ⟨vs, H1, I1, r1, q1⟩ => ?_) hs rfl))
  obtain ⟨x, ex, q⟩ := q1
  subst ex
  cases r1 with
  | cons r rr =>
    cases rr
    obtain ⟨t, rfl⟩ := r
    refine call_enumerate_str fun h' he hit hsz hk => wpAny_pyIter_enum he ?_
    have I2 : Inv X pins σ H1 { s1 with heap := h' } := I1.kept (t' := s1.toks) hk
    refine ⟨s1.heap.objs.size + 1, [s1.heap.objs.size + 1, s1.heap.objs.size], _, _, H1, rfl, I2, turn_enumS x t (s1.heap.objs.size + 1) s1.heap.objs.size, ⟨⟨.none, he⟩, hit, Nat.succ_ne_self _, Nat.zero_le _⟩, fun b hb => ?_, q⟩
    have e' : b = s1.heap.objs.size + 1 ∨ b = s1.heap.objs.size := by simpa using hb
    have hle : s1.heap.objs.size ≤ b := by
      rcases e' with z | z
      · rw [z]; exact Nat.le_add_right _ _
      · rw [z]; exact Nat.le_refl _
    exact I1.fpOk hle (I1.hok.fresh hle)
theorem walk_enumS {z : Str} : Walk (Ites z) z.cps.size (fun _ => True) (fun i H v H' => ∃ T c, v = .ref T ∧ H T = none ∧ H' = upd H T (.tup [.int (i : Nat), .str ⟨#[c]⟩]) ∧ z.cps[i]? = some c) :=
  ⟨fun _ _ hi _ => hi, fun _ _ => Nat.le_refl _, fun _ _ _ _ _ _ y => y⟩
end VK
end

section
set_option Elab.async false
set_option linter.all false
set_option pp.maxSteps 1500
set_option maxRecDepth 100000
set_option maxHeartbeats 4000000
namespace VK
open PySem L2
abbrev mkS (l : List Nat) : Str := ⟨l.toArray⟩
/-- the lines of signs: each ends behind its 10 -/
def linesN : List Nat → List Nat → List (List Nat)
  | cur, [] => if cur = [] then [] else [cur]
  | cur, c :: r => if c = 10 then (cur ++ [10]) :: linesN [] r else linesN (cur ++ [c]) r
theorem linesN_len : ∀ (r cur : List Nat), (linesN cur r).length ≤ r.length + 1
  | [], cur => by rw [linesN]; split <;> simp
  | c :: r, cur => by
    rw [linesN]
    split
    · have := linesN_len r []
      simp only [List.length_cons]; omega
    · have := linesN_len r (cur ++ [c])
      simp only [List.length_cons]; omega
theorem cutL_snoc {α : Type} {xs : List α} {s i : Nat} {x : α} (h : s ≤ i) (e : xs[i]? = some x) : cutL xs s (i + 1) = cutL xs s i ++ [x] := by
  rw [cutL_app xs h (Nat.le_succ i), cutL_one e]
theorem cutL_of {α : Type} (xs : List α) (i h : Nat) : (xs.drop (min i xs.length)).take (min h xs.length - min i xs.length) = cutL xs i h := by
  unfold cutL
  by_cases h1 : xs.length ≤ i
  · rw [Nat.min_eq_right h1, List.drop_eq_nil_of_le (Nat.le_refl _), List.drop_eq_nil_of_le h1]; simp
  · rw [Nat.min_eq_left (a := i) (by omega)]
    by_cases h2 : h ≤ xs.length
    · rw [Nat.min_eq_left h2]
    · rw [Nat.min_eq_right (a := h) (by omega), List.take_of_length_le (by rw [List.length_drop]; omega), List.take_of_length_le (by rw [List.length_drop]; omega)]
theorem cutS_nat (z : Str) (i h : Nat) : cutS z (some (i : Int)) (some (h : Int)) = mkS (cutL z.cps.toList i h) := by
  have e : z.length = z.cps.toList.length := (Array.length_toList).symm
  unfold cutS
  rw [HT.sIx_nat, HT.sIx_nat, e, cutL_of]
theorem cutS_from (z : Str) (i : Nat) : cutS z (some (i : Int)) none = mkS (cutL z.cps.toList i z.cps.toList.length) := by
  have e : z.length = z.cps.toList.length := (Array.length_toList).symm
  unfold cutS
  rw [HT.sIx_nat, HT.sIx_none, e]
  have := cutL_of z.cps.toList i z.cps.toList.length
  rw [Nat.min_self] at this
  rw [this]
end VK
end

section
set_option Elab.async false
set_option linter.all false
set_option pp.maxSteps 1500
set_option maxRecDepth 100000
set_option maxHeartbeats 4000000
/-! any, all of a generator expression over a tuple, after HandS.AnyAll and HandS.JoinGen -/
namespace VK
open PySem PySem.Spec PyProof.Rows L2
/-- what a name of the module or a builtin is read from -/
structure GEnv (mg : Str → Option Value) (cenv : Env) (s : Shared) : Prop where
  kind : cenv.scope.kind = .function
  g : s.heap.Ns cenv.globals mg
  b : ∃ mb, s.heap.Ns cenv.builtins mb ∧ ∀ x : Str, x ≠ "__name__" → mb x = bootBuiltins x
/-- a value's truth -/
def Tru (prog : Program) (w : World) (y : Value) (b : Bool) : Prop := ∀ (A : Around) (s : Shared) (Q : Bool → Shared → Prop) (E : Value → Shared → Prop), (∀ k, s.toks ≤ k → Q b { s with toks := k }) → wpAny (model prog w) A (truthy y) Q E s
/-- the element: of an item v with Pz a value of the truth pb v -/
def EltV (prog : Program) (w : World) (mg : Str → Option Value) (scope : Scope) (x : Str) (elt : Expr) (Pz : V → Prop) (pb : V → Bool) : Prop :=
  ∀ (cenv : Env) (A' : Around) (E' : Value → Shared → Prop) (v : V) (u : Value) (s₂ : Shared) (m₂ : Str → Option Value), cenv.scope = scope → Pz v → RelV v u → GEnv mg cenv s₂ → s₂.heap.Ns cenv.locals m₂ → m₂ x = some u →
    wpAny (model prog w) A' (eval elt cenv) (fun y s₃ => Tru prog w y (pb v) ∧ Keeps s₂ s₃) E' s₂
def trV (pb : V → Bool) (l : List V) (j : Nat) : Bool := match l[j]? with
  | some b => pb b
  | none => false
theorem trV_some {pb : V → Bool} {l : List V} {j : Nat} {b : V} (h : l[j]? = some b) : trV pb l j = pb b := by
  unfold trV
  rw [h]
theorem any_trV (l : List V) (pb : V → Bool) : (List.range l.length).any (trV pb l) = l.any pb := by
  rw [Bool.eq_iff_iff, List.any_eq_true, List.any_eq_true]
  constructor
  · intro ⟨j, hj, h⟩
    have hj' := List.mem_range.mp hj
    rw [trV_some (List.getElem?_eq_getElem hj')] at h
    exact ⟨l[j], List.getElem_mem hj', h⟩
  · intro ⟨b, hb, h⟩
    obtain ⟨j, hj, e⟩ := List.getElem_of_mem hb
    refine ⟨j, List.mem_range.mpr hj, ?_⟩
    rw [trV_some (List.getElem?_eq_getElem hj), e]
    exact h
theorem all_trV (l : List V) (pb : V → Bool) : (List.range l.length).all (trV pb l) = l.all pb := by
  rw [Bool.eq_iff_iff, List.all_eq_true, List.all_eq_true]
  constructor
  · intro h b hb
    obtain ⟨j, hj, e⟩ := List.getElem_of_mem hb
    have q := h j (List.mem_range.mpr hj)
    rw [trV_some (List.getElem?_eq_getElem hj), e] at q
    exact q
  · intro h j hj
    have hj' := List.mem_range.mp hj
    rw [trV_some (List.getElem?_eq_getElem hj')]
    exact h _ (List.getElem_mem hj')
/-- the truth of what is yielded; behind it tokens may be taken -/
def TruthT (prog : Program) (w : World) (A : Around) (P : Nat → Value → Prop) (tr : Nat → Bool) : Prop :=
  ∀ i v (s : Shared) (Q : Bool → Shared → Prop) (E : Value → Shared → Prop), P i v → (∀ k, s.toks ≤ k → Q (tr i) { s with toks := k }) → wpAny (model prog w) A (truthy v) Q E s
section
variable {prog : Program} {w : World} {A : Around} {R : Result → Shared → Prop} {I : Addr} {fp wr : List Addr} {G : Array GenState → Array GenState → Prop} {n : Nat} {P : Nat → Value → Prop} {St : Nat → Shared → Prop} {E : Value → Shared → Prop} {s : Shared}
theorem all_loopT (W : WalksS prog w A.in1 I fp wr G n P St) (tr : Nat → Bool) (htr : TruthT prog w A.in1 P tr) : ∀ (k i : Nat) (s : Shared), n - i = k → i ≤ n → St i s →
    (∀ s', Moved wr G s s' → R (.ok (.ret (.bool (((List.range n).drop i).all tr)))) s') → codeAny (model prog w) A (.builtin "all.loop" ⟨[.ref I], []⟩) R s := by
  intro k
  induction k with
  | zero =>
    intro i s hk hi hst hR
    have hin : i = n := by omega
    subst hin
    refine codeAny_builtin F.entry_all_loop ?_
    rw [Around.under_plainId F.plain_all_loop _]
    show wpAny _ A.in1 (pyNext (.ref I) >>= _) _ _ s
    refine wpAny_bind (W.done s _ _ hst fun s' hm => ?_)
    refine wpAny_bind (wpAny_rule (wpAny_pure ?_))
    have := hR s' hm
    rw [List.drop_of_length_le (by simp)] at this
    exact this
  | succ k ih =>
    intro i s hk hi hst hR
    have hlt : i < n := by omega
    have hd : (List.range n).drop i = i :: (List.range n).drop (i + 1) := by
      rw [List.drop_eq_getElem_cons (by simpa using hlt)]; simp
    refine codeAny_builtin F.entry_all_loop ?_
    rw [Around.under_plainId F.plain_all_loop _]
    show wpAny _ A.in1 (pyNext (.ref I) >>= _) _ _ s
    refine wpAny_bind (W.item i s _ _ hlt hst fun v s' hP hst' hm => ?_)
    refine wpAny_bind (wpAny_holding (htr i v _ _ _ hP fun kt hkt => ?_))
    refine wpAny_bind (wpAny_letGo ?_)
    have hst2 : St (i + 1) { s' with toks := kt } := W.frame (i + 1) s' s'.heap kt hst' hkt fun b _ o e => e
    have hm2 : Moved wr G s { s' with toks := kt } := hm.then_heap (h' := s'.heap) hkt fun b o _ e => e
    cases hb : tr i with
    | true =>
      simp only [if_true]
      refine wpAny_pure ⟨plainId_quiet F.plain_all_loop _, ih (i + 1) _ (by omega) hlt hst2 fun s'' hm' => ?_⟩
      have := hR s'' (hm2.trans W.gtrans hm')
      rw [hd, List.all_cons, hb, Bool.true_and] at this
      exact this
    | false =>
      simp only [Bool.false_eq_true, if_false]
      refine wpAny_bind (wpAny_rule (wpAny_pure ?_))
      have := hR _ hm2
      rw [hd, List.all_cons, hb, Bool.false_and] at this
      exact this
theorem any_loopT (W : WalksS prog w A.in1 I fp wr G n P St) (tr : Nat → Bool) (htr : TruthT prog w A.in1 P tr) : ∀ (k i : Nat) (s : Shared), n - i = k → i ≤ n → St i s →
    (∀ s', Moved wr G s s' → R (.ok (.ret (.bool (((List.range n).drop i).any tr)))) s') → codeAny (model prog w) A (.builtin "any.loop" ⟨[.ref I], []⟩) R s := by
  intro k
  induction k with
  | zero =>
    intro i s hk hi hst hR
    have hin : i = n := by omega
    subst hin
    refine codeAny_builtin F.entry_any_loop ?_
    rw [Around.under_plainId F.plain_any_loop _]
    show wpAny _ A.in1 (pyNext (.ref I) >>= _) _ _ s
    refine wpAny_bind (W.done s _ _ hst fun s' hm => ?_)
    refine wpAny_bind (wpAny_rule (wpAny_pure ?_))
    have := hR s' hm
    rw [List.drop_of_length_le (by simp)] at this
    exact this
  | succ k ih =>
    intro i s hk hi hst hR
    have hlt : i < n := by omega
    have hd : (List.range n).drop i = i :: (List.range n).drop (i + 1) := by
      rw [List.drop_eq_getElem_cons (by simpa using hlt)]; simp
    refine codeAny_builtin F.entry_any_loop ?_
    rw [Around.under_plainId F.plain_any_loop _]
    show wpAny _ A.in1 (pyNext (.ref I) >>= _) _ _ s
    refine wpAny_bind (W.item i s _ _ hlt hst fun v s' hP hst' hm => ?_)
    refine wpAny_bind (wpAny_holding (htr i v _ _ _ hP fun kt hkt => ?_))
    refine wpAny_bind (wpAny_letGo ?_)
    have hst2 : St (i + 1) { s' with toks := kt } := W.frame (i + 1) s' s'.heap kt hst' hkt fun b _ o e => e
    have hm2 : Moved wr G s { s' with toks := kt } := hm.then_heap (h' := s'.heap) hkt fun b o _ e => e
    cases hb : tr i with
    | false =>
      simp only [Bool.false_eq_true, if_false]
      refine wpAny_pure ⟨plainId_quiet F.plain_any_loop _, ih (i + 1) _ (by omega) hlt hst2 fun s'' hm' => ?_⟩
      have := hR s'' (hm2.trans W.gtrans hm')
      rw [hd, List.any_cons, hb, Bool.false_or] at this
      exact this
    | true =>
      simp only [if_true]
      refine wpAny_bind (wpAny_rule (wpAny_pure ?_))
      have := hR _ hm2
      rw [hd, List.any_cons, hb, Bool.true_or] at this
      exact this
theorem call_all_T {x : Value} {Q : Value → Shared → Prop}
    (h : wpAny (model prog w) A.in1 (pyIter x) (fun it s₂ => ∃ I fp wr G n P St tr, it = .ref I ∧ WalksS prog w A.in1 I fp wr G n P St ∧ St 0 s₂ ∧ TruthT prog w A.in1 P tr ∧
      ∀ s', Moved wr G s₂ s' → Q (.bool ((List.range n).all tr)) s') E s) :
    wpAny (model prog w) A (call (.builtin "all") [x]) Q E s := by
  refine call_function_tree F.kind_all F.plain_all F.entry_all (F.args_all1 _) ?_
  unfold Builtin.«all»
  refine wpAny_bind (m := oneArg "all" _) (wpAny_pure ?_)
  refine wpAny_bind (wpAny_mono h (fun it s₂ h₂ => ?_) fun _ _ e => e)
  obtain ⟨I, fp, wr, G, n, P, St, tr, rfl, W, hst, htr, hQ⟩ := h₂
  exact wpAny_pure ⟨plainId_quiet F.plain_all_loop _, all_loopT W tr htr n 0 s₂ rfl (Nat.zero_le _) hst fun s' hm => by simpa using hQ s' hm⟩
theorem call_any_T {x : Value} {Q : Value → Shared → Prop}
    (h : wpAny (model prog w) A.in1 (pyIter x) (fun it s₂ => ∃ I fp wr G n P St tr, it = .ref I ∧ WalksS prog w A.in1 I fp wr G n P St ∧ St 0 s₂ ∧ TruthT prog w A.in1 P tr ∧
      ∀ s', Moved wr G s₂ s' → Q (.bool ((List.range n).any tr)) s') E s) :
    wpAny (model prog w) A (call (.builtin "any") [x]) Q E s := by
  refine call_function_tree F.kind_any F.plain_any F.entry_any (F.args_any1 _) ?_
  unfold Builtin.«any»
  refine wpAny_bind (m := oneArg "any" _) (wpAny_pure ?_)
  refine wpAny_bind (wpAny_mono h (fun it s₂ h₂ => ?_) fun _ _ e => e)
  obtain ⟨I, fp, wr, G, n, P, St, tr, rfl, W, hst, htr, hQ⟩ := h₂
  exact wpAny_pure ⟨plainId_quiet F.plain_any_loop _, any_loopT W tr htr n 0 s₂ rfl (Nat.zero_le _) hst fun s' hm => by simpa using hQ s' hm⟩
end
section
variable {X : Cx} {pins : List (Addr × Obj)} {σ : L2.St} {H : Hp} {s : Shared}
/-- the generator g over the items xs, ready to be walked, in the state s5; H1: what was held before -/
def ReadyV (X : Cx) (pins : List (Addr × Obj)) (σ : L2.St) (H1 : Hp) (P : Addr) (xs : List V) (pb : V → Bool) (g : Addr) (s5 : Shared) : Prop :=
  ∃ (fp wr : List Addr) (G : Array GenState → Array GenState → Prop) (F : Nat → Value → Prop) (St : Nat → Shared → Prop),
    WalksS X.prog X.w X.A.in1 g fp wr G xs.length F St ∧ St 0 s5 ∧ TruthT X.prog X.w X.A.in1 F (trV pb xs) ∧
    ∀ s', Moved wr G s5 s' → ∃ H2, GxR.Tabbed P H1 H2 ∧ Inv X pins σ H2 s'
theorem gen_tupV {c P : Addr} {elt iter : Expr} {x : Str} {px gpos : Pos} {scope : Scope} {Pz : V → Prop} {pb : V → Bool} {te : TE} {k : Nat} {Q' : Value → Shared → Prop} {R : List V → Hp → Prop}
    (hr : Room k X.A) (TB : GxR.TabB X.base X.mg c P) (hcode : X.env.code = .ref c) (S : GxR.GenS X.env scope x) (hi : PE X iter te) (hel : EltV X.prog X.w X.mg scope x elt Pz pb)
    (hs : ∀ v, genFold iter X.env v = pure v) (I : Inv X pins σ H s) (h : te σ H fun v H1 => ∃ (yl : Addr) (xs : List V), v = .ref yl ∧ SqT X.K H1 yl xs ∧ (∀ a ∈ xs, Pz a) ∧ GxR.TabG H1 P ∧ R xs H1)
    (hQ : ∀ xs H1 g s5, R xs H1 → ReadyV X pins σ H1 P xs pb g s5 → Q' (.ref g) s5) :
    wpAny (model X.prog X.w) X.A (eval (.GeneratorExp elt [⟨.Name x px, iter, [], 0⟩] scope gpos) X.env) Q' X.xe s := by
  refine wpAny_GeneratorExp_walksQ hr.hd S.co (closure_ok S.free) S.cell S.dot S.loc S.kind (by have := hr.dp; omega) ?_ hs
  refine thn (hi.run pins s σ H _ I h) fun xv s1 ⟨v, H1, I1, r1, q1⟩ => ?_
  obtain ⟨yl, xs, rfl, hyl, hPz, ⟨ps, hP, ht⟩, q1⟩ := q1
  obtain rfl : xv = Value.ref yl := r1
  obtain ⟨its, rv, hl, hz⟩ := I1.tuple hyl
  have hIL : s1.heap.IsTuple yl its.toArray := hl
  have hlen : its.length = xs.length := rv.length.symm
  have hat : ∀ (i : Nat) (v : Value), its.toArray[i]? = some v → ∃ a : V, xs[i]? = some a ∧ RelV a v := fun i v hv => by
    have hv2 : its[i]? = some v := by simpa using hv
    have hi2 : i < its.length := (List.getElem?_eq_some_iff.mp hv2).1
    obtain ⟨a, ha⟩ : ∃ a, xs[i]? = some a := ⟨xs[i]'(by omega), List.getElem?_eq_getElem _⟩
    obtain ⟨u, hu, ru⟩ := rv.get ha
    rw [hv2] at hu
    cases hu
    exact ⟨a, ha, ru⟩
  refine wpAny_pyIter_tuple hIL ?_
  generalize ho : ({ cls := .type "tuple_iterator", data := .fields #[.ref yl, .int 0 0] } : Obj) = o
  have hitr : (s1.heap.push o).IsTupleIter s1.heap.objs.size yl 0 := by
    subst ho
    exact ⟨_, Heap.get?_push_size _ rfl, rfl, rfl⟩
  have hylt : yl < s1.heap.objs.size := by
    obtain ⟨_, e, _⟩ := _root_.id hIL
    exact Heap.lt_size e
  have hPs : s1.heap.get? P = some { cls := .none, data := .fields ps } := I1.hok P _ hP
  have hPlt : P < s1.heap.objs.size := Heap.lt_size hPs
  have hP2 : (s1.heap.push o).get? P = some { cls := .none, data := .fields ps } := Heap.get?_push_of_some _ hPs
  have cd : PySem.W.CodeHd (s1.heap.push o) c P := TB.code.keeps fun b u e => Heap.get?_push_of_some _ (I1.bk b u e)
  have lim2 : (s1.heap.push o).NoLimit := I1.nolimit.push o
  obtain ⟨mb, hb1, hb2⟩ := I1.mod.blt
  have nsP : ∀ {a : Addr} {m : Str → Option Value}, X.base.Ns a m → a ≠ P := fun {a m} hn e => by
    obtain ⟨o', es, ep, ho', hd, _⟩ := hn
    have := I1.bk _ _ ho'
    rw [e, hPs] at this
    cases this
    cases hd
  have cont : ∀ (code : Value) (h3 : Heap) (tk : Nat) (ps' : Array Value), Heap.ExtBut P (s1.heap.push o) h3 → (s1.heap.push o).objs.size ≤ h3.objs.size → h3.get? P = some { cls := .none, data := .fields ps' } → (∃ more, ps' = ps ++ more) → TriplesOk ps'.toList →
      wpAny (model X.prog X.w) X.A (builtinsFor X.env.globals X.env.builtins) (fun bi s₄ =>
        ∃ Ia fp wr n₀ Pf St₀ pz F, Value.ref s1.heap.objs.size = .ref Ia ∧ (∀ A' : Around, A'.handled = none → Walks X.prog X.w A' Ia fp wr n₀ Pf St₀) ∧ St₀ 0 s₄.heap ∧ (∀ b ∈ fp, b < s₄.heap.objs.size) ∧ s₄.heap.NoLimit ∧ cStatics ∉ wr ∧
          (∀ href : Heap, (∀ b o, s₄.heap.get? b = some o → href.get? b = some o) →
            QuietGen X.prog X.w (genEnv scope (cloFrom X.env.cells scope.names []) s₄.heap.objs.size code bi X.env) x [] elt (List.range s₄.heap.objs.size) wr Pf pz F href) ∧
          (∀ a h₅ tk gs, gs.bare = true → s₄.heap.objs.size < a → h₅.objs.size = a + 1 → (∀ b o, s₄.heap.get? b = some o → h₅.get? b = some o) →
            WalksS X.prog X.w X.A.in4 a (a :: s₄.heap.objs.size :: List.range s₄.heap.objs.size) (s₄.heap.objs.size :: wr) (GenOnlyQ s₄.gens.size) (passing pz n₀ 0).length
              (fun j y => ∃ i, (passing pz n₀ 0)[j]? = some i ∧ F i y) (GenAt X.prog X.w X.A.in4 a s₄.gens.size s₄.heap.objs.size (List.range s₄.heap.objs.size) wr pz n₀ F) →
            GenAt X.prog X.w X.A.in4 a s₄.gens.size s₄.heap.objs.size (List.range s₄.heap.objs.size) wr pz n₀ F 0 { s₄ with gens := s₄.gens.push gs, toks := tk, heap := h₅ } →
            Q' (.ref a) { s₄ with gens := s₄.gens.push gs, toks := tk, heap := h₅ })) X.xe { s1 with heap := h3, toks := tk } := by
    intro code h3 tk ps' hx hsz hP3 hmore ht3
    obtain ⟨bm, ob, e1, e2, e3, e4, e5, e6, e7, e8⟩ := TB.bm
    have hcP : cStatics ≠ P := fun e => by
      obtain ⟨_, hns, _⟩ := I1.nolimit
      obtain ⟨o', es, ep, ho, hd, _⟩ := hns
      rw [e, hPs] at ho
      cases ho
      cases hd
    have hcl : cStatics < s1.heap.objs.size := let ⟨_, hns, _⟩ := I1.nolimit; hns.lt
    have sz2 : (s1.heap.push o).objs.size = s1.heap.objs.size + 1 := Heap.size_push ..
    have keep3 : ∀ b u, b ≠ P → s1.heap.get? b = some u → h3.get? b = some u := fun b u hb e => hx b u hb (Heap.get?_push_of_some _ e)
    refine wpAny_builtinsFor (m := X.mg) (by rw [I1.ok.glob]; exact ((I1.mod.glob.keeps I1.bk).push o).extBut hx TB.gP) e1 e2 (keep3 _ _ e4 (I1.bk _ _ e5)) e6 e7 e8 ?_
    have hylP : yl ≠ P := fun z => by
      obtain ⟨_, e, hc1, _, hd1⟩ := _root_.id hIL
      rw [z, hPs] at e
      cases e
      cases hd1
    have hIL3 : h3.IsTuple yl its.toArray := by
      obtain ⟨ob, e, r⟩ := _root_.id hIL
      exact ⟨ob, keep3 _ _ hylP e, r⟩
    have hItr3 : h3.IsTupleIter s1.heap.objs.size yl 0 := hitr.at fun u e => hx _ u (Nat.ne_of_gt hPlt) e
    refine ⟨s1.heap.objs.size, [s1.heap.objs.size, yl], [s1.heap.objs.size], its.toArray.size, (fun i v => its.toArray[i]? = some v), (fun i h => h.IsTupleIter s1.heap.objs.size yl i ∧ h.IsTuple yl its.toArray), (fun _ => true),
      (fun i y => ∃ a : V, xs[i]? = some a ∧ Tru X.prog X.w y (pb a)), rfl, (fun A' hA => Walks.tuple hA _ _ (Nat.ne_of_lt hylt) _), ⟨hItr3, hIL3⟩, ?_, lim2.extBut hx hcP, ?_, ?_, ?_⟩
    · intro b hb
      rcases List.mem_cons.mp hb with z | z
      · rw [z]
        show s1.heap.objs.size < h3.objs.size
        omega
      · rcases List.mem_cons.mp z with z | z
        · rw [z]
          have e9 : s1.heap.objs.size ≤ h3.objs.size := by omega
          exact Nat.lt_of_lt_of_le hylt e9
        · cases z
    · intro z
      rcases List.mem_cons.mp z with z | z
      · exact Nat.ne_of_lt hcl z
      · cases z
    · intro href hhref
      refine ⟨fun A' E' i v s₂ m₂ hA hPv hn hm hk => ?_, fun A' E' i v s₂ m₂ hA hPv hp hn hm hk => ?_⟩
      · simp only [List.forIn_nil]
        exact wpAny_pure ⟨rfl, GxR.keeps_refl _⟩
      · obtain ⟨a, ha, ra⟩ := hat i v hPv
        have nsK : ∀ {a : Addr} {m : Str → Option Value}, X.base.Ns a m → s₂.heap.Ns a m := fun {a m} hn0 => by
          have nP := nsP hn0
          obtain ⟨o', es, ep, ho', r⟩ := hn0
          have e1 := I1.bk _ _ ho'
          have hl := Heap.lt_size e1
          have e2 := hhref _ _ (keep3 _ _ nP e1)
          refine ⟨o', es, ep, hk a (List.mem_range.mpr ?_) ?_ _ e2, r⟩
          · have e9 : s1.heap.objs.size ≤ h3.objs.size := by omega
            exact Nat.lt_of_lt_of_le hl e9
          · intro z
            rcases List.mem_cons.mp z with z | z
            · rw [z] at hl; exact Nat.lt_irrefl _ hl
            · cases z
        have ge : GEnv X.mg (genEnv scope (cloFrom X.env.cells scope.names []) h3.objs.size code builtinsNs X.env) s₂ :=
          ⟨S.kind, by show s₂.heap.Ns X.env.globals X.mg; rw [I1.ok.glob]; exact nsK I1.mod.glob, mb, nsK hb1, hb2⟩
        refine wpAny_mono (hel _ A' E' a v s₂ m₂ rfl (hPz a (List.mem_of_getElem? ha)) ra ge hn hm) (fun y s3 r => ?_) fun _ _ e => e
        exact ⟨⟨a, ha, r.1⟩, r.2⟩
    · intro g h5 tk5 gs hgb hag hsz5 hk5 W5 hgat
      simp only [GxR.passing_true, List.length_range] at W5
      have hn5 : its.toArray.size = xs.length := by rw [List.size_toArray, hlen]
      rw [hn5] at W5 hgat
      refine hQ xs H1 g _ q1 ⟨_, _, _, _, _, W5.in4_1, hgat, ?_, fun s' hm => ?_⟩
      · intro j v sj Qj Ej hv hQj
        obtain ⟨i, hij, a, ha, e⟩ := hv
        obtain ⟨hj, ej⟩ := List.getElem?_eq_some_iff.mp hij
        rw [List.getElem_range] at ej
        subst ej
        rw [trV_some ha] at hQj
        exact e _ _ _ _ hQj
      · obtain ⟨more, em⟩ := hmore
        have nwr : ∀ b u, s1.heap.get? b = some u → b ∉ h3.objs.size :: [s1.heap.objs.size] := fun b u e hb => by
          have hl := Heap.lt_size e
          rcases List.mem_cons.mp hb with z | z
          · rw [z] at hl
            have h9 : (h3.objs.size : Nat) < s1.heap.objs.size := hl
            omega
          · rcases List.mem_cons.mp z with z | z
            · rw [z] at hl
              exact Nat.lt_irrefl _ hl
            · cases z
        have J := GxR.inv_tab (more := more) (h' := s'.heap) (g' := s'.gens) (d' := s'.drawn) (t' := s'.toks) I1 hP (fun b u hb e => hm.heap b u (nwr b u e) (hk5 b u (keep3 b u hb e)))
          (by rw [← em]; exact hm.heap P _ (nwr P _ hPs) (hk5 P _ hP3)) (AllBare.movedS (I1.bare.push hgb) hm)
        rw [GxR.sh_eta s1 s' hm.os] at J
        refine ⟨upd H1 P (.tbl (ps ++ more)), ⟨⟨ps ++ more, upd_same, by rw [← em]; exact ht3⟩, fun b hb => upd_ne hb⟩, J⟩
  refine ⟨lim2, ?_⟩
  cases hf : codeAmong gpos ps.toList with
  | none =>
    refine wpAny_genexprCodeX hcode (cd.code hP2 ht) (cd.tab hP2) hf fun c' h' tk hx hge hlt hco' _ htab' _ => ?_
    obtain ⟨o1, vs, f1, tf, fl, tg, inF, tx, tt, op, _, _, _, _, _, _, _, _, _, htr, _⟩ := hco'
    exact cont _ h' tk _ hx (Nat.le_trans hge (Nat.le_of_lt hlt)) htab'.2 ⟨_, rfl⟩ htr
  | some cv =>
    refine wpAny_genexprCode_hit hcode (cd.code hP2 ht) hf ?_
    exact cont cv (s1.heap.push o) s1.toks ps (Heap.ExtBut.refl _ _) (Nat.le_refl _) hP2 ⟨#[], by simp⟩ ht
/-- any(test for x in e), all(test for x in e), e a tuple; behind it the def's table may have grown -/
def tAnyV (K : PySem.W.Frag) (P : Addr) (Pz : V → Prop) (pb : V → Bool) (te : TE) : TE := fun σ H Q => te σ H fun v H1 => ∃ (yl : Addr) (xs : List V), v = .ref yl ∧ SqT K H1 yl xs ∧ (∀ a ∈ xs, Pz a) ∧ GxR.TabG H1 P ∧ ∀ H2, GxR.Tabbed P H1 H2 → Q (.bl (xs.any pb)) H2
def tAllV (K : PySem.W.Frag) (P : Addr) (Pz : V → Prop) (pb : V → Bool) (te : TE) : TE := fun σ H Q => te σ H fun v H1 => ∃ (yl : Addr) (xs : List V), v = .ref yl ∧ SqT K H1 yl xs ∧ (∀ a ∈ xs, Pz a) ∧ GxR.TabG H1 P ∧ ∀ H2, GxR.Tabbed P H1 H2 → Q (.bl (xs.all pb)) H2
theorem pe_anyV {c P : Addr} {elt iter : Expr} {x : Str} {px p pos gpos : Pos} {scope : Scope} {Pz : V → Prop} {pb : V → Bool} {te : TE} {k : Nat}
    (hr : Room k X.A) (hg : Gl X "any") (hm : X.mg "any" = none) (TB : GxR.TabB X.base X.mg c P) (hcode : X.env.code = .ref c) (S : GxR.GenS X.env scope x) (hi : PE X iter te) (hel : EltV X.prog X.w X.mg scope x elt Pz pb)
    (hs : ∀ v, genFold iter X.env v = pure v)
    (he : starEach [.GeneratorExp elt [⟨.Name x px, iter, [], 0⟩] scope gpos] X.env = (false, eval (.GeneratorExp elt [⟨.Name x px, iter, [], 0⟩] scope gpos) X.env) :: starEach [] X.env := by rfl) :
    PE X (.Call (.Name "any" p) [.GeneratorExp elt [⟨.Name x px, iter, [], 0⟩] scope gpos] [] pos) (tAnyV X.K P Pz pb te) := by
  refine ⟨fun pins s σ H Q I h => ?_⟩
  refine wpAny_Call_Name_kw (ld_blt I hg hm boot_any ?_)
  refine PyProof.Rows.callWith_builtin1 ?_ he (by rfl)
  rw [he]
  show wpAny _ _ (spliced ((false, eval (.GeneratorExp elt [⟨.Name x px, iter, [], 0⟩] scope gpos) X.env) :: backTo pos (starEach [] X.env))) _ _ s
  refine Calls.spliced_cons (gen_tupV (R := fun xs H1 => ∀ H2, GxR.Tabbed P H1 H2 → Q (.bl (xs.any pb)) H2) hr TB hcode S hi hel hs I h fun xs H1 g s5 hR hG => ?_)
  obtain ⟨fp, wr, G, F, St, W, hst, htr, hI⟩ := hG
  refine Calls.spliced_nil ?_
  refine call_any_T (W.self 0 _ _ _ hst ⟨g, fp, wr, G, _, F, St, _, rfl, W, hst, htr, fun s' hmv => ?_⟩)
  obtain ⟨H2, hT, J⟩ := hI s' hmv
  refine ⟨.bl _, H2, J, rfl, ?_⟩
  rw [any_trV xs pb]
  exact hR H2 hT
theorem pe_allV {c P : Addr} {elt iter : Expr} {x : Str} {px p pos gpos : Pos} {scope : Scope} {Pz : V → Prop} {pb : V → Bool} {te : TE} {k : Nat}
    (hr : Room k X.A) (hg : Gl X "all") (hm : X.mg "all" = none) (hb : bootBuiltins "all" = some (.builtin "all")) (TB : GxR.TabB X.base X.mg c P) (hcode : X.env.code = .ref c) (S : GxR.GenS X.env scope x) (hi : PE X iter te) (hel : EltV X.prog X.w X.mg scope x elt Pz pb)
    (hs : ∀ v, genFold iter X.env v = pure v)
    (he : starEach [.GeneratorExp elt [⟨.Name x px, iter, [], 0⟩] scope gpos] X.env = (false, eval (.GeneratorExp elt [⟨.Name x px, iter, [], 0⟩] scope gpos) X.env) :: starEach [] X.env := by rfl) :
    PE X (.Call (.Name "all" p) [.GeneratorExp elt [⟨.Name x px, iter, [], 0⟩] scope gpos] [] pos) (tAllV X.K P Pz pb te) := by
  refine ⟨fun pins s σ H Q I h => ?_⟩
  refine wpAny_Call_Name_kw (ld_blt I hg hm hb ?_)
  refine PyProof.Rows.callWith_builtin1 ?_ he (by rfl)
  rw [he]
  show wpAny _ _ (spliced ((false, eval (.GeneratorExp elt [⟨.Name x px, iter, [], 0⟩] scope gpos) X.env) :: backTo pos (starEach [] X.env))) _ _ s
  refine Calls.spliced_cons (gen_tupV (R := fun xs H1 => ∀ H2, GxR.Tabbed P H1 H2 → Q (.bl (xs.all pb)) H2) hr TB hcode S hi hel hs I h fun xs H1 g s5 hR hG => ?_)
  obtain ⟨fp, wr, G, F, St, W, hst, htr, hI⟩ := hG
  refine Calls.spliced_nil ?_
  refine call_all_T (W.self 0 _ _ _ hst ⟨g, fp, wr, G, _, F, St, _, rfl, W, hst, htr, fun s' hmv => ?_⟩)
  obtain ⟨H2, hT, J⟩ := hI s' hmv
  refine ⟨.bl _, H2, J, rfl, ?_⟩
  rw [all_trV xs pb]
  exact hR H2 hT
end
end VK
end

section
set_option Elab.async false
set_option linter.all false
set_option pp.maxSteps 1500
set_option maxRecDepth 100000
set_option maxHeartbeats 4000000
/-! elements of generator expressions over tuples of texts -/
namespace VK
open PySem PySem.Spec PyProof.Rows L2
theorem keeps_push (s : Shared) (o : Obj) (k : Nat) : Keeps s { s with heap := s.heap.push o, toks := k } := ⟨_, _, rfl, fun _ _ e => Heap.get?_push_of_some _ e⟩
theorem sliceMade_cut {a : Str} {t : Tok} {l u : Option (Int × Tok)} {Q : Value → Shared → Prop} {s : Shared} (h : (cutS a (l.map (·.1)) (u.map (·.1))).length ≤ sizeLine ∧ ∀ t' k, Q (.str (cutS a (l.map (·.1)) (u.map (·.1))) t') { s with toks := k }) : (sliceMade a t l u none).post Q s := by
  rw [← sliceText_cut] at h
  unfold PySem.StrLaws.sliceText at h
  exact post_val_or_str h
section
variable {prog : Program} {w : World} {mg : Str → Option Value} {scope : Scope} {x : Str}
theorem tru_bool (b : Bool) : Tru prog w (.bool b) b := fun A s Q E h => wpAny_truthy_bool (h s.toks (Nat.le_refl _))
theorem tru_str {a : Str} {t : Tok} (h : a.length ≤ sizeLine) : Tru prog w (.str a t) ((a.length : Int) != 0) := fun A s Q E q => by
  have hl := line63
  have hs : sizeLine = 16777216 := sizeLine_eq
  exact PySem.P.truthy_str (by omega) (q _ (by omega))
/-- a text of fit length, or an int -/
def ItemSI (v : V) : Prop := (∃ a : Str, v = .str a ∧ a.length ≤ sizeLine) ∨ ∃ i, v = .int i
def pbSI : V → Bool
  | .str a => (a.length : Int) != 0
  | _ => false
/-- isinstance(x, str) and x -/
theorem elt_isi {p1 p2 p3 p4 p5 p6 : Pos} (hk : scope.kind = .function) (hl : scope.names.lookup x = some .local) (h1 : scope.names.lookup ("isinstance" : Str) = some .globalImplicit) (h2 : scope.names.lookup ("str" : Str) = some .globalImplicit) (m1 : mg "isinstance" = none) (m2 : mg "str" = none)
    (hd : (x == ("__debug__" : Str)) = false := by decide) :
    EltV prog w mg scope x (.BoolOp .And [.Call (.Name "isinstance" p1) [.Name x p2, .Name "str" p3] [] p4, .Name x p5] p6) ItemSI pbSI := by
  intro cenv A' E' v u s₂ m₂ hs hz hr ge hn hm
  obtain ⟨mb, hb1, hb2⟩ := ge.b
  refine wpAny_And2 ?_
  refine wpAny_Call_Name_kw (Calls.Name_function_global ge.kind (by show cenv.scope.names.lookup _ = _; rw [hs]; exact h1) (Calls.loadGlobal_builtin ge.g m1 hb1 ((hb2 "isinstance" (by decide)).trans boot_isinstance) ?_) (by decide))
  refine PyProof.Rows.callWith_builtin1 ?_ rfl rfl
  show wpAny _ _ (spliced [(false, eval (.Name x p2) cenv), (false, eval (.Name "str" p3) cenv)]) _ _ s₂
  refine Calls.spliced_cons (wpAny_Name (wpAny_loadName_local (by rw [hs]; exact hk) (show cenv.scope.names.lookup x = some .local by rw [hs]; exact hl) hn hm ?_) hd)
  refine Calls.spliced_cons (Calls.Name_function_global ge.kind (by show cenv.scope.names.lookup _ = _; rw [hs]; exact h2) (Calls.loadGlobal_builtin ge.g m2 hb1 ((hb2 "str" (by decide)).trans boot_str) ?_) (by decide))
  refine Calls.spliced_nil ?_
  rcases hz with ⟨a, rfl, ha⟩ | ⟨i, rfl⟩
  · obtain ⟨t, rfl⟩ := hr
    refine IsiPair.str_str (wpAny_truthy_bool ?_)
    rw [if_pos rfl]
    refine wpAny_Name (wpAny_loadName_local (by rw [hs]; exact hk) (show cenv.scope.names.lookup x = some .local by rw [hs]; exact hl) hn hm ?_) hd
    exact ⟨tru_str ha, GxR.keeps_refl _⟩
  · obtain ⟨t, rfl⟩ := hr
    refine IsiPair.int_str (wpAny_truthy_bool ?_)
    rw [if_neg (by decide)]
    exact ⟨tru_bool false, GxR.keeps_tok _ _⟩
/-- 'k' in x[:-1] -/
def pbIn (k : Str) : V → Bool
  | .str a => Txt.contains (cutS a none (some (-1))) k
  | _ => false
def ItemS (v : V) : Prop := ∃ a : Str, v = .str a ∧ a.length ≤ sizeLine
theorem elt_in {k : Str} {j j2 : Nat} {p1 p2 p3 p4 p5 p6 p7 : Pos} (hk : scope.kind = .function) (hl : scope.names.lookup x = some .local) (hd : (x == ("__debug__" : Str)) = false := by decide) :
    EltV prog w mg scope x (.Compare (.Constant (.str k) j p1) [.In] [.Subscript (.Name x p2) (.Slice none (some (.UnaryOp .USub (.Constant (.int 1) j2 p3) p4)) none p5) p6] p7) ItemS (pbIn k) := by
  intro cenv A' E' v u s₂ m₂ hs hz hr ge hn hm
  obtain ⟨a, rfl, ha⟩ := hz
  obtain ⟨t, rfl⟩ := hr
  refine wpAny_Compare1 ?_
  refine Calls.Constant_str ?_
  refine wpAny_Subscript_str_slice ?_
  refine wpAny_Name (wpAny_loadName_local (by rw [hs]; exact hk) (show cenv.scope.names.lookup x = some .local by rw [hs]; exact hl) hn hm ?_) hd
  rw [evalPart_none, evalPart_some]
  refine wpAny_pure ?_
  refine UnaryOp_ (wpAny_Constant_int (neg_int ?_))
  refine ⟨a, t, none, some (-1, _), rfl, rfl, rfl, ?_⟩
  refine sliceMade_cut ?_
  refine ⟨Nat.le_trans (cutS_length a _ _) ha, fun t' kk => ?_⟩
  refine PySem.P.in_str ?_
  exact ⟨tru_bool _, ⟨_, _, rfl, fun b o q => Heap.get?_push_of_some _ q⟩⟩
/-- x[-1] == 'k', x not empty -/
def pbLast (k : Str) : V → Bool
  | .str a => match a.cps.toList.getLast? with
    | some c => ([c] == k.cps.toList)
    | none => false
  | _ => false
def ItemS1 (v : V) : Prop := ∃ a : Str, v = .str a ∧ a.length ≤ sizeLine ∧ a.length ≠ 0
theorem elt_last {k : Str} {j j2 : Nat} {p1 p2 p3 p4 p5 p6 : Pos} (hk : scope.kind = .function) (hl : scope.names.lookup x = some .local) (hd : (x == ("__debug__" : Str)) = false := by decide) :
    EltV prog w mg scope x (.Compare (.Subscript (.Name x p1) (.UnaryOp .USub (.Constant (.int 1) j2 p2) p3) p4) [.Eq] [.Constant (.str k) j p5] p6) ItemS1 (pbLast k) := by
  intro cenv A' E' v u s₂ m₂ hs hz hr ge hn hm
  obtain ⟨a, rfl, ha, hne⟩ := hz
  obtain ⟨t, rfl⟩ := hr
  refine wpAny_Compare1 ?_
  refine Subscript_ ?_
  refine wpAny_Name (wpAny_loadName_local (by rw [hs]; exact hk) (show cenv.scope.names.lookup x = some .local by rw [hs]; exact hl) hn hm ?_) hd
  refine UnaryOp_ (wpAny_Constant_int (neg_int ?_))
  have hln : a.cps.toList.length = a.length := Array.length_toList
  rcases List.eq_nil_or_concat a.cps.toList with e | ⟨l, c, e⟩
  · exfalso
    rw [e] at hln
    exact hne hln.symm
  · rw [List.concat_eq_append] at e
    have hat : atI a.cps.toList (-1) = some c := by rw [e]; exact atI_last l c
    obtain ⟨jj, h1, h2, h3, h4, h5⟩ := atI_get hat
    rw [hln] at h1 h4 h5
    have hpb : pbLast k (.str a) = ([c] == k.cps.toList) := by
      show (match a.cps.toList.getLast? with
        | some c => ([c] == k.cps.toList)
        | none => false) = _
      rw [e, List.getLast?_concat]
    refine tail_any (typeIs_str _ a t) slot_str_getitem.lookup (getItem_str (c := c) (by decide) (by rw [h1]; simpa using h2) ?_) (by with_unfolding_all rfl)
    refine Calls.Constant_str ?_
    refine PySem.P.eq_str ⟨?_, _, _, rfl, fun b o q => q⟩
    rw [hpb]
    exact tru_bool _
end
end VK
end

section
set_option Elab.async false
set_option linter.all false
set_option pp.maxSteps 1500
set_option maxRecDepth 100000
set_option maxHeartbeats 4000000
namespace VK
open PySem L2
/-! data that Python's == compares: fit -/
def OkD (n : Nat) (d : PyData) : Prop := d.canLay0 = true ∧ d.depth ≤ n
theorem OkD.shaped {n : Nat} {d : PyData} (h : OkD n d) (hn : n ≤ 64) : SeqAt.shaped d = true := by
  show (d.canLay0 && decide (d.depth ≤ 64)) = true
  rw [h.1, Bool.true_and]
  exact decide_eq_true (Nat.le_trans h.2 hn)
theorem okD_map {α : Type} {f : α → PyData} {n : Nat} : ∀ {l : List α}, (∀ x ∈ l, OkD n (f x)) → PyData.canLayAll0 (l.map f) = true ∧ PyData.depthAll (l.map f) ≤ n
  | [], _ => ⟨rfl, by simp [PyData.depthAll]⟩
  | x :: l, h => by
    obtain ⟨h1, h2⟩ := okD_map (l := l) fun y hy => h y (List.mem_cons_of_mem _ hy)
    obtain ⟨h3, h4⟩ := h x (List.mem_cons_self ..)
    refine ⟨?_, ?_⟩
    · show ((f x).canLay0 && PyData.canLayAll0 (l.map f)) = true
      rw [h3, h1]; rfl
    · simp only [List.map_cons, PyData.depthAll]
      omega
theorem okD_tup {α : Type} {f : α → PyData} {n : Nat} {l : List α} (h : ∀ x ∈ l, OkD n (f x)) : OkD (n + 1) (.tuple (l.map f)) := by
  obtain ⟨h1, h2⟩ := okD_map h
  refine ⟨h1, ?_⟩
  simp only [PyData.depth]
  omega
theorem okD_int (i : Int) : OkD 0 (.int i) := ⟨rfl, by simp [PyData.depth]⟩
theorem okD_str {x : Str} (h : PyData.strOk x = true) : OkD 0 (.str x) := ⟨h, by simp [PyData.depth]⟩
theorem okD_three {n : Nat} {a b c : PyData} (ha : OkD n a) (hb : OkD n b) (hc : OkD n c) : OkD (n + 1) (.tuple [a, b, c]) := by
  refine ⟨?_, ?_⟩
  · show (a.canLay0 && (b.canLay0 && (c.canLay0 && true))) = true
    rw [ha.1, hb.1, hc.1]; rfl
  · simp only [PyData.depth, PyData.depthAll]
    have := ha.2
    have := hb.2
    have := hc.2
    omega
theorem okD_two {n : Nat} {a b : PyData} (ha : OkD n a) (hb : OkD n b) : OkD (n + 1) (.tuple [a, b]) := by
  refine ⟨?_, ?_⟩
  · show (a.canLay0 && (b.canLay0 && true)) = true
    rw [ha.1, hb.1]; rfl
  · simp only [PyData.depth, PyData.depthAll]
    have := ha.2
    have := hb.2
    omega
theorem okD_mono {n m : Nat} {d : PyData} (h : OkD n d) (e : n ≤ m) : OkD m d := ⟨h.1, Nat.le_trans h.2 e⟩
theorem okD_pairs (ps : List (Nat × Nat)) : OkD 2 (pairsD ps) := okD_tup fun p _ => okD_two (okD_int _) (okD_int _)
theorem okD_lines {ls : List Str} (h : ∀ x ∈ ls, PyData.strOk x = true) : OkD 1 (linesD ls) := okD_tup fun x hx => okD_str (h x hx)
theorem okD_hunks {hs : List Hunk} (h : ∀ x ∈ hs, (∀ y ∈ x.gone, PyData.strOk y = true) ∧ ∀ y ∈ x.come, PyData.strOk y = true) : OkD 3 (hunksD hs) :=
  okD_tup fun x hx => okD_three (okD_mono (okD_int _) (Nat.zero_le _)) (okD_lines (h x hx).1) (okD_lines (h x hx).2)
theorem ne_same {K : PySem.W.Frag} {H : Hp} {x y : V} {n : Nat} {d : PyData} {Q : VK} (h1 : Dp K H x d) (h2 : Dp K H y d) (ok : OkD n d) (hn : n ≤ 64) (q : Q (.bl false) H) : rNeD K x y H Q := by
  refine ⟨d, d, h1, h2, ok.shaped hn, ok.shaped hn, ?_⟩
  rw [SeqAt.eqv_refl d ok.1]
  exact q
theorem eq_same {K : PySem.W.Frag} {H : Hp} {x y : V} {n : Nat} {d : PyData} {Q : VK} (h1 : Dp K H x d) (h2 : Dp K H y d) (ok : OkD n d) (hn : n ≤ 64) (q : Q (.bl true) H) : rEqD K x y H Q := by
  refine ⟨d, d, h1, h2, ok.shaped hn, ok.shaped hn, ?_⟩
  rw [SeqAt.eqv_refl d ok.1]
  exact q
/-- the changes' lines are lines of the two rows -/
theorem cutL_sub {α : Type} {xs : List α} {i h : Nat} {x : α} (hx : x ∈ cutL xs i h) : x ∈ xs := List.mem_of_mem_drop (List.mem_of_mem_take hx)
theorem hunksF_sub {one two : List Str} : ∀ {r : List (Nat × Nat)} {i j : Nat} {h : Hunk}, h ∈ hunksF one two i j r → (∀ y ∈ h.gone, y ∈ one) ∧ ∀ y ∈ h.come, y ∈ two
  | [], _, _, _, hm => nomatch hm
  | (a, b) :: r, i, j, h, hm => by
    rw [hunksF] at hm
    rcases List.mem_append.mp hm with hm | hm
    · split at hm
      · rw [List.mem_singleton.mp hm]
        exact ⟨fun y hy => cutL_sub hy, fun y hy => cutL_sub hy⟩
      · cases hm
    · exact hunksF_sub hm
/-! the law's heaps -/
theorem StAt.tk {K : PySem.W.Frag} {H H' : Hp} {st sc : Addr} {ns : List Int} (h : StAt K H st sc ns) (s : Sv st H H') : TK K H H' := fun a xs q => by
  obtain ⟨s0, p, s3, e, _⟩ := h.at_
  rcases q with q | q
  · have n : a ≠ st := by
      rintro rfl
      rcases q with q | ⟨o, q⟩
      · rw [e] at q; cases q
      · rw [e] at q; cases q
    exact .inl (s.rd q n)
  · exact .inr q
end VK
end

section
set_option Elab.async false
set_option linter.all false
set_option pp.maxSteps 1500
set_option maxRecDepth 100000
set_option maxHeartbeats 4000000
namespace VK
open PySem PyProof.Rows L2
/-- a def whose code object is known -/
structure FunC (K : PySem.W.Frag) (x qual : Str) (st : Stmt) (f c : Addr) (fd : FuncData) : Prop where
  ex : ∃ (oc : Value) (od : Option Addr) (kV doc pm : Value) (an : Option Addr) (ct : Value) (osl : Array (Option Value)),
    fd = PySem.W.fnOf x qual (defArgs st) (defBody st) (defScope st) .none kV doc pm an (.ref c) ct ∧ K.lookup f = some ⟨oc, od, .func fd, osl⟩ ∧ PySem.W.codeIn K (.ref c) qual = true
  kp : PySem.W.keepIn K (.ref f) = true
section
variable {P : Program} {w : World} {K : PySem.W.Frag} {mg : Str → Option Value} {base : Heap}
theorem FunC.ok {x qual : Str} {st : Stmt} {f c : Addr} {fd : FuncData} {N ps : List Str} {k : Nat} {sp : Sp} (F : FunC K x qual st f c fd) (S : FnScope N ps (defScope st)) (len : ∀ vs H Q E, sp vs H Q E → vs.length = ps.length)
    (hbody : ∀ (A : Around) (outer : List Env) (s : Shared) (H : Hp) (vs : List V) (Q : VK) (E : XK), Room k (A.deeper (envOfC qual (defScope st) s.heap.objs.size f (.ref c))) → sp vs H Q E →
      ∃ t, PSs (cxOf CX0 P w K mg base N qual (defScope st) f (.ref c) A outer s H E).nox (defBody st) t ∧ t { nx := fun _ H' => Q .non H', rt := Q } (start N vs) H) : FnOk P w K mg base CX0 (k + 1) f fd ps sp := by
  obtain ⟨oc, od, kV, doc, pm, an, ct, osl, rfl, lk, hcd⟩ := F.ex
  refine fn_of lk hcd S len fun A outer s H vs Q E hr hsp => ?_
  obtain ⟨t, h, q⟩ := hbody A outer s H vs Q E hr hsp
  exact ⟨t, h.nox, q⟩
end
theorem gen_s {env : Env} {scope : Scope} {x : Str} (k : scope.kind = .function) (co : scope.isCoroutine = false) (h : scope.names.all (fun y => match y.2 with | .cell => false | .free => false | _ => true) = true) (d : scope.names.lookup (".0" : Str) = some NameKind.local) (l : scope.names.lookup x = some .local) : GxR.GenS env scope x := by
  refine ⟨k, co, fun y hy e => ?_, d, l, fun y hy e => ?_⟩
  · have q := List.all_eq_true.mp h y hy
    rw [e] at q; cases q
  · have q := List.all_eq_true.mp h y hy
    rw [e] at q; cases q
theorem ty_of_sqt {K : PySem.W.Frag} {H : Hp} {a : Addr} {xs : List V} (h : SqT K H a xs) : TyX K H (.ref a) (.type "tuple") := by
  rcases h with (h | ⟨o, h⟩) | ⟨o, its, n, hk, hc, _⟩
  · exact .base (.tup h)
  · exact .fTuple h
  · exact .kTuple hk hc
theorem sv_tab {Pt : Addr} {H H' : Hp} (h : GxR.Tabbed Pt H H') : Sv Pt H H' := fun a o n e => by rw [h.2 a n]; exact e
theorem sv_sqt {K : PySem.W.Frag} {Pt : Addr} {H H' : Hp} (s : Sv Pt H H') (t : GxR.TabG H Pt) {a : Addr} {xs : List V} (h : SqT K H a xs) : SqT K H' a xs := by
  rcases h with h | h
  · have n : a ≠ Pt := by
      rintro rfl
      obtain ⟨ps, e, _⟩ := t
      rcases h with h | ⟨o, h⟩
      · rw [e] at h; cases h
      · rw [e] at h; cases h
    exact .inl (s.rd h n)
  · exact .inr h
end VK
end

section
set_option Elab.async false
set_option linter.all false
set_option pp.maxSteps 1500
set_option maxRecDepth 100000
set_option maxHeartbeats 4000000
/-! the class Conflict: __init__(self, paths) says super().__init__(text), then self.paths = paths; after the worked text 42 and KE.KExcSuper -/
namespace PySem
namespace CfX
open PySem.W PySem.Calls PyProof.Rows PySem.HandSPX
def iA : Arguments := { posonlyargs := [], args := [{ arg := "self", annotation := none, pos := ⟨8, 17, 8, 21⟩ }, { arg := "paths", annotation := none, pos := ⟨8, 23, 8, 28⟩ }], vararg := none, kwonlyargs := [], kw_defaults := [], kwarg := none, defaults := [] }
abbrev msgC : Str := "changes do not go together"
def iB : List Stmt := [.Expr (.Call (.Attribute (.Call (.Name "super" ⟨9, 8, 9, 13⟩) [] [] ⟨9, 8, 9, 15⟩) "__init__" ⟨9, 8, 9, 24⟩) [.Constant (.str msgC) 0 ⟨9, 25, 9, 53⟩] [] ⟨9, 8, 9, 54⟩) ⟨9, 8, 9, 54⟩, .Assign [.Attribute (.Name "self" ⟨10, 8, 10, 12⟩) "paths" ⟨10, 8, 10, 18⟩] (.Name "paths" ⟨10, 21, 10, 26⟩) ⟨10, 8, 10, 26⟩]
def iS : Scope := { kind := .function, names := [(PySem.Str.ofString "self", .local), (PySem.Str.ofString "paths", .local), (PySem.Str.ofString "__class__", .free), (PySem.Str.ofString "super", .globalImplicit)], isGenerator := false, isCoroutine := false, more := [] }
theorem iS_cell : ∀ y ∈ iS.names, y.2 ≠ .cell := by decide +kernel
theorem iS_loc {u v : Value} : ∀ y ∈ [(("self" : Str), u), ("paths", v)], iS.names.lookup y.1 = some .local := fun y hy => by
  rcases List.mem_cons.mp hy with rfl | hy
  · rfl
  · rw [List.mem_singleton.mp hy]; rfl
/-- what the written part says of Conflict, at C, and of its __init__, at fI -/
structure CfTxt (prog : Program) (K : Frag) (mg : Str → Option Value) (C fI : Addr) : Prop where
  gC : mg "Conflict" = some (.ref C)
  cls : ∃ nm q N bs bm sn sub ab col dd k0 k1 k2 k3 k5, K.lookup C = some (excClassObj nm q C N bs bm true sn sub ab col dd k0 k1 k2 k3 k5 "ValueError.__new__") ∧ refsVE bm = true
  sa : findIn K (.ref C) "__setattr__" = some (some (.builtin "object.__setattr__"))
  ga : findIn K (.ref C) "__getattribute__" = some (some (.builtin "BaseException.__getattribute__"))
  gg : findIn K (.ref C) "__getattr__" = some none
  noN : findIn K (.ref C) "paths" = some none
  iC : findIn K (.ref C) "__init__" = some (some (.ref fI))
  tC : typeIn K (.ref fI) = some (.type "function")
  kC : keepIn K (.ref C) = true
  exC : subIn K (.ref C) (.type "BaseException") = some true
  hB : subIn K (.ref C) (.type "ValueError") = some true
  hCC : subIn K (.ref C) (.ref C) = some true
  tyC : typeIn K (.ref C) = some (.type "type")
  hdC : hasDictIn K C = true
  te : exmOne K (.ref C) (.ref C) = some true
  sup : mg "super" = none
  tp : nsIn K cStatics "thirdparty.any" = some none
  along : ks_superIn K C C "__init__" = some (some (.builtin "ValueError.__init__"))
  htop : (prog.main.scope.names.lookup ("super" : Str)).isSome = false
  fn : ∃ (oc : Value) (od : Option Addr) (doc pm : Value) (an : Option Addr) (cda cc : Addr) (ct : Value) (osl : Array (Option Value)),
    K.lookup fI = some ⟨oc, od, .func (fnX "__init__" "Conflict.__init__" iA iB iS [("__class__", cc)] .none .none doc pm an (.ref cda) ct), osl⟩ ∧ codeIn K (.ref cda) "Conflict.__init__" = true ∧
    (∃ (ccl : Value) (cdd : Option Addr) (vs : Array Value) (ccs : Array (Option Value)) (file : Str) (tf : Tok), K.lookup cda = some ⟨ccl, cdd, .fields vs, ccs⟩ ∧ vs[2]? = some (.str file tf) ∧ ((prog.main.file : Str) == file) = true) ∧
    ∃ (cl : Value) (cld : Option Addr) (csl : Array (Option Value)), K.lookup cc = some ⟨cl, cld, .cell (some (.ref C)), csl⟩
theorem one_size (v : Value) : [v].length ≤ sizeLine := by
  rw [sizeLine_eq]
  exact (by decide : 1 ≤ 16777216)
/-- what __init__ leaves of a fresh exception at x -/
structure InitEnd (h h' : Heap) (x C dx t1 : Addr) (v : Value) : Prop where
  keep : ∀ b o, b ≠ x → h.get? b = some o → h'.get? b = some o
  obj : h'.get? x = some { cls := .ref C, dict := some dx, data := .fields #[.ref t1, .none, .none, .none, .bool false, .none] }
  dbig : h.objs.size ≤ dx
  dne : dx ≠ x
  ns : h'.Ns1 dx (fun y => if y = "paths" then some v else none)
/-- a made Conflict -/
structure OwnMade (h h' : Heap) (e C d : Addr) (v : Value) : Prop where
  keep : ∀ b o, h.get? b = some o → h'.get? b = some o
  new : h.objs.size ≤ e
  obj : ∃ t1, h'.get? e = some { cls := .ref C, dict := some d, data := .fields #[.ref t1, .none, .none, .none, .bool false, .none] }
  dbig : h.objs.size ≤ d
  dne : d ≠ e
  ns : h'.Ns1 d (fun y => if y = "paths" then some v else none)
section
variable {prog : Program} {w : World} {A : Around} {E : Value → Shared → Prop} {h : Heap} {g : Array GenState} {d : Drawn} {t : Nat} {os : OsState}
variable {nm q : Str} {C N : Addr} {bs bm : List Value} {hdct : Bool} {sn : List Str} {sub : List Value} {ab : Bool} {col : Option Bool} {dd : Option Addr} {k0 k1 k2 k3 k5 : Option Value}
/-- the bound ValueError.__init__ called -/
theorem call_mw {u e t0 : Addr} {rest : List Value} {Q : Value → Shared → Prop}
    (hC : h.get? C = some (excClassObj nm q C N bs bm hdct sn sub ab col dd k0 k1 k2 k3 k5 "ValueError.__new__")) (he : h.get? e = some (excO C t0)) (hu : h.get? u = some (kxs_mw "ValueError.__init__" e)) (hrest : rest.length ≤ sizeLine)
    (hq : ∀ h' t1, (∀ b o, b ≠ e → h.get? b = some o → h'.get? b = some o) → h.objs.size ≤ h'.objs.size → h'.get? e = some (excO C t1) → Q .none ⟨h', g, d, t, os⟩) :
    wpAny (model prog w) A (call (.ref u) rest) Q E ⟨h, g, d, t, os⟩ := by
  refine wpAny_call (codeAny_of_tree ?_)
  show wpAny _ A.in1 (callAny (.ref u) ⟨rest, []⟩) _ _ _
  simp only [callAny]
  refine wpAny_bind (wpAny_load hu ?_)
  simp only [kxs_mw, show (Value.type "method-wrapper" == Value.type "method" || Value.type "method-wrapper" == Value.type "builtin_function_or_method" || Value.type "method-wrapper" == Value.type "method-wrapper") = true by decide, if_true]
  refine W.KFB.if_so (by decide) ?_
  refine wpAny_bind (ESX.check_bound F.excBase_ValueError hC he rfl ?_)
  refine wpAny_bind (wpAny_pure (wpAny_pure ?_))
  refine ⟨Code.quiet_builtin _ (by decide +kernel), codeAny_builtin F.excBase_ValueError.initEntry ?_⟩
  rw [Around.under_plainId F.excBase_ValueError.init.plain _]
  wp_walk
  refine hq _ h.objs.size (fun b o hb ho => ?_) ?_ ?_
  · rw [Heap.get?_update_other _ _ (Ne.symm hb)]
    exact Heap.get?_push_of_some _ ho
  · rw [Heap.size_update, Heap.size_push]
    exact Nat.le_succ _
  · rw [Heap.get?_update_self _ (Heap.get?_push_of_some _ he) rfl]
    rfl
end
section
variable {prog : Program} {w : World} {A : Around} {E : Value → Shared → Prop} {R : Result → Shared → Prop} {s : Shared} {K : Frag} {mg : Str → Option Value} {C fI : Addr}
theorem cf_init (T : CfTxt prog K mg C fI) {x t0 : Addr} {v : Value} (X : K.In s.heap) (G : s.heap.Ns mainGlobals mg) (Bt : ∃ mb, s.heap.Ns builtinsNs mb ∧ ∀ y : Str, y ≠ "__name__" → mb y = bootBuiltins y) (hlim : s.heap.NoLimit) (hx : s.heap.get? x = some (excO C t0)) (hnx : K.lookup x = none) (hroom : A.depth < recursionLimit)
    (hq : ∀ h' tk dx t1, InitEnd s.heap h' x C dx t1 v → R (.ok (.ret .none)) { s with heap := h', toks := tk }) :
    codeAny (model prog w) A (.call (.ref fI) ⟨[.ref x, v], []⟩) R s := by
  obtain ⟨oc, od, doc, pm, an, cda, cc, ct, osl, ho, hcd, ⟨ccl, cdd, cvs, ccs, file, tf, hcode, hvs, hfile⟩, cl, cld, csl, hcell⟩ := T.fn
  obtain ⟨nm, q, N, bs, bm, sn, sub, ab, col, dd, k0, k1, k2, k3, k5, hC, hbm⟩ := T.cls
  obtain ⟨cd, ecd⟩ : ∃ cd : ClassData, cd = { name := nm, bases := bs, mro := .ref C :: bm, ns := N, qualname := q, hasDict := true, slotNames := sn, subclasses := sub, abstract := ab, collection := col, hasDel := false } := ⟨_, rfl⟩
  have hcl : clsIn K C = some cd := by rw [ecd]; unfold clsIn; rw [hC] <;> rfl
  obtain ⟨mb, hb1, hb2⟩ := Bt
  have hxC : x ≠ C := fun e => by rw [e, hC] at hnx; cases hnx
  refine ks_codeAny_call_defAt (fd := fnX "__init__" "Conflict.__init__" iA iB iS [("__class__", cc)] .none .none doc pm an (.ref cda) ct) (body := iB) (binds := [("self", .ref x), ("paths", v)])
    hroom (X _ _ ho) rfl hlim (codeRec_of X hcd) rfl (BindsTo.of_eq (by first | rfl | with_unfolding_all rfl)) (fun y hy => iS_cell y hy) (fun y hy => iS_loc y hy) (fun h₁ hn k => ?_) rfl rfl rfl
  obtain ⟨hp, g, dr, tk, os⟩ := s
  have X₁ : K.In h₁ := X.keeps k
  have hx₁ : h₁.get? x = some (excO C t0) := k _ _ hx
  have hCc : ∃ oD, h₁.get? C = some oD ∧ oD.data = .cls cd := by
    refine ⟨_, X₁ _ _ hC, ?_⟩
    rw [ecd]
  obtain ⟨oD, hD1, hD2⟩ := hCc
  refine ks_wpAt_execs_cons (ks_wpAt_Expr_any (ks_wpAt_MethodCall ?_))
  refine ks_wpAt_super_base (by rfl) (by rfl) (by decide +kernel) rfl (X₁ _ _ ho) rfl rfl rfl (X₁ _ _ hcode) rfl hvs hfile T.htop ?_
  refine ks_loadName_global (by rfl) (by rfl) (loadGlobal_builtin (G.keeps k) T.sup (hb1.keeps k) ((hb2 "super" (by decide)).trans (by rfl)) ⟨rfl, ?_⟩)
  refine wpAny_loadName_free (by rfl) (by rfl) rfl ⟨_, X₁ _ _ hcell, rfl⟩ ?_
  refine wpAny_loadName_local (by rfl) (by rfl) hn (v := .ref x) (by rfl) ?_
  refine ks_wpAny_isType_cls hD1 hD2 ⟨rfl, ?_⟩
  refine ks_wpAny_call_super hD1 hD2 hx₁ rfl (fun c e => by cases e) (looks_subIn X₁ T.hCC) (fun h₂ e₂ k₂ => ?_)
  have X₂ : K.In h₂ := X₁.keeps k₂
  have hx₂ := k₂ _ _ hx₁
  have I₂ : InstAt h₂ x (excO C t0) C none := ⟨hx₂, rfl, rfl, trivial⟩
  have hal : alongIn K "__init__" ((cd.mro.dropWhile (· != .ref C)).drop 1) = some (some (.builtin "ValueError.__init__")) := by
    have := T.along
    unfold ks_superIn at this
    rw [hcl] at this
    exact this
  refine kxs_getMethod kxs_ValueError e₂ (looks_opaque X₂ T.tp) (l₀ := cd.mro) (fun A Q E s k q => wpAny_bind ((looks_clsIn X₂ hcl) A _ E s k (wpAny_pure q))) rfl X₂ hal (I₂.type.andThen (looks_subIn X₂ T.hB)) hxC (by decide +kernel) ?_
  have k₃ : ∀ b o, h₂.get? b = some o → (h₂.push (kxs_mw "ValueError.__init__" x)).get? b = some o := fun b o e => Heap.get?_push_of_some _ e
  have hu : (h₂.push (kxs_mw "ValueError.__init__" x)).get? h₂.objs.size = some (kxs_mw "ValueError.__init__" x) := Heap.get?_push_at rfl rfl
  obtain ⟨h₃, e₃⟩ : ∃ h₃, h₃ = h₂.push (kxs_mw "ValueError.__init__" x) := ⟨_, rfl⟩
  rw [← e₃] at k₃ hu ⊢
  refine kxs_callWith (i := "ValueError.__init__") (x := x) (by rfl) (evalArgs_plain ?_)
  show wpAny _ _ (spliced [(false, eval (.Constant (.str msgC) 0 ⟨9, 25, 9, 53⟩) _)]) _ _ _
  refine Calls.spliced_cons (Calls.Constant_str ?_)
  refine Calls.spliced_nil ⟨hu, ?_⟩
  refine call_mw (k₃ _ _ (k₂ _ _ (X₁ _ _ hC))) (k₃ _ _ hx₂) hu (one_size _) (fun h₄ t1 k₄ z₄ hx₄ => ?_)
  -- self.paths = paths
  have kx : ∀ b o, b ≠ x → h₁.get? b = some o → h₄.get? b = some o := fun b o hb e => k₄ b o hb (k₃ _ _ (k₂ _ _ e))
  have X₄ : K.In h₄ := fun a o e => kx a o (fun z => by rw [z, hnx] at e; cases e) (X₁ a o e)
  have hxL : hp.objs.size ≠ x := Nat.ne_of_gt (Heap.lt_size hx)
  have hn₄ : h₄.Ns hp.objs.size (fun y => ([(("self" : Str), Value.ref x), ("paths", v)]).reverse.lookup y) := by
    obtain ⟨o, es, ep, e, r⟩ := hn
    exact ⟨o, es, ep, kx _ _ hxL e, r⟩
  refine wpAt_of_wpAny ?_
  refine wpAny_execs_cons (plainObj_wpAny_Assign_Attribute ?_)
  refine ldc (by rfl) (by rfl) hn₄ (v := v) (by rfl) (ldc (by rfl) (by rfl) hn₄ (v := .ref x) (by rfl) ?_)
  refine set_plain X₄ (ox := excO C t1) (od := none) ⟨hx₄, rfl, rfl, trivial⟩ T.sa ?_
  refine exc_osa X₄ hx₄ hcl (by rw [ecd]; exact hbm) (by rw [ecd]) T.noN (fun h₅ tk₅ dx k₅ dn dne hx₅ hn₅ => ?_)
  show wpAny _ _ (execs _ _) _ _ _
  have z1 : hp.objs.size < h₄.objs.size := hn₄.lt
  exact wpAny_execs_nil (hq h₅ tk₅ dx t1 ⟨fun b o hb e => k₅ b o hb (kx b o hb (k b o e)), hx₅, Nat.le_of_lt (Nat.lt_of_lt_of_le z1 dn), dne, hn₅⟩)
theorem cf_made (T : CfTxt prog K mg C fI) {v : Value} (X : K.In s.heap) (G : s.heap.Ns mainGlobals mg) (Bt : ∃ mb, s.heap.Ns builtinsNs mb ∧ ∀ y : Str, y ≠ "__name__" → mb y = bootBuiltins y) (hlim : s.heap.NoLimit) (hroom : A.depth + 1 < recursionLimit)
    (hq : ∀ h' tk e d, OwnMade s.heap h' e C d v → R (.ok (.ret (.ref e))) { s with heap := h', toks := tk }) :
    codeAny (model prog w) A (.call (.ref C) ⟨[v], []⟩) R s := by
  obtain ⟨nm, q, N, bs, bm, sn, sub, ab, col, dd, k0, k1, k2, k3, k5, hC, hbm⟩ := T.cls
  obtain ⟨hp, g, dr, tk, os⟩ := s
  obtain ⟨mb, hb1, hb2⟩ := Bt
  have k : ∀ b o, hp.get? b = some o → ((hp.push (kdv_tup [v])).push (excO C hp.objs.size)).get? b = some o := fun b o e => Heap.get?_push_of_some _ (Heap.get?_push_of_some _ e)
  have hget : ((hp.push (kdv_tup [v])).push (excO C hp.objs.size)).get? (hp.objs.size + 1) = some (excO C hp.objs.size) := by heap_get
  have hnx : K.lookup (hp.objs.size + 1) = none := by
    cases e : K.lookup (hp.objs.size + 1) with
    | none => rfl
    | some o =>
      have z : hp.get? (hp.objs.size + 1) = some o := X _ _ e
      exact absurd (Nat.lt_of_succ_lt (Heap.lt_size z)) (Nat.lt_irrefl _)
  refine call_own F.excBase_ValueError (fun X => refsVE_contains X bm hbm) (X _ _ hC) (looks_findIn X T.iC) (fun self => bind_fn X self T.tC) (one_size v) ?_
  refine cf_init (s := ⟨(hp.push (kdv_tup [v])).push (excO C hp.objs.size), g, dr, tk, os⟩) T (X.keeps k) (G.keeps k) ⟨mb, hb1.keeps k, hb2⟩ (hlim.keeps k) hget hnx ?_ fun h' tk' dx t1 ⟨k', hx, dn, dne, hns⟩ => ?_
  · show A.depth + 1 < recursionLimit
    exact hroom
  · have old : ∀ b o, hp.get? b = some o → h'.get? b = some o := fun b o e => k' b o (Nat.ne_of_lt (Nat.lt_succ_of_lt (Heap.lt_size e))) (k b o e)
    have z : hp.objs.size + 1 + 1 ≤ dx := by
      first
        | (simpa only [Heap.size_push] using dn)
        | exact dn
        | (have q := dn; rw [Heap.size_push, Heap.size_push] at q; exact q)
    exact ⟨rfl, hq h' tk' (hp.objs.size + 1) dx ⟨old, Nat.le_succ _, ⟨t1, hx⟩, Nat.le_trans (Nat.le_trans (Nat.le_succ _) (Nat.le_succ _)) z, dne, hns⟩⟩
end
end CfX
end PySem
namespace VK
open PySem PySem.Spec PyProof.Rows L2
theorem relO_cf {v : V} {v' : Value} (r : RelV v v') (f : Str) : RelO (List.lookup f [(("paths" : Str), v)]) (if f = "paths" then some v' else none) := by
  by_cases hw : f = "paths"
  · subst hw
    rw [if_pos rfl]
    have q : List.lookup ("paths" : Str) [(("paths" : Str), v)] = some v := by simp [List.lookup]
    rw [q]
    exact r
  · rw [if_neg hw]
    have qw : (f == ("paths" : Str)) = false := by simpa using hw
    have q2 : List.lookup f [(("paths" : Str), v)] = none := by simp [List.lookup, qw]
    rw [q2]
    trivial
section
variable {X : Cx} {C fI : Addr}
/-- Conflict(e) -/
def tMkCf (C : Addr) (ta : TA) : L2.St → Hp → XK → Prop := fun σ H Q => ta σ H fun vs H1 => ∃ v, vs = [v] ∧ ∀ d, H1 d = none → Q (.ref C) (some d) (upd H1 d (.xd [(("paths" : Str), v)]))
theorem pmk_cf {a : Expr} {ta : TA} {p pos : Pos} {k : Nat} (T : PySem.CfX.CfTxt X.prog X.K X.mg C fI) (hr : Room k X.A) (ha : PA X [a] ta) (hg : Gl X "Conflict" := by rfl)
    (he : starEach (a :: []) X.env = (false, eval a X.env) :: starEach [] X.env := by rfl) (hpl : (backTo pos (starEach [] X.env)).any (·.1) = false := by rfl) :
    L2N.PMk X (.Call (.Name "Conflict" p) [a] [] pos) (tMkCf C ta) := by
  intro pins s σ H Q I h
  refine wpAny_Call_Name_kw (ld_glob I hg T.gC ?_)
  refine PySem.W.callWith_K (h₀ := X.base) I.ok.mod.kin T.kC (thn (ha.run pos pins s σ H _ I h) fun us s1 hh => ?_) he hpl
  obtain ⟨vs, H1, I1, r1, v, ev, q1⟩ := hh
  subst ev
  refine ⟨I1.kIn, ?_⟩
  cases r1 with
  | cons rv rn =>
    rename_i v' us'
    cases rn
    show wpAny _ _ (call (.ref C) [v']) _ _ _
    have hlim := I1.nolimit
    have hG := I1.mod.glob.keeps I1.bk
    obtain ⟨mb, hb1, hb2⟩ := I1.mod.blt
    have hBt := hb1.keeps I1.bk
    have hkIn := I1.kIn
    obtain ⟨hp, g, dr, tk, os⟩ := s1
    refine wpAny_call (PySem.CfX.cf_made T hkIn hG ⟨mb, hBt, hb2⟩ hlim (by have := hr.dp; omega) fun h' tk' e d M => ?_)
    show L2N.MkP X pins σ Q (.ref e) ⟨h', g, dr, tk', os⟩
    obtain ⟨t1, hoe⟩ := M.obj
    have hns := M.ns
    obtain ⟨G', g1, g2⟩ := restrict h' fun b => decide (b ≠ e)
    have gk : ∀ b, b ≠ e → G'.get? b = h'.get? b := fun b hb => g1 b (decide_eq_true hb)
    have ge : G'.get? e = none := g2 e (by simp)
    have old : ∀ b o, hp.get? b = some o → G'.get? b = some o := fun b o q => (gk b (Nat.ne_of_lt (Nat.lt_of_lt_of_le (Heap.lt_size q) M.new))).trans (M.keep b o q)
    have ob : ObjOk X.prog X.w (upd H1 d (.xd [(("paths" : Str), v)])) G' d (.xd [(("paths" : Str), v)]) :=
      ⟨_, hns.at (fun o q => (gk d M.dne).trans q), fun f => relO_cf rv f⟩
    have J : Inv X pins σ (upd H1 d (.xd [(("paths" : Str), v)])) ⟨G', g, dr, tk', os⟩ := I1.laid (t' := tk') old M.dbig ob
    refine ⟨e, _, _, ⟨G', g, dr, tk', os⟩, _, .ref C, some d, rfl, J, fun b o q => ?_, ge, hoe, ⟨rfl, rfl, fun vs e => by cases e; rfl⟩, rfl, rfl, ?_, rfl, I1.bare, raises_own T.exC T.tyC, q1 d (I1.hok.fresh M.dbig)⟩
    · by_cases hb : b = e
      · have q' : G'.get? b = some o := q
        rw [hb, ge] at q'; cases q'
      · exact (gk b hb).symm.trans q
    · rw [upd_ne (Ne.symm M.dne)]
      exact I1.hok.fresh M.new
end
end VK
end

section
set_option Elab.async false
set_option linter.all false
set_option pp.maxSteps 1500
set_option maxRecDepth 100000
set_option maxHeartbeats 4000000
/-! isinstance of a caught exception that has attributes (as HandS.ExcIs, where the exception has a dict) -/
namespace PySem.W
open PySem PySem.Spec PySem.Calls PyProof.Rows
section
variable {prog : Program} {w : World} {A : Around} {E : Value → Shared → Prop} {s : Shared} {K : Frag} {x D : Addr} {ox : Obj} {oda : Option Obj}
theorem vk_found (C : L2.ExcC K D) : findObj K D oda "__class__" = some (.bind (.builtin "getset_descriptor.__get__") (.builtin "object.__class__")) := by
  obtain ⟨cd, hc, _⟩ := any_some C.hd
  unfold findObj; rw [hc, Option.bind_some, C.ha, Option.bind_some]; simp [C.hn, C.ht]
theorem vk_class (C : L2.ExcC K D) {Q : Option Value → Shared → Prop} (X : K.In s.heap) (I : InstAt s.heap x ox D oda) (h : Q (some (.ref D)) { s with toks := s.toks + 1 }) : wpAny (model prog w) A (getAttr? (.ref x) "__class__") Q E s := by
  have hf := vk_found (oda := oda) C
  obtain ⟨hp, g, d, t, os⟩ := s
  have T0 := I.type (M := model prog w); have T1 := looks_findIn (M := model prog w) X C.hg
  have T2 := looks_findIn (M := model prog w) X C.hk; have T3 := looks_find (M := model prog w) X I hf
  have sb : Looks (model prog w) hp (isInstance (.ref x) (.type "BaseException")) true := T0.andThen (looks_subIn X C.hs)
  have n0 : (false && onTheHeap (Value.builtin "BaseException.__getattribute__")) = false := rfl
  have n2 : (Value.builtin "BaseException.__getattribute__" == Value.builtin "object.__getattribute__") = false := by decide +kernel
  have n1 : (onTheHeap (Value.ref D) && Value.builtin "BaseException.__getattribute__" == Value.builtin "object.__getattribute__") = false := by rw [n2]; rfl
  unfold getAttr? getAttrBy? getAttrBy
  refine wpAny_bind (wpAny_mkText (wpAny_bind (wpAny_attempt (wpAny_holding (wpAny_bind (T0.at (wpAny_bind (T1.at ?_))))))))
  show wpAny _ _ (if (onTheHeap (Value.ref D) && Value.builtin "BaseException.__getattribute__" == Value.builtin "object.__getattribute__") = true then _ else _) _ _ _; rw [n1, if_neg Bool.false_ne_true]
  unfold getAttrByItsOwn hookBefore; refine wpAny_bind ?_
  rw [if_pos (show onTheHeap (Value.ref D) = true from rfl)]; refine T2.at (wpAny_bind (wpAny_attempt (wpAny_holding ?_)))
  unfold callGetattribute; rw [n0, if_neg Bool.false_ne_true]
  unfold boundAndCalled; rw [PySem.F.excAttr_ValueError.ga.bind (.ref x)]
  refine wpAny_bind (wpAny_pure ?_); show wpAny _ _ (call (.builtin "BaseException.__getattribute__") [.ref x, .str "__class__" t]) _ _ _
  refine wpAny_call (codeAny_call_builtin PySem.F.excAttr_ValueError.ga.plain PySem.F.entry_bexc_ga (@check_slot (model prog w) _ _ ⟨hp, g, d, t + 1, os⟩ "BaseException.__getattribute__" "BaseException" "__getattribute__" (.ref x) [.str "__class__" t] [] _ (by decide +kernel) (by decide +kernel) sb (PySem.F.args_bexc_ga (.ref x) (.str "__class__" t)) ?_))
  unfold Builtin.«object.__getattribute__»; refine wpAny_bind (wpAny_of_eq (a := ((Value.ref x : Value), [Value.str "__class__" t])) (by first | rfl | (simp only [slotArgs]; rfl)) ?_)
  refine wpAny_bind (wpAny_pure (wpAny_bind (T0.at (wpAny_bind (T3.at ?_)))))
  show wpAny _ _ (holding [Value.builtin "object.__class__"] (call (.builtin "getset_descriptor.__get__") [.builtin "object.__class__", .ref x, .ref D]) >>= ret) _ _ _; refine wpAny_bind (wpAny_holding (wpAny_call (class_get (s := ⟨hp, g, d, t + 1, os⟩) (ox := ox) (od := oda) X I C.hm (wpAny_pure ?_))))
  show wpAny _ _ (handedOut (.ref D)) _ _ _; rw [handedOut_of (v := .ref D) rfl]
  first | exact wpAny_pure (wpAny_pure h) | exact wpAny_pure h | exact wpAny_pure (wpAny_bind (wpAny_pure (wpAny_pure h)))
theorem vk_kit (C : L2.ExcC K D) : KitX K (.ref x) (.ref D) (fun h => InstAt h x ox D oda) where
  ty := fun _ _ _ I => I.type
  it := fun _ _ X _ => by
    obtain ⟨cdD, hcD, _⟩ := any_some C.hd; unfold clsIn at hcD
    split at hcD
    · next ho => exact fun {A'} {Q'} {E'} {s'} k q => by unfold isType loadHead; exact wpAny_bind (wpAny_loadPart (k _ _ (X _ _ ho)) (wpAny_pure q))
    · cases hcD
  ne := fun h tp dd its n sl X htp => by
    obtain ⟨cdD, hcD, _⟩ := any_some C.hd; refine Bool.eq_false_iff.mpr fun q => ?_
    have e : D = tp := Value.ref.inj (beq_iff_eq.mp q); subst e; unfold clsIn at hcD
    split at hcD
    · next ho => cases (X _ _ ho).symm.trans htp
    · cases hcD
  ca := fun X I k => vk_class C X I k
end
end PySem.W
namespace VK
open PySem L2
/-- isinstance(error, c), the exception being of the class D, with attributes -/
def rIsD (K : PySem.W.Frag) (D a : Addr) (cls : Value) (d : Option Addr) : List V → Hp → VK → Prop := fun xs H Q => ∃ (c : V) (cv : Value) (b : Bool) (dd : Addr) (fs : List (Str × V)), xs = [.ref a, c] ∧ cls = .ref D ∧ d = some dd ∧ H dd = some (.xd fs) ∧ (∀ u, RelV c u → u = cv) ∧ PySem.W.kitOne K (.ref D) cv = some b ∧ Q (.bl b) H
theorem call_isD {X : Cx} {a D : Addr} {oe : Obj} {cls : Value} {d : Option Addr} {pn : List (Addr × Obj)} (C : ExcC X.K D) (hz : Zc cls d oe) (hf : ∃ vs, oe.data = .fields vs) : CallR (X.suite a ((a, oe) :: pn)) (.builtin "isinstance") (rIsD X.K D a cls d) := by
  intro pins s σ H xs us Q I r h
  obtain ⟨c, cv, b, dd, fs, rfl, ec, ed, hdd, hcv, e, q⟩ := h
  cases r with
  | cons rx rr =>
    cases rr with
    | cons rt rr =>
      cases rr; cases rx
      cases hcv _ rt
      subst ec ed
      obtain ⟨ha, _⟩ := I.pin (a, oe) (List.mem_append.mpr (.inl List.mem_cons_self))
      obtain ⟨vs, hd⟩ := hf
      obtain ⟨mA, hns, hr⟩ := (show ObjOk X.prog X.w H s.heap dd (.xd fs) from I.hok dd _ hdd)
      obtain ⟨od, ho, hl⟩ := lookIn_ns hns
      have J : PySem.W.InstAt s.heap a oe D (some od) := ⟨ha, hz.1, by unfold PySem.W.notCls; rw [hd] <;> rfl, by rw [hz.2]; exact ho⟩
      exact PySem.W.kia_one (PySem.W.vk_kit C) I.kIn J e (fun z => nomatch z) fun tk => ⟨.bl b, H, I.kept (t' := tk) fun _ _ z => z, rfl, q⟩
end VK
end

section
set_option Elab.async false
set_option linter.all false
set_option pp.maxSteps 1500
set_option maxRecDepth 100000
set_option maxHeartbeats 4000000
namespace VK
open PySem
/-! ### parts of a merge, in plain Lean -/
inductive Part where
  | same (ls : List Str)
  | clash (base one two : List Str)
deriving DecidableEq
/-- a part behind parts: what is the same goes to what is the same -/
def addPart (found : List Part) (p : Part) : List Part := match p with
  | .clash b o t => found ++ [.clash b o t]
  | .same [] => found
  | .same (l :: ls) => match found.getLast? with
    | some (.same xs) => found.dropLast ++ [.same (xs ++ (l :: ls))]
    | _ => found ++ [.same (l :: ls)]
def tidyF (ps : List Part) : List Part := ps.foldl addPart []
def addSpan (found : List (Nat × Nat)) (p : Nat × Nat) : List (Nat × Nat) := match found.getLast? with
  | some q => if p.1 ≤ q.2 then found.dropLast ++ [(q.1, max q.2 p.2)] else found ++ [p]
  | none => [p]
def hspan (h : Hunk) : Nat × Nat := (h.start, h.start + h.gone.length)
def withinF (hs : List Hunk) (lo hi : Nat) : List Hunk := hs.filter fun h => decide (lo ≤ h.start) && decide (h.start + h.gone.length ≤ hi)
def rewF (ls : List Str) (low : Nat) : Nat → List Hunk → List Str
  | here, [] => ls.drop here
  | here, h :: r => cutL ls here (h.start - low) ++ h.come ++ rewF ls low (h.start - low + h.gone.length) r
def joinP (old l r : List Str) : Part := if l = r ∨ r = old then .same l else if l = old then .same r else .clash old l r
def sideF (base : List Str) (hs : List Hunk) (lo hi : Nat) : List Str := rewF (cutL base lo hi) lo 0 (withinF hs lo hi)
def rawF (base : List Str) (f s : List Hunk) : Nat → List (Nat × Nat) → List Part
  | here, [] => [.same (base.drop here)]
  | here, (lo, hi) :: r => .same (cutL base here lo) :: joinP (cutL base lo hi) (sideF base f lo hi) (sideF base s lo hi) :: rawF base f s hi r
/-- all spans, the sort being given -/
def spansS (ps : List (Nat × Nat)) : List (Nat × Nat) := ps.foldl addSpan []
/-- pairs in order -/
def leP (p q : Nat × Nat) : Bool := decide (p.1 < q.1) || (decide (p.1 = q.1) && decide (p.2 ≤ q.2))
def insP (p : Nat × Nat) : List (Nat × Nat) → List (Nat × Nat)
  | [] => [p]
  | q :: r => if leP p q then p :: q :: r else q :: insP p r
def sortP : List (Nat × Nat) → List (Nat × Nat)
  | [] => []
  | p :: r => insP p (sortP r)
def spansF (f s : List Hunk) : List (Nat × Nat) := spansS (sortP ((f ++ s).map hspan))
def partsF (base : List Str) (f s : List Hunk) : List Part := tidyF (rawF base f s 0 (spansF f s))
/-! #### sorting -/
theorem leP_total (p q : Nat × Nat) : leP p q = true ∨ leP q p = true := by
  simp only [leP, Bool.or_eq_true, Bool.and_eq_true, decide_eq_true_eq]; omega
theorem leP_trans {p q r : Nat × Nat} (h1 : leP p q = true) (h2 : leP q r = true) : leP p r = true := by
  simp only [leP, Bool.or_eq_true, Bool.and_eq_true, decide_eq_true_eq] at *; omega
theorem leP_anti {p q : Nat × Nat} (h1 : leP p q = true) (h2 : leP q p = true) : p = q := by
  simp only [leP, Bool.or_eq_true, Bool.and_eq_true, decide_eq_true_eq] at *
  exact Prod.ext (by omega) (by omega)
theorem insP_perm (p : Nat × Nat) : ∀ l : List (Nat × Nat), (insP p l).Perm (p :: l)
  | [] => .refl _
  | q :: r => by
    rw [insP]
    split
    · exact .refl _
    · exact ((insP_perm p r).cons q).trans (.swap p q r)
theorem sortP_perm : ∀ l : List (Nat × Nat), (sortP l).Perm l
  | [] => .refl _
  | p :: r => (insP_perm p _).trans ((sortP_perm r).cons p)
theorem insP_sorted (p : Nat × Nat) : ∀ l : List (Nat × Nat), l.Pairwise (fun a b => leP a b = true) → (insP p l).Pairwise fun a b => leP a b = true
  | [], _ => List.pairwise_singleton _ _
  | q :: r, h => by
    obtain ⟨h1, h2⟩ := List.pairwise_cons.mp h
    rw [insP]
    split
    · rename_i e
      refine List.pairwise_cons.mpr ⟨fun x hx => ?_, h⟩
      rcases List.mem_cons.mp hx with rfl | hx
      · exact e
      · exact leP_trans e (h1 x hx)
    · rename_i e
      refine List.pairwise_cons.mpr ⟨fun x hx => ?_, insP_sorted p r h2⟩
      rcases List.mem_cons.mp ((insP_perm p r).mem_iff.mp hx) with rfl | hx
      · exact (leP_total _ _).resolve_left e
      · exact h1 x hx
theorem sortP_sorted : ∀ l : List (Nat × Nat), (sortP l).Pairwise fun a b => leP a b = true
  | [] => .nil
  | p :: r => insP_sorted p _ (sortP_sorted r)
theorem sorted_uniq : ∀ {a b : List (Nat × Nat)}, a.Perm b → a.Pairwise (fun x y => leP x y = true) → b.Pairwise (fun x y => leP x y = true) → a = b
  | [], b, p, _, _ => (List.Perm.nil_eq p)
  | x :: a, [], p, _, _ => absurd p.length_eq (by simp)
  | x :: a, y :: b, p, h1, h2 => by
    obtain ⟨h3, h4⟩ := List.pairwise_cons.mp h1
    obtain ⟨h5, h6⟩ := List.pairwise_cons.mp h2
    have e : x = y := by
      rcases List.mem_cons.mp (p.mem_iff.mp (List.mem_cons_self ..)) with e | m1
      · exact e
      · rcases List.mem_cons.mp (p.symm.mem_iff.mp (List.mem_cons_self ..)) with e | m2
        · exact e.symm
        · exact leP_anti (h3 y m2) (h5 x m1)
    subst e
    rw [sorted_uniq p.cons_inv h4 h6]
theorem sortP_of_perm {a b : List (Nat × Nat)} (h : a.Perm b) : sortP a = sortP b :=
  sorted_uniq ((sortP_perm a).trans (h.trans (sortP_perm b).symm)) (sortP_sorted a) (sortP_sorted b)
theorem sortP_id {a : List (Nat × Nat)} (h : a.Pairwise fun x y => leP x y = true) : sortP a = a := sorted_uniq (sortP_perm a) (sortP_sorted a) h
/-! #### spans from the left -/
def mergeS (cur : Nat × Nat) : List (Nat × Nat) → List (Nat × Nat)
  | [] => [cur]
  | p :: r => if p.1 ≤ cur.2 then mergeS (cur.1, max cur.2 p.2) r else cur :: mergeS p r
theorem foldl_addSpan : ∀ (ps init : List (Nat × Nat)) (cur : Nat × Nat), ps.foldl addSpan (init ++ [cur]) = init ++ mergeS cur ps
  | [], init, cur => rfl
  | p :: r, init, cur => by
    rw [List.foldl_cons, mergeS]
    have e : addSpan (init ++ [cur]) p = if p.1 ≤ cur.2 then init ++ [(cur.1, max cur.2 p.2)] else (init ++ [cur]) ++ [p] := by
      unfold addSpan
      simp
    rw [e]
    split
    · exact foldl_addSpan r init _
    · rw [foldl_addSpan r (init ++ [cur]) p, List.append_assoc]; rfl
theorem spansS_cons (p : Nat × Nat) (r : List (Nat × Nat)) : spansS (p :: r) = mergeS p r := by
  unfold spansS
  rw [List.foldl_cons]
  exact foldl_addSpan r [] p
/-! #### turned -/
def swapP : Part → Part
  | .same ls => .same ls
  | .clash b o t => .clash b t o
theorem swapP_join (old l r : List Str) : swapP (joinP old l r) = joinP old r l := by
  unfold joinP
  by_cases e1 : l = r
  · subst e1
    simp [swapP]
  · by_cases e2 : r = old
    · subst e2
      have e3 : ¬ r = l := fun e => e1 e.symm
      simp [e1, e3, swapP]
    · by_cases e3 : l = old
      · subst e3
        have e4 : ¬ r = l := e2
        simp [e1, e4, swapP]
      · have e4 : ¬ r = l := fun e => e1 e.symm
        simp [e1, e2, e3, e4, swapP]
theorem swapP_add (found : List Part) (p : Part) : (addPart found p).map swapP = addPart (found.map swapP) (swapP p) := by
  cases p with
  | clash b o t => simp [addPart, swapP]
  | same ls =>
    cases ls with
    | nil => rfl
    | cons l ls =>
      rcases List.eq_nil_or_concat found with rfl | ⟨init, x, rfl⟩
      · rfl
      · rw [List.concat_eq_append]
        cases x with
        | same xs => simp [addPart, swapP]
        | clash b o t => simp [addPart, swapP]
theorem swapP_foldl : ∀ (ps found : List Part), (ps.foldl addPart found).map swapP = (ps.map swapP).foldl addPart (found.map swapP)
  | [], _ => rfl
  | p :: r, found => by
    rw [List.foldl_cons, List.map_cons, List.foldl_cons, swapP_foldl r, swapP_add]
theorem swapP_raw (base : List Str) (f s : List Hunk) : ∀ (r : List (Nat × Nat)) (here : Nat), (rawF base f s here r).map swapP = rawF base s f here r
  | [], here => rfl
  | (lo, hi) :: r, here => by
    rw [rawF, rawF, List.map_cons, List.map_cons, swapP_raw base f s r hi, swapP_join]
    rfl
theorem spansF_swap (f s : List Hunk) : spansF f s = spansF s f := by
  unfold spansF
  rw [sortP_of_perm (List.Perm.map _ List.perm_append_comm)]
theorem partsF_swap (base : List Str) (f s : List Hunk) : (partsF base f s).map swapP = partsF base s f := by
  unfold partsF tidyF
  rw [swapP_foldl, swapP_raw, spansF_swap]
  rfl
/-! #### all the same -/
def flatS : List Part → List Str
  | [] => []
  | .same ls :: r => ls ++ flatS r
  | .clash _ _ _ :: r => flatS r
theorem flatS_app : ∀ a b : List Part, flatS (a ++ b) = flatS a ++ flatS b
  | [], b => rfl
  | .same ls :: r, b => by rw [List.cons_append, flatS, flatS, flatS_app r b, List.append_assoc]
  | .clash _ _ _ :: r, b => by rw [List.cons_append, flatS, flatS, flatS_app r b]
def isS : Part → Bool
  | .same _ => true
  | .clash _ _ _ => false
def nrm (ls : List Str) : List Part := if ls = [] then [] else [.same ls]
theorem tidy_same : ∀ (ps : List Part) (xs : List Str), ps.all isS = true → ps.foldl addPart (nrm xs) = nrm (xs ++ flatS ps)
  | [], xs, _ => by rw [flatS, List.append_nil]; rfl
  | .clash _ _ _ :: r, xs, h => by simp [isS] at h
  | .same ls :: r, xs, h => by
    have h' : r.all isS = true := by simpa [isS] using h
    rw [List.foldl_cons, flatS, ← List.append_assoc, ← tidy_same r (xs ++ ls) h']
    congr 1
    cases ls with
    | nil => rw [List.append_nil]; rfl
    | cons l ls =>
      cases xs with
      | nil => rfl
      | cons x xs => rfl
theorem tidyF_same {ps : List Part} (h : ps.all isS = true) : tidyF ps = nrm (flatS ps) := tidy_same ps [] h
/-! ### merges where nothing clashes -/
def Sep (n : Nat) : Nat → List Hunk → Prop
  | _, [] => True
  | i, h :: r => i ≤ h.start ∧ h.start + h.gone.length ≤ n ∧ Sep n (h.start + h.gone.length + 1) r
theorem Sep.le {n : Nat} : ∀ {hs : List Hunk} {i j : Nat}, j ≤ i → Sep n i hs → Sep n j hs
  | [], _, _, _, _ => trivial
  | h :: r, _, _, e, ⟨a, b, c⟩ => ⟨Nat.le_trans e a, b, c⟩
theorem Sep.ge {n : Nat} : ∀ {hs : List Hunk} {i : Nat}, Sep n i hs → ∀ h ∈ hs, i ≤ h.start ∧ h.start + h.gone.length ≤ n
  | [], _, _, _, hm => nomatch hm
  | g :: r, i, ⟨a, b, c⟩, h, hm => by
    rcases List.mem_cons.mp hm with rfl | hm
    · exact ⟨a, b⟩
    · obtain ⟨x, y⟩ := Sep.ge c h hm
      exact ⟨by omega, y⟩
theorem Sep.pw {n : Nat} : ∀ {hs : List Hunk} {i : Nat}, Sep n i hs → hs.Pairwise fun a b => a.start + a.gone.length < b.start
  | [], _, _ => .nil
  | g :: r, i, ⟨a, b, c⟩ => List.pairwise_cons.mpr ⟨fun h hm => by have := (c.ge h hm).1; omega, c.pw⟩
theorem Sep.of {n : Nat} : ∀ {hs : List Hunk}, (hs.Pairwise fun a b => a.start + a.gone.length < b.start) → (∀ h ∈ hs, h.start + h.gone.length ≤ n) → ∀ i, (∀ h ∈ hs, i ≤ h.start) → Sep n i hs
  | [], _, _, _, _ => trivial
  | g :: r, p, q, i, z => by
    obtain ⟨p1, p2⟩ := List.pairwise_cons.mp p
    exact ⟨z g (List.mem_cons_self ..), q g (List.mem_cons_self ..), Sep.of p2 (fun h hm => q h (List.mem_cons_of_mem _ hm)) _ fun h hm => p1 h hm⟩
theorem hunksF_sep (one two : List Str) : ∀ (ps : List (Nat × Nat)) (i j : Nat), Row one two i j ps → i ≤ one.length → j ≤ two.length → Sep one.length i (hunksF one two i j (ps ++ [(one.length, two.length)]))
  | [], i, j, _, h1, h2 => by
    rw [List.nil_append, hunksF, hunksF, List.append_nil]
    split
    · refine ⟨Nat.le_refl _, ?_, trivial⟩
      show i + (cutL one i one.length).length ≤ one.length
      rw [cutL_length one (Nat.le_refl _)]; omega
    · trivial
  | (h, t) :: ps, i, j, ⟨r1, r2, r3, r4, r5, r6⟩, h1, h2 => by
    rw [List.cons_append, hunksF]
    have q := hunksF_sep one two ps (h + 1) (t + 1) r6 r3 r4
    split
    · have e : (cutL one i h).length = h - i := cutL_length one (by omega)
      refine ⟨Nat.le_refl _, ?_, q.le ?_⟩
      · show i + (cutL one i h).length ≤ one.length
        omega
      · show i + (cutL one i h).length + 1 ≤ h + 1
        omega
    · exact q.le (by omega)
/-- what goes stands in the lines -/
def FitL (ls : List Str) (h : Hunk) : Prop := cutL ls h.start (h.start + h.gone.length) = h.gone
theorem hunksF_fit (one two : List Str) : ∀ (ps : List (Nat × Nat)) (i j : Nat), (∀ p ∈ ps, p.1 ≤ one.length) → ∀ h ∈ hunksF one two i j ps, FitL one h
  | [], _, _, _, _, hm => nomatch hm
  | (a, b) :: ps, i, j, hp, h, hm => by
    rw [hunksF] at hm
    rcases List.mem_append.mp hm with hm | hm
    · split at hm
      · rw [List.mem_singleton.mp hm]
        have e : (cutL one i a).length = a - i := cutL_length one (hp _ (List.mem_cons_self ..))
        show cutL one i (i + (cutL one i a).length) = cutL one i a
        rw [e]
        unfold cutL
        congr 1
        omega
      · cases hm
    · exact hunksF_fit one two ps _ _ (fun p m => hp p (List.mem_cons_of_mem _ m)) h hm
theorem within_self {n : Nat} : ∀ {hs : List Hunk} {i : Nat}, Sep n i hs → ∀ h ∈ hs, withinF hs h.start (h.start + h.gone.length) = [h]
  | g :: r, i, ⟨a, b, c⟩, h, hm => by
    unfold withinF
    rw [List.filter_cons]
    rcases List.mem_cons.mp hm with rfl | hm
    · rw [if_pos (by simp)]
      congr 1
      refine List.filter_eq_nil_iff.mpr fun x hx => ?_
      have := (c.ge x hx).1
      simp
      omega
    · have q := (c.ge h hm).1
      rw [if_neg (by simp; omega)]
      exact within_self c h hm
theorem within_none {hs : List Hunk} {h : Hunk} (hn : ∀ g ∈ hs, ¬ (h.start ≤ g.start + g.gone.length ∧ g.start ≤ h.start + h.gone.length)) : withinF hs h.start (h.start + h.gone.length) = [] := by
  refine List.filter_eq_nil_iff.mpr fun g hg => ?_
  have := hn g hg
  simp
  omega
theorem side_one {base : List Str} {h : Hunk} (f : FitL base h) (hl : h.start + h.gone.length ≤ base.length) : rewF (cutL base h.start (h.start + h.gone.length)) h.start 0 [h] = h.come := by
  rw [rewF, rewF, Nat.sub_self, cutL_self, List.nil_append, Nat.zero_add, List.drop_eq_nil_of_le, List.append_nil]
  rw [cutL_length base hl]; omega
theorem raw_flat (base : List Str) (f s : List Hunk) : ∀ (bs : List Hunk) (here : Nat), (∀ h ∈ bs, joinP (cutL base h.start (h.start + h.gone.length)) (sideF base f h.start (h.start + h.gone.length)) (sideF base s h.start (h.start + h.gone.length)) = .same h.come) →
    (rawF base f s here (bs.map hspan)).all isS = true ∧ flatS (rawF base f s here (bs.map hspan)) = applyF base here bs
  | [], here, _ => ⟨rfl, by
    show base.drop here ++ [] = _
    rw [List.append_nil]; rfl⟩
  | h :: r, here, hp => by
    obtain ⟨i1, i2⟩ := raw_flat base f s r (h.start + h.gone.length) fun x hx => hp x (List.mem_cons_of_mem _ hx)
    have q := hp h (List.mem_cons_self ..)
    rw [List.map_cons]
    show (rawF base f s here ((h.start, h.start + h.gone.length) :: r.map hspan)).all isS = true ∧ flatS (rawF base f s here ((h.start, h.start + h.gone.length) :: r.map hspan)) = applyF base here (h :: r)
    rw [rawF, q, applyF]
    refine ⟨?_, ?_⟩
    · simp only [List.all_cons, isS, Bool.true_and]; exact i1
    · show _ ++ (_ ++ flatS _) = _
      rw [i2, List.append_assoc]
theorem parts_flat {base : List Str} {f s bs : List Hunk} (e : spansF f s = bs.map hspan) (hp : ∀ h ∈ bs, joinP (cutL base h.start (h.start + h.gone.length)) (sideF base f h.start (h.start + h.gone.length)) (sideF base s h.start (h.start + h.gone.length)) = .same h.come) :
    partsF base f s = nrm (applyF base 0 bs) := by
  obtain ⟨h1, h2⟩ := raw_flat base f s bs 0 hp
  unfold partsF
  rw [e, tidyF_same h1, h2]
/-- spans that are apart stay -/
theorem merge_apart : ∀ (r : List Hunk) (h : Hunk), ((h :: r).Pairwise fun a b => a.start + a.gone.length < b.start) → mergeS (hspan h) (r.map hspan) = (h :: r).map hspan
  | [], _, _ => rfl
  | g :: r, h, p => by
    obtain ⟨p1, p2⟩ := List.pairwise_cons.mp p
    have q := p1 g (List.mem_cons_self ..)
    rw [List.map_cons, mergeS, if_neg (by show ¬ g.start ≤ h.start + h.gone.length; omega), merge_apart r g p2]
    rfl
theorem spans_apart {bs : List Hunk} (p : bs.Pairwise fun a b => a.start + a.gone.length < b.start) : spansS (bs.map hspan) = bs.map hspan := by
  cases bs with
  | nil => rfl
  | cons h r => rw [List.map_cons, spansS_cons, merge_apart r h p]; rfl
theorem pw_sorted {bs : List Hunk} (p : bs.Pairwise fun a b => a.start + a.gone.length < b.start) : (bs.map hspan).Pairwise fun x y => leP x y = true := by
  rw [List.pairwise_map]
  refine p.imp fun {a b} h => ?_
  have q : a.start < b.start := by omega
  show (decide (a.start < b.start) || _) = true
  rw [decide_eq_true q]
  rfl
theorem spansF_perm {f s bs : List Hunk} (h : bs.Perm (f ++ s)) (p : bs.Pairwise fun a b => a.start + a.gone.length < b.start) : spansF f s = bs.map hspan := by
  unfold spansF
  rw [← sortP_of_perm (h.map hspan), sortP_id (pw_sorted p), spans_apart p]
/-- one side has changed nothing -/
theorem parts_left {base : List Str} {f : List Hunk} (sp : Sep base.length 0 f) (ft : ∀ h ∈ f, FitL base h) : partsF base f [] = nrm (applyF base 0 f) := by
  refine parts_flat (spansF_perm (by rw [List.append_nil]) sp.pw) fun h hm => ?_
  have e1 : sideF base f h.start (h.start + h.gone.length) = h.come := by
    unfold sideF
    rw [within_self sp h hm, side_one (ft h hm) (sp.ge h hm).2]
  have e2 : sideF base [] h.start (h.start + h.gone.length) = cutL base h.start (h.start + h.gone.length) := rfl
  rw [e1, e2]
  unfold joinP
  rw [if_pos (.inr rfl)]
/-- both sides have changed the same -/
def dupS : List (Nat × Nat) → List (Nat × Nat)
  | [] => []
  | p :: r => p :: p :: dupS r
theorem dup_perm : ∀ l : List (Nat × Nat), (dupS l).Perm (l ++ l)
  | [] => .refl _
  | p :: r => by
    rw [dupS, List.cons_append]
    refine .cons p (((dup_perm r).cons p).trans ?_)
    exact List.perm_middle.symm
theorem dup_sorted : ∀ {l : List (Nat × Nat)}, l.Pairwise (fun x y => leP x y = true) → (dupS l).Pairwise fun x y => leP x y = true
  | [], _ => .nil
  | p :: r, h => by
    obtain ⟨h1, h2⟩ := List.pairwise_cons.mp h
    have m : ∀ x ∈ dupS r, leP p x = true := fun x hx => by
      rcases List.mem_append.mp ((dup_perm r).mem_iff.mp hx) with hx | hx <;> exact h1 x hx
    refine List.pairwise_cons.mpr ⟨fun x hx => ?_, List.pairwise_cons.mpr ⟨m, dup_sorted h2⟩⟩
    rcases List.mem_cons.mp hx with rfl | hx
    · simp [leP]
    · exact m x hx
theorem merge_dup : ∀ (r : List Hunk) (h : Hunk), ((h :: r).Pairwise fun a b => a.start + a.gone.length < b.start) → mergeS (hspan h) (hspan h :: dupS (r.map hspan)) = (h :: r).map hspan
  | [], h, _ => by
    show mergeS (hspan h) (hspan h :: []) = [hspan h]
    rw [mergeS, if_pos (by show h.start ≤ h.start + h.gone.length; omega), Nat.max_self, mergeS]
  | g :: r, h, p => by
    obtain ⟨p1, p2⟩ := List.pairwise_cons.mp p
    have q := p1 g (List.mem_cons_self ..)
    rw [mergeS, if_pos (by show h.start ≤ h.start + h.gone.length; omega), Nat.max_self, List.map_cons, dupS, mergeS, if_neg (by show ¬ g.start ≤ h.start + h.gone.length; omega), merge_dup r g p2]
    rfl
theorem spansF_dup {f : List Hunk} (p : f.Pairwise fun a b => a.start + a.gone.length < b.start) : spansF f f = f.map hspan := by
  unfold spansF
  rw [List.map_append, ← sortP_of_perm (dup_perm (f.map hspan)), sortP_id (dup_sorted (pw_sorted p))]
  cases f with
  | nil => rfl
  | cons h r => rw [List.map_cons, dupS, spansS_cons, merge_dup r h p]; rfl
theorem parts_both {base : List Str} {f : List Hunk} (sp : Sep base.length 0 f) (ft : ∀ h ∈ f, FitL base h) : partsF base f f = nrm (applyF base 0 f) := by
  refine parts_flat (spansF_dup sp.pw) fun h hm => ?_
  have e1 : sideF base f h.start (h.start + h.gone.length) = h.come := by
    unfold sideF
    rw [within_self sp h hm, side_one (ft h hm) (sp.ge h hm).2]
  rw [e1]
  unfold joinP
  rw [if_pos (.inl rfl)]
/-- the two sides do not touch -/
def touchH (a b : Hunk) : Prop := a.start ≤ b.start + b.gone.length ∧ b.start ≤ a.start + a.gone.length
theorem parts_apart {base : List Str} {f s bs : List Hunk} (sf : Sep base.length 0 f) (ss : Sep base.length 0 s) (ff : ∀ h ∈ f, FitL base h) (fs : ∀ h ∈ s, FitL base h) (nt : ∀ a ∈ f, ∀ b ∈ s, ¬ touchH a b)
    (hp : bs.Perm (f ++ s)) (hs : bs.Pairwise fun a b => a.start ≤ b.start) : partsF base f s = nrm (applyF base 0 bs) ∧ Sep base.length 0 bs := by
  have r1 : ∀ {l : List Hunk}, (l.Pairwise fun a b => a.start + a.gone.length < b.start) → l.Pairwise fun a b => ¬ touchH a b := fun p => p.imp fun {a b} h q => by
    have := q.2
    omega
  have sym : ∀ a b : Hunk, ¬ touchH a b → ¬ touchH b a := fun a b h q => h ⟨q.2, q.1⟩
  have pw : bs.Pairwise fun a b => ¬ touchH a b := by
    refine hp.symm.pairwise (R := fun a b => ¬ touchH a b) ?_ fun {a b} h => sym a b h
    exact List.pairwise_append.mpr ⟨r1 sf.pw, r1 ss.pw, nt⟩
  have pb : bs.Pairwise fun a b => a.start + a.gone.length < b.start := by
    refine (hs.and pw).imp fun {a b} h => ?_
    have h1 := h.1
    have h2 := h.2
    unfold touchH at h2
    omega
  have le : ∀ h ∈ bs, h.start + h.gone.length ≤ base.length := fun h hm => by
    rcases List.mem_append.mp (hp.mem_iff.mp hm) with hm | hm
    · exact (sf.ge h hm).2
    · exact (ss.ge h hm).2
  refine ⟨parts_flat (spansF_perm hp pb) fun h hm => ?_, Sep.of pb le 0 fun h _ => Nat.zero_le _⟩
  rcases List.mem_append.mp (hp.mem_iff.mp hm) with hm | hm
  · have e1 : sideF base f h.start (h.start + h.gone.length) = h.come := by
      unfold sideF
      rw [within_self sf h hm, side_one (ff h hm) (sf.ge h hm).2]
    have e2 : sideF base s h.start (h.start + h.gone.length) = cutL base h.start (h.start + h.gone.length) := by
      unfold sideF
      rw [within_none fun g hg => nt h hm g hg]
      rfl
    rw [e1, e2]
    unfold joinP
    rw [if_pos (.inr rfl)]
  · have e1 : sideF base s h.start (h.start + h.gone.length) = h.come := by
      unfold sideF
      rw [within_self ss h hm, side_one (fs h hm) (ss.ge h hm).2]
    have e2 : sideF base f h.start (h.start + h.gone.length) = cutL base h.start (h.start + h.gone.length) := by
      unfold sideF
      rw [within_none fun g hg q => nt g hg h hm ⟨q.2, q.1⟩]
      rfl
    rw [e1, e2]
    unfold joinP
    by_cases e : cutL base h.start (h.start + h.gone.length) = h.come
    · rw [e, if_pos (.inl rfl)]
    · rw [if_neg fun q => q.elim e fun q => e q.symm, if_pos rfl]
/-! ### where the line without an end stands -/
section
variable (E : Str) (L : Str → Prop)
/-- ended lines, and perhaps E behind them -/
def LE (ls : List Str) : Prop := (∀ x ∈ ls, L x) ∨ ∃ xs, (∀ x ∈ xs, L x) ∧ ls = xs ++ [E]
def allP : Part → Prop
  | .same ls => ∀ x ∈ ls, L x
  | .clash b o t => (∀ x ∈ b, L x) ∧ (∀ x ∈ o, L x) ∧ ∀ x ∈ t, L x
def lastP : Part → Prop
  | .same ls => LE E L ls
  | .clash b o t => (∀ x ∈ b, L x) ∧ LE E L o ∧ ∀ x ∈ t, L x
def TP (ps : List Part) : Prop := (∀ p ∈ ps, allP L p) ∨ ∃ init p, ps = init ++ [p] ∧ (∀ q ∈ init, allP L q) ∧ lastP E L p
theorem add_all {found : List Part} {p : Part} (h : ∀ q ∈ found, allP L q) (hp : allP L p) : ∀ q ∈ addPart found p, allP L q := by
  cases p with
  | clash b o t =>
    intro q hq
    rcases List.mem_append.mp hq with hq | hq
    · exact h q hq
    · rw [List.mem_singleton.mp hq]; exact hp
  | same ls =>
    cases ls with
    | nil => exact h
    | cons l ls =>
      rcases List.eq_nil_or_concat found with rfl | ⟨init, x, rfl⟩
      · intro q hq
        rw [List.mem_singleton.mp (show q ∈ [Part.same (l :: ls)] from hq)]; exact hp
      · rw [List.concat_eq_append] at *
        cases x with
        | same xs =>
          have e : addPart (init ++ [Part.same xs]) (.same (l :: ls)) = init ++ [.same (xs ++ (l :: ls))] := by simp [addPart]
          rw [e]
          intro q hq
          rcases List.mem_append.mp hq with hq | hq
          · exact h q (List.mem_append_left _ hq)
          · rw [List.mem_singleton.mp hq]
            intro y hy
            rcases List.mem_append.mp hy with hy | hy
            · exact h (.same xs) (List.mem_append_right _ (List.mem_singleton.mpr rfl)) y hy
            · exact hp y hy
        | clash b o t =>
          have e : addPart (init ++ [Part.clash b o t]) (.same (l :: ls)) = init ++ [.clash b o t] ++ [.same (l :: ls)] := by simp [addPart]
          rw [e]
          intro q hq
          rcases List.mem_append.mp hq with hq | hq
          · exact h q hq
          · rw [List.mem_singleton.mp hq]; exact hp
theorem fold_all : ∀ (ps found : List Part), (∀ q ∈ found, allP L q) → (∀ q ∈ ps, allP L q) → ∀ q ∈ ps.foldl addPart found, allP L q
  | [], _, h, _ => h
  | p :: r, found, h, hp => by
    rw [List.foldl_cons]
    exact fold_all r _ (add_all L h (hp p (List.mem_cons_self ..))) fun q hq => hp q (List.mem_cons_of_mem _ hq)
theorem add_last {found : List Part} {p : Part} (h : ∀ q ∈ found, allP L q) (hp : lastP E L p) : TP E L (addPart found p) := by
  cases p with
  | clash b o t => exact .inr ⟨found, _, rfl, h, hp⟩
  | same ls =>
    cases ls with
    | nil => exact .inl h
    | cons l ls =>
      rcases List.eq_nil_or_concat found with rfl | ⟨init, x, rfl⟩
      · exact .inr ⟨[], _, rfl, (fun _ hq => nomatch hq), hp⟩
      · rw [List.concat_eq_append] at *
        cases x with
        | same xs =>
          have e : addPart (init ++ [Part.same xs]) (.same (l :: ls)) = init ++ [.same (xs ++ (l :: ls))] := by simp [addPart]
          rw [e]
          refine .inr ⟨init, _, rfl, fun q hq => h q (List.mem_append_left _ hq), ?_⟩
          have hx : ∀ y ∈ xs, L y := h (.same xs) (List.mem_append_right _ (List.mem_singleton.mpr rfl))
          rcases hp with hp | ⟨ys, h1, h2⟩
          · exact .inl fun y hy => (List.mem_append.mp hy).elim (hx y) (hp y)
          · refine .inr ⟨xs ++ ys, fun y hy => (List.mem_append.mp hy).elim (hx y) (h1 y), ?_⟩
            rw [h2, List.append_assoc]
        | clash b o t =>
          have e : addPart (init ++ [Part.clash b o t]) (.same (l :: ls)) = init ++ [.clash b o t] ++ [.same (l :: ls)] := by simp [addPart]
          rw [e]
          exact .inr ⟨_, _, rfl, h, hp⟩
/-- the raw parts: the last but one may end with E, nothing is behind it -/
def RP (ps : List Part) : Prop := (∀ p ∈ ps, allP L p) ∨ ∃ init p, ps = init ++ [p, .same []] ∧ (∀ q ∈ init, allP L q) ∧ lastP E L p
theorem tidy_TP {ps : List Part} (h : RP E L ps) : TP E L (tidyF ps) := by
  unfold tidyF
  rcases h with h | ⟨init, p, rfl, h1, h2⟩
  · exact .inl (fold_all L ps [] (fun _ hq => nomatch hq) h)
  · rw [List.foldl_append]
    show TP E L (addPart (init.foldl addPart []) p)
    exact add_last E L (fold_all L init [] (fun _ hq => nomatch hq) h1) h2
theorem join_all {old l r : List Str} (h1 : ∀ x ∈ old, L x) (h2 : ∀ x ∈ l, L x) (h3 : ∀ x ∈ r, L x) : allP L (joinP old l r) := by
  unfold joinP
  split
  · exact h2
  · split
    · exact h3
    · exact ⟨h1, h2, h3⟩
theorem join_last {old l r : List Str} (h1 : ∀ x ∈ old, L x) (h2 : LE E L l) (h3 : ∀ x ∈ r, L x) : lastP E L (joinP old l r) := by
  unfold joinP
  split
  · exact h2
  · split
    · exact .inl h3
    · exact ⟨h1, h2, h3⟩
/-- the spans do not go back, and end at n -/
def Asc (n : Nat) : Nat → List (Nat × Nat) → Prop
  | _, [] => True
  | i, p :: r => i ≤ p.1 ∧ p.1 ≤ p.2 ∧ p.2 ≤ n ∧ Asc n (p.2 + 1) r
theorem raw_RP {base : List Str} {f s : List Hunk} (hb : ∀ x ∈ base, L x) (hf : ∀ lo hi, hi ≤ base.length → LE E L (sideF base f lo hi) ∧ (hi < base.length → ∀ x ∈ sideF base f lo hi, L x)) (hs : ∀ lo hi, ∀ x ∈ sideF base s lo hi, L x) :
    ∀ (r : List (Nat × Nat)) (here i : Nat), Asc base.length i r → RP E L (rawF base f s here r)
  | [], here, i, _ => .inl fun p hp => by
    rw [List.mem_singleton.mp (show p ∈ [Part.same (base.drop here)] from hp)]
    exact fun x hx => hb x (List.mem_of_mem_drop hx)
  | (lo, hi) :: r, here, i, ⟨a1, a2, a3, a4⟩ => by
    have hc : ∀ u v : Nat, ∀ x ∈ cutL base u v, L x := fun u v x hx => hb x (List.mem_of_mem_drop (List.mem_of_mem_take hx))
    rw [rawF]
    by_cases e : hi < base.length
    · have q := join_all L (hc lo hi) ((hf lo hi a3).2 e) (hs lo hi)
      rcases raw_RP hb hf hs r hi _ a4 with h | ⟨init, p, h1, h2, h3⟩
      · refine .inl fun p hp => ?_
        rcases List.mem_cons.mp hp with rfl | hp
        · exact hc here lo
        · rcases List.mem_cons.mp hp with rfl | hp
          · exact q
          · exact h p hp
      · refine .inr ⟨.same (cutL base here lo) :: joinP (cutL base lo hi) (sideF base f lo hi) (sideF base s lo hi) :: init, p, ?_, ?_, h3⟩
        · rw [h1]; rfl
        · intro p hp
          rcases List.mem_cons.mp hp with rfl | hp
          · exact hc here lo
          · rcases List.mem_cons.mp hp with rfl | hp
            · exact q
            · exact h2 p hp
    · have e2 : hi = base.length := by have : hi ≤ base.length := a3; omega
      have e3 : r = [] := by
        cases r with
        | nil => rfl
        | cons p r =>
          obtain ⟨b1, b2, b3, _⟩ := a4
          have : hi + 1 ≤ p.1 := b1
          omega
      subst e3
      refine .inr ⟨[.same (cutL base here lo)], joinP (cutL base lo hi) (sideF base f lo hi) (sideF base s lo hi), ?_, ?_, join_last E L (hc lo hi) (hf lo hi a3).1 (hs lo hi)⟩
      · rw [rawF, e2, List.drop_length]; rfl
      · intro p hp
        rw [List.mem_singleton.mp hp]
        exact hc here lo
/-- the lines of a side -/
theorem rew_all {ls : List Str} {low : Nat} (hl : ∀ x ∈ ls, L x) : ∀ {hs : List Hunk} {here : Nat}, (∀ h ∈ hs, ∀ x ∈ h.come, L x) → ∀ x ∈ rewF ls low here hs, L x
  | [], here, _, x, hx => hl x (List.mem_of_mem_drop hx)
  | h :: r, here, hh, x, hx => by
    rw [rewF] at hx
    rcases List.mem_append.mp hx with hx | hx
    · rcases List.mem_append.mp hx with hx | hx
      · exact hl x (List.mem_of_mem_drop (List.mem_of_mem_take hx))
      · exact hh h (List.mem_cons_self ..) x hx
    · exact rew_all hl (fun g hg => hh g (List.mem_cons_of_mem _ hg)) x hx
/-- the changes whose last one may bring E -/
def HE (n : Nat) (hs : List Hunk) : Prop := ∀ h ∈ hs, LE E L h.come ∧ (h.start + h.gone.length < n → ∀ x ∈ h.come, L x)
theorem rew_LE {n : Nat} {base : List Str} {lo : Nat} (hn : n = base.length) (hb : ∀ x ∈ base, L x) : ∀ {hs : List Hunk} {here i : Nat}, Sep n i hs → HE E L n hs → (∀ h ∈ hs, lo ≤ h.start) → LE E L (rewF (cutL base lo n) lo here hs)
  | [], here, i, _, _, _ => .inl fun x hx => hb x (List.mem_of_mem_drop (List.mem_of_mem_take (List.mem_of_mem_drop hx)))
  | h :: r, here, i, ⟨s1, s2, s3⟩, he, hl => by
    obtain ⟨c1, c2⟩ := he h (List.mem_cons_self ..)
    have hc : ∀ u v : Nat, ∀ x ∈ cutL (cutL base lo n) u v, L x := fun u v x hx => hb x (List.mem_of_mem_drop (List.mem_of_mem_take (List.mem_of_mem_drop (List.mem_of_mem_take hx))))
    rw [rewF]
    by_cases e : h.start + h.gone.length < n
    · have q := c2 e
      rcases rew_LE hn hb (here := h.start - lo + h.gone.length) s3 (fun g hg => he g (List.mem_cons_of_mem _ hg)) fun g hg => hl g (List.mem_cons_of_mem _ hg) with w | ⟨xs, w1, w2⟩
      · refine .inl fun x hx => ?_
        rcases List.mem_append.mp hx with hx | hx
        · rcases List.mem_append.mp hx with hx | hx
          · exact hc _ _ x hx
          · exact q x hx
        · exact w x hx
      · refine .inr ⟨cutL (cutL base lo n) here (h.start - lo) ++ h.come ++ xs, fun x hx => ?_, by rw [w2]; simp [List.append_assoc]⟩
        rcases List.mem_append.mp hx with hx | hx
        · rcases List.mem_append.mp hx with hx | hx
          · exact hc _ _ x hx
          · exact q x hx
        · exact w1 x hx
    · have e2 : h.start + h.gone.length = n := by omega
      have e3 : r = [] := by
        cases r with
        | nil => rfl
        | cons g r =>
          obtain ⟨b1, b2, _⟩ := s3
          omega
      subst e3
      have e4 : (cutL base lo n).drop (h.start - lo + h.gone.length) = [] := by
        refine List.drop_eq_nil_of_le ?_
        rw [cutL_length base (by omega)]
        have := hl h (List.mem_cons_self ..)
        omega
      rw [rewF, e4, List.append_nil]
      rcases c1 with w | ⟨xs, w1, w2⟩
      · exact .inl fun x hx => (List.mem_append.mp hx).elim (hc _ _ x) (w x)
      · refine .inr ⟨cutL (cutL base lo n) here (h.start - lo) ++ xs, fun x hx => (List.mem_append.mp hx).elim (hc _ _ x) (w1 x), by rw [w2]; simp [List.append_assoc]⟩
theorem Sep.filter {n : Nat} (p : Hunk → Bool) : ∀ {hs : List Hunk} {i : Nat}, Sep n i hs → Sep n i (hs.filter p)
  | [], _, _ => trivial
  | h :: r, i, ⟨a, b, c⟩ => by
    rw [List.filter_cons]
    split
    · exact ⟨a, b, Sep.filter p c⟩
    · exact (Sep.filter p c).le (by omega)
theorem side_LE {base : List Str} {f : List Hunk} (hb : ∀ x ∈ base, L x) (sp : Sep base.length 0 f) (he : HE E L base.length f) (lo hi : Nat) (h : hi ≤ base.length) : LE E L (sideF base f lo hi) ∧ (hi < base.length → ∀ x ∈ sideF base f lo hi, L x) := by
  have w : ∀ g ∈ withinF f lo hi, g ∈ f ∧ lo ≤ g.start ∧ g.start + g.gone.length ≤ hi := fun g hg => by
    obtain ⟨h1, h2⟩ := List.mem_filter.mp hg
    simp only [Bool.and_eq_true, decide_eq_true_eq] at h2
    exact ⟨h1, h2⟩
  have q : hi < base.length → ∀ x ∈ sideF base f lo hi, L x := fun e => by
    refine rew_all L (fun x hx => hb x (List.mem_of_mem_drop (List.mem_of_mem_take hx))) fun g hg => ?_
    obtain ⟨h1, _, h3⟩ := w g hg
    exact (he g h1).2 (by omega)
  refine ⟨?_, q⟩
  by_cases e : hi < base.length
  · exact .inl (q e)
  · have e2 : hi = base.length := by omega
    subst e2
    exact rew_LE E L rfl hb (sp.filter _) (fun g hg => he g (w g hg).1) fun g hg => (w g hg).2.1
theorem side_all {base : List Str} {s : List Hunk} (hb : ∀ x ∈ base, L x) (hs : ∀ h ∈ s, ∀ x ∈ h.come, L x) (lo hi : Nat) : ∀ x ∈ sideF base s lo hi, L x :=
  rew_all L (fun x hx => hb x (List.mem_of_mem_drop (List.mem_of_mem_take hx))) fun g hg => hs g (List.mem_filter.mp hg).1
/-- spans of what does not go beyond n -/
theorem merge_asc {n : Nat} : ∀ (r : List (Nat × Nat)) (i : Nat) (cur : Nat × Nat), i ≤ cur.1 → cur.1 ≤ cur.2 → cur.2 ≤ n → (∀ p ∈ r, p.1 ≤ p.2 ∧ p.2 ≤ n) → Asc n i (mergeS cur r)
  | [], i, cur, h1, h2, h3, _ => ⟨h1, h2, h3, trivial⟩
  | p :: r, i, cur, h1, h2, h3, h4 => by
    obtain ⟨q1, q2⟩ := h4 p (List.mem_cons_self ..)
    have q := fun z hz => h4 z (List.mem_cons_of_mem _ hz)
    rw [mergeS]
    split
    · exact merge_asc r i _ h1 (by show cur.1 ≤ max cur.2 p.2; omega) (by show max cur.2 p.2 ≤ n; omega) q
    · exact ⟨h1, h2, h3, merge_asc r _ p (by omega) q1 q2 q⟩
theorem spansF_asc {n : Nat} {f s : List Hunk} (hf : ∀ h ∈ f, h.start + h.gone.length ≤ n) (hs : ∀ h ∈ s, h.start + h.gone.length ≤ n) : Asc n 0 (spansF f s) := by
  unfold spansF
  have m : ∀ p ∈ sortP ((f ++ s).map hspan), p.1 ≤ p.2 ∧ p.2 ≤ n := fun p hp => by
    obtain ⟨h, h1, rfl⟩ := List.mem_map.mp ((sortP_perm _).mem_iff.mp hp)
    refine ⟨Nat.le_add_right _ _, ?_⟩
    rcases List.mem_append.mp h1 with h1 | h1
    · exact hf h h1
    · exact hs h h1
  cases e : sortP ((f ++ s).map hspan) with
  | nil => exact trivial
  | cons p r =>
    rw [e] at m
    obtain ⟨q1, q2⟩ := m p (List.mem_cons_self ..)
    rw [spansS_cons]
    exact merge_asc r 0 p (Nat.zero_le _) q1 q2 fun z hz => m z (List.mem_cons_of_mem _ hz)
theorem parts_TP {base : List Str} {f s : List Hunk} (hb : ∀ x ∈ base, L x) (sf : Sep base.length 0 f) (ss : Sep base.length 0 s) (he : HE E L base.length f) (hs : ∀ h ∈ s, ∀ x ∈ h.come, L x) : TP E L (partsF base f s) :=
  tidy_TP E L (raw_RP E L hb (side_LE E L hb sf he) (side_all L hb hs) _ 0 0 (spansF_asc (fun h hm => (sf.ge h hm).2) fun h hm => (ss.ge h hm).2))
/-- the changes that lead to a row that ends with E -/
theorem hunksF_HE {one xs : List Str} (ho : ∀ x ∈ one, L x) (hx : ∀ x ∈ xs, L x) (hE : ¬ L E) : ∀ (ps : List (Nat × Nat)) (i j : Nat), Row one (xs ++ [E]) i j ps → i ≤ one.length → j ≤ xs.length + 1 → HE E L one.length (hunksF one (xs ++ [E]) i j (ps ++ [(one.length, (xs ++ [E]).length)]))
  | [], i, j, _, h1, h2 => by
    rw [List.nil_append, hunksF, hunksF, List.append_nil]
    split
    · intro h hm
      rw [List.mem_singleton.mp hm]
      refine ⟨?_, fun e => ?_⟩
      · show LE E L (cutL (xs ++ [E]) j (xs ++ [E]).length)
        rw [cutL_end _ (Nat.le_refl _)]
        by_cases e : j ≤ xs.length
        · rw [List.drop_append_of_le_length e]
          exact .inr ⟨_, fun x m => hx x (List.mem_of_mem_drop m), rfl⟩
        · rw [List.drop_eq_nil_of_le (by rw [List.length_append, List.length_singleton]; omega)]
          exact .inl fun _ m => nomatch m
      · exfalso
        have e' : i + (cutL one i one.length).length < one.length := e
        rw [cutL_length one (Nat.le_refl _)] at e'
        omega
    · intro h hm
      cases hm
  | (a, b) :: ps, i, j, ⟨r1, r2, r3, r4, r5, r6⟩, h1, h2 => by
    have hb : b < xs.length := by
      rw [List.length_append, List.length_singleton] at r4
      by_cases e : b < xs.length
      · exact e
      · exfalso
        have e2 : b = xs.length := by omega
        rw [e2, List.getElem?_append_right (Nat.le_refl _), Nat.sub_self] at r5
        refine hE (ho E ?_)
        exact List.mem_of_getElem? r5
    have q := hunksF_HE ho hx hE ps (a + 1) (b + 1) r6 r3 (by omega)
    rw [List.cons_append, hunksF]
    intro h hm
    rcases List.mem_append.mp hm with hm | hm
    · split at hm
      · rw [List.mem_singleton.mp hm]
        have w : ∀ x ∈ cutL (xs ++ [E]) j b, L x := fun x m => by
          unfold cutL at m
          by_cases e : j ≤ xs.length
          · rw [List.drop_append_of_le_length e, List.take_append_of_le_length (by rw [List.length_drop]; omega)] at m
            exact hx x (List.mem_of_mem_drop (List.mem_of_mem_take m))
          · rw [show b - j = 0 by omega, List.take_zero] at m
            cases m
        exact ⟨.inl w, fun _ => w⟩
      · cases hm
    · exact q h hm
end
/-! ### marked lines -/
open _root_.TL
/-- an ended line -/
def EndD (x : Str) : Prop := ∃ p, tl x = p ++ [10] ∧ 10 ∉ p
def endL (x : Str) : Str := if (tl x).getLast? = some 10 then x else mkS (tl x ++ [10])
def endF (ls : List Str) : List Str := ls.map endL
theorem endL_id {x : Str} (h : EndD x) : endL x = x := by
  obtain ⟨p, e, _⟩ := h
  unfold endL
  rw [e, if_pos (by simp)]
theorem endF_id : ∀ {ls : List Str}, (∀ x ∈ ls, EndD x) → endF ls = ls
  | [], _ => rfl
  | x :: r, h => by
    show endL x :: endF r = _
    rw [endL_id (h x (List.mem_cons_self ..)), endF_id fun y hy => h y (List.mem_cons_of_mem _ hy)]
/-- a text without an end of a line -/
def Op (x : Str) : Prop := 10 ∉ tl x ∧ tl x ≠ []
theorem endL_op {x : Str} (h : Op x) : endL x = mkS (tl x ++ [10]) := by
  unfold endL
  rw [if_neg fun e => h.1 (List.mem_of_getLast? e)]
theorem endD_op {x : Str} (h : Op x) : EndD (endL x) := by
  rw [endL_op h]
  exact ⟨tl x, rfl, h.1⟩
theorem linesN_end : ∀ (p cur t : List Nat), 10 ∉ p → linesN cur (p ++ 10 :: t) = (cur ++ p ++ [10]) :: linesN [] t
  | [], cur, t, _ => by
    rw [List.nil_append, linesN, if_pos rfl, List.append_nil]
  | c :: p, cur, t, h => by
    have hc : ¬ c = 10 := fun e => h (by rw [e]; exact List.mem_cons_self ..)
    rw [List.cons_append, linesN, if_neg hc, linesN_end p _ t fun e => h (List.mem_cons_of_mem _ e)]
    simp [List.append_assoc]
theorem linesN_op : ∀ (p cur : List Nat), 10 ∉ p → linesN cur p = if cur ++ p = [] then [] else [cur ++ p]
  | [], cur, _ => by rw [linesN, List.append_nil]
  | c :: p, cur, h => by
    have hc : ¬ c = 10 := fun e => h (by rw [e]; exact List.mem_cons_self ..)
    rw [linesN, if_neg hc, linesN_op p _ fun e => h (List.mem_cons_of_mem _ e)]
    simp [List.append_assoc]
theorem linesN_all (t : List Nat) : ∀ {ls : List Str}, (∀ x ∈ ls, EndD x) → linesN [] ((ls.map tl).flatten ++ t) = ls.map tl ++ linesN [] t
  | [], _ => rfl
  | x :: r, h => by
    obtain ⟨p, e, hp⟩ := h x (List.mem_cons_self ..)
    rw [List.map_cons, List.flatten_cons, e, List.append_assoc, List.append_assoc, List.singleton_append, linesN_end p [] _ hp, linesN_all t fun y hy => h y (List.mem_cons_of_mem _ hy)]
    rfl
theorem map_mk_tl (ls : List Str) : (ls.map tl).map mkS = ls := by
  rw [List.map_map]
  conv => rhs; rw [← List.map_id ls]
  exact List.map_congr_left fun x _ => mk_tl x
theorem linesN_LE {E : Str} (hE : Op E) {ls : List Str} (h : LE E EndD ls) : (linesN [] (ls.map tl).flatten).map mkS = ls := by
  rcases h with h | ⟨xs, h, rfl⟩
  · have q := linesN_all [] h
    rw [List.append_nil] at q
    rw [q, linesN, if_pos rfl, List.append_nil, map_mk_tl]
  · rw [List.map_append, List.flatten_append, linesN_all _ h]
    have e : linesN [] ([E].map tl).flatten = [tl E] := by
      rw [List.map_singleton, List.flatten_singleton, linesN_op _ [] hE.1, List.nil_append, if_neg hE.2]
    rw [e, List.map_append, map_mk_tl]
    rfl
section
variable (m0 m1 m2 m3 : Str)
def blkC (b o t : List Str) : List Str := [m0] ++ endF o ++ [m1] ++ endF b ++ [m2] ++ endF t ++ [m3]
def markF : List Str → List Part → List Str
  | found, [] => found
  | found, .same ls :: r => markF (found ++ ls) r
  | found, .clash b o t :: r => markF (endF found ++ blkC m0 m1 m2 m3 b o t) r
def blk : Part → List Str
  | .same ls => ls
  | .clash b o t => blkC m0 m1 m2 m3 b o t
structure Mk : Prop where
  e0 : EndD m0
  e1 : EndD m1
  e2 : EndD m2
  e3 : EndD m3
theorem endF_all {E : Str} (hE : Op E) {ls : List Str} (h : LE E EndD ls) : ∀ x ∈ endF ls, EndD x := fun x hx => by
  obtain ⟨y, hy, rfl⟩ := List.mem_map.mp hx
  rcases h with h | ⟨xs, h, rfl⟩
  · rw [endL_id (h y hy)]; exact h y hy
  · rcases List.mem_append.mp hy with hy | hy
    · rw [endL_id (h y hy)]; exact h y hy
    · rw [List.mem_singleton.mp hy]; exact endD_op hE
variable {m0 m1 m2 m3}
theorem blkC_all (M : Mk m0 m1 m2 m3) {E : Str} (hE : Op E) {b o t : List Str} (hb : LE E EndD b) (ho : LE E EndD o) (ht : LE E EndD t) : ∀ x ∈ blkC m0 m1 m2 m3 b o t, EndD x := by
  intro x hx
  unfold blkC at hx
  simp only [List.mem_append, List.mem_singleton] at hx
  rcases hx with (((((rfl | hx) | rfl) | hx) | rfl) | hx) | rfl
  · exact M.e0
  · exact endF_all hE ho x hx
  · exact M.e1
  · exact endF_all hE hb x hx
  · exact M.e2
  · exact endF_all hE ht x hx
  · exact M.e3
theorem blk_all (M : Mk m0 m1 m2 m3) {E : Str} (hE : Op E) {p : Part} (h : allP EndD p) : ∀ x ∈ blk m0 m1 m2 m3 p, EndD x := by
  cases p with
  | same ls => exact h
  | clash b o t => exact blkC_all M hE (.inl h.1) (.inl h.2.1) (.inl h.2.2)
theorem markF_all (M : Mk m0 m1 m2 m3) {E : Str} (hE : Op E) : ∀ {ps : List Part} {found : List Str} (rest : List Part), (∀ x ∈ found, EndD x) → (∀ p ∈ ps, allP EndD p) →
    markF m0 m1 m2 m3 found (ps ++ rest) = markF m0 m1 m2 m3 (found ++ ps.flatMap (blk m0 m1 m2 m3)) rest ∧ ∀ x ∈ found ++ ps.flatMap (blk m0 m1 m2 m3), EndD x
  | [], found, rest, h, _ => by
    rw [List.flatMap_nil, List.append_nil]
    exact ⟨rfl, h⟩
  | p :: r, found, rest, h, hp => by
    have hq := blk_all M hE (hp p (List.mem_cons_self ..))
    have e : markF m0 m1 m2 m3 found (p :: r ++ rest) = markF m0 m1 m2 m3 (found ++ blk m0 m1 m2 m3 p) (r ++ rest) := by
      cases p with
      | same ls => rfl
      | clash b o t =>
        show markF m0 m1 m2 m3 (endF found ++ _) _ = _
        rw [endF_id h]
        rfl
    have q := markF_all M hE (found := found ++ blk m0 m1 m2 m3 p) rest (fun x hx => (List.mem_append.mp hx).elim (h x) (hq x)) fun z hz => hp z (List.mem_cons_of_mem _ hz)
    rw [e, List.flatMap_cons, ← List.append_assoc]
    exact q
theorem markF_TP (M : Mk m0 m1 m2 m3) {E : Str} (hE : Op E) {ps : List Part} (h : TP E EndD ps) : markF m0 m1 m2 m3 [] ps = ps.flatMap (blk m0 m1 m2 m3) ∧ LE E EndD (markF m0 m1 m2 m3 [] ps) := by
  rcases h with h | ⟨init, p, rfl, h1, h2⟩
  · obtain ⟨q1, q2⟩ := markF_all M hE (found := []) [] (fun _ hx => nomatch hx) h
    rw [List.append_nil] at q1
    rw [q1]
    exact ⟨by show [] ++ _ = _; rw [List.nil_append], .inl q2⟩
  · obtain ⟨q1, q2⟩ := markF_all M hE (found := []) [p] (fun _ hx => nomatch hx) h1
    rw [q1, List.flatMap_append, List.flatMap_singleton]
    rw [List.nil_append] at q2 ⊢
    cases p with
    | same ls =>
      refine ⟨rfl, ?_⟩
      rcases h2 with h2 | ⟨xs, w1, w2⟩
      · exact .inl fun x hx => (List.mem_append.mp hx).elim (q2 x) (h2 x)
      · exact .inr ⟨init.flatMap (blk m0 m1 m2 m3) ++ xs, fun x hx => (List.mem_append.mp hx).elim (q2 x) (w1 x), by
          show _ ++ ls = _
          rw [w2, List.append_assoc]⟩
    | clash b o t =>
      obtain ⟨w1, w2, w3⟩ := h2
      have e : markF m0 m1 m2 m3 (init.flatMap (blk m0 m1 m2 m3)) [.clash b o t] = init.flatMap (blk m0 m1 m2 m3) ++ blkC m0 m1 m2 m3 b o t := by
        show endF _ ++ _ = _
        rw [endF_id q2]
      rw [e]
      refine ⟨rfl, .inl fun x hx => (List.mem_append.mp hx).elim (q2 x) ?_⟩
      exact blkC_all M hE (.inl w1) w2 (.inl w3) x
end
/-! #### read again -/
abbrev T3 := List Str × List Str × List Str
def put3 : Nat → Str → T3 → T3
  | 0, x, (a, b, c) => (a ++ [x], b, c)
  | 1, x, (a, b, c) => (a, b ++ [x], c)
  | _, x, (a, b, c) => (a, b, c ++ [x])
structure CS where
  found : List T3
  rows : T3
  here : Option Nat
section
variable (s0 s1 s2 s3 : List Nat)
abbrev sgn (x : Str) : List Nat := (tl x).take 7
def stepC (s : CS) (x : Str) : CS := match s.here with
  | none => if sgn x = s0 then ⟨s.found, ([], [], []), some 0⟩ else s
  | some 0 => if sgn x = s1 then ⟨s.found, s.rows, some 1⟩ else ⟨s.found, put3 0 x s.rows, some 0⟩
  | some 1 => if sgn x = s2 then ⟨s.found, s.rows, some 2⟩ else ⟨s.found, put3 1 x s.rows, some 1⟩
  | some n => if sgn x = s3 then ⟨s.found ++ [s.rows], s.rows, none⟩ else ⟨s.found, put3 n x s.rows, some n⟩
/-- not one of the signs -/
def NoS (x : Str) : Prop := sgn x ≠ s0 ∧ sgn x ≠ s1 ∧ sgn x ≠ s2 ∧ sgn x ≠ s3
variable {s0 s1 s2 s3}
theorem fold_none : ∀ {ls : List Str} {f : List T3} {r : T3}, (∀ x ∈ ls, NoS s0 s1 s2 s3 x) → ls.foldl (stepC s0 s1 s2 s3) ⟨f, r, none⟩ = ⟨f, r, none⟩
  | [], _, _, _ => rfl
  | x :: l, f, r, h => by
    have q := h x (List.mem_cons_self ..)
    rw [List.foldl_cons]
    have e : stepC s0 s1 s2 s3 ⟨f, r, none⟩ x = ⟨f, r, none⟩ := by
      show (if sgn x = s0 then _ else _) = _
      rw [if_neg q.1]
    rw [e]
    exact fold_none fun y hy => h y (List.mem_cons_of_mem _ hy)
theorem fold0 : ∀ {ls : List Str} {f : List T3} {a b c : List Str}, (∀ x ∈ ls, NoS s0 s1 s2 s3 x) → ls.foldl (stepC s0 s1 s2 s3) ⟨f, (a, b, c), some 0⟩ = ⟨f, (a ++ ls, b, c), some 0⟩
  | [], _, a, _, _, _ => by rw [List.append_nil]; rfl
  | x :: l, f, a, b, c, h => by
    have q := h x (List.mem_cons_self ..)
    rw [List.foldl_cons]
    have e : stepC s0 s1 s2 s3 ⟨f, (a, b, c), some 0⟩ x = ⟨f, (a ++ [x], b, c), some 0⟩ := by
      show (if sgn x = s1 then _ else _) = _
      rw [if_neg q.2.1]; rfl
    rw [e, fold0 fun y hy => h y (List.mem_cons_of_mem _ hy), List.append_assoc]; rfl
theorem fold1 : ∀ {ls : List Str} {f : List T3} {a b c : List Str}, (∀ x ∈ ls, NoS s0 s1 s2 s3 x) → ls.foldl (stepC s0 s1 s2 s3) ⟨f, (a, b, c), some 1⟩ = ⟨f, (a, b ++ ls, c), some 1⟩
  | [], _, _, b, _, _ => by rw [List.append_nil]; rfl
  | x :: l, f, a, b, c, h => by
    have q := h x (List.mem_cons_self ..)
    rw [List.foldl_cons]
    have e : stepC s0 s1 s2 s3 ⟨f, (a, b, c), some 1⟩ x = ⟨f, (a, b ++ [x], c), some 1⟩ := by
      show (if sgn x = s2 then _ else _) = _
      rw [if_neg q.2.2.1]; rfl
    rw [e, fold1 fun y hy => h y (List.mem_cons_of_mem _ hy), List.append_assoc]; rfl
theorem fold2 : ∀ {ls : List Str} {f : List T3} {a b c : List Str}, (∀ x ∈ ls, NoS s0 s1 s2 s3 x) → ls.foldl (stepC s0 s1 s2 s3) ⟨f, (a, b, c), some 2⟩ = ⟨f, (a, b, c ++ ls), some 2⟩
  | [], _, _, _, c, _ => by rw [List.append_nil]; rfl
  | x :: l, f, a, b, c, h => by
    have q := h x (List.mem_cons_self ..)
    rw [List.foldl_cons]
    have e : stepC s0 s1 s2 s3 ⟨f, (a, b, c), some 2⟩ x = ⟨f, (a, b, c ++ [x]), some 2⟩ := by
      show (if sgn x = s3 then _ else _) = _
      rw [if_neg q.2.2.2]; rfl
    rw [e, fold2 fun y hy => h y (List.mem_cons_of_mem _ hy), List.append_assoc]; rfl
structure Sg (m0 m1 m2 m3 : Str) : Prop where
  g0 : sgn m0 = s0
  g1 : sgn m1 = s1
  g2 : sgn m2 = s2
  g3 : sgn m3 = s3
def clashT : List Part → List T3
  | [] => []
  | .same _ :: r => clashT r
  | .clash b o t :: r => (endF o, endF b, endF t) :: clashT r
theorem fold_blk {m0 m1 m2 m3 : Str} (G : Sg (s0 := s0) (s1 := s1) (s2 := s2) (s3 := s3) m0 m1 m2 m3) {b o t : List Str} {f : List T3} {r : T3} (hb : ∀ x ∈ endF b, NoS s0 s1 s2 s3 x) (ho : ∀ x ∈ endF o, NoS s0 s1 s2 s3 x) (ht : ∀ x ∈ endF t, NoS s0 s1 s2 s3 x) :
    (blkC m0 m1 m2 m3 b o t).foldl (stepC s0 s1 s2 s3) ⟨f, r, none⟩ = ⟨f ++ [(endF o, endF b, endF t)], (endF o, endF b, endF t), none⟩ := by
  unfold blkC
  have e0 : ([m0] : List Str).foldl (stepC s0 s1 s2 s3) ⟨f, r, none⟩ = ⟨f, ([], [], []), some 0⟩ := by
    show (if sgn m0 = s0 then _ else _) = _
    rw [if_pos G.g0]
  have e1 : ([m1] : List Str).foldl (stepC s0 s1 s2 s3) ⟨f, (endF o, [], []), some 0⟩ = ⟨f, (endF o, [], []), some 1⟩ := by
    show (if sgn m1 = s1 then _ else _) = _
    rw [if_pos G.g1]
  have e2 : ([m2] : List Str).foldl (stepC s0 s1 s2 s3) ⟨f, (endF o, endF b, []), some 1⟩ = ⟨f, (endF o, endF b, []), some 2⟩ := by
    show (if sgn m2 = s2 then _ else _) = _
    rw [if_pos G.g2]
  have e3 : ([m3] : List Str).foldl (stepC s0 s1 s2 s3) ⟨f, (endF o, endF b, endF t), some 2⟩ = ⟨f ++ [(endF o, endF b, endF t)], (endF o, endF b, endF t), none⟩ := by
    show (if sgn m3 = s3 then _ else _) = _
    rw [if_pos G.g3]
  rw [List.foldl_append, List.foldl_append, List.foldl_append, List.foldl_append, List.foldl_append, List.foldl_append, e0, fold0 ho, List.nil_append, e1, fold1 hb, List.nil_append, e2, fold2 ht, List.nil_append, e3]
/-- all lines of a part, ended too, are no signs -/
def partNo (p : Part) : Prop := match p with
  | .same ls => ∀ x ∈ ls, NoS s0 s1 s2 s3 x
  | .clash b o t => (∀ x ∈ endF b, NoS s0 s1 s2 s3 x) ∧ (∀ x ∈ endF o, NoS s0 s1 s2 s3 x) ∧ ∀ x ∈ endF t, NoS s0 s1 s2 s3 x
theorem fold_parts {m0 m1 m2 m3 : Str} (G : Sg (s0 := s0) (s1 := s1) (s2 := s2) (s3 := s3) m0 m1 m2 m3) : ∀ {ps : List Part} {f : List T3} {r : T3}, (∀ p ∈ ps, partNo (s0 := s0) (s1 := s1) (s2 := s2) (s3 := s3) p) →
    ∃ r', (ps.flatMap (blk m0 m1 m2 m3)).foldl (stepC s0 s1 s2 s3) ⟨f, r, none⟩ = ⟨f ++ clashT ps, r', none⟩
  | [], f, r, _ => ⟨r, by rw [List.flatMap_nil, clashT, List.append_nil]; rfl⟩
  | .same ls :: q, f, r, h => by
    obtain ⟨r', e⟩ := fold_parts G (ps := q) (f := f) (r := r) fun p hp => h p (List.mem_cons_of_mem _ hp)
    refine ⟨r', ?_⟩
    rw [List.flatMap_cons, List.foldl_append]
    show List.foldl _ (List.foldl _ _ ls) _ = _
    rw [fold_none (h (.same ls) (List.mem_cons_self ..)), e]; rfl
  | .clash b o t :: q, f, r, h => by
    obtain ⟨h1, h2, h3⟩ := h (.clash b o t) (List.mem_cons_self ..)
    obtain ⟨r', e⟩ := fold_parts G (ps := q) (f := f ++ [(endF o, endF b, endF t)]) (r := (endF o, endF b, endF t)) fun p hp => h p (List.mem_cons_of_mem _ hp)
    refine ⟨r', ?_⟩
    rw [List.flatMap_cons, List.foldl_append]
    show List.foldl _ (List.foldl _ _ (blkC m0 m1 m2 m3 b o t)) _ = _
    rw [fold_blk G h1 h2 h3, e, clashT, List.append_assoc]; rfl
end
end VK
end

section
set_option Elab.async false
set_option linter.all false
set_option pp.maxSteps 1500
set_option maxRecDepth 100000
set_option maxHeartbeats 4000000
namespace VK
open PySem L2
/-! ### parts as data -/
abbrev partD : Part → PyData
  | .same ls => .tuple [.str "same", linesD ls]
  | .clash b o t => .tuple [.str "clash", linesD b, linesD o, linesD t]
abbrev partsD (ps : List Part) : PyData := .tuple (ps.map partD)
theorem imm_part : ∀ p : Part, imm (partD p) = true
  | .same ls => by
    show (true && (imm (linesD ls) && true)) = true
    rw [imm_lines]; rfl
  | .clash b o t => by
    show (true && (imm (linesD b) && (imm (linesD o) && (imm (linesD t) && true)))) = true
    rw [imm_lines, imm_lines, imm_lines]; rfl
theorem parts_keep {K : PySem.W.Frag} {H H' : Hp} (t : TK K H H') {vs : List V} {ps : List Part} (h : DpAll K H vs (ps.map partD)) : DpAll K H' vs (ps.map partD) :=
  dpAll_keep t _ _ (immAll_map _ imm_part ps) h
theorem of_same {K : PySem.W.Frag} {H : Hp} {v : V} {ls : List Str} (q : Dp K H v (partD (.same ls))) : ∃ a b, v = .ref a ∧ SqT K H a [.str "same", .ref b] ∧ SqT K H b (ls.map V.str) := by
  cases q with
  | tup q r =>
    cases r with
    | cons x r =>
      cases x
      cases r with
      | cons y r =>
        cases r
        obtain ⟨b, rfl, hb⟩ := of_lines y
        exact ⟨_, b, rfl, q, hb⟩
theorem of_clash {K : PySem.W.Frag} {H : Hp} {v : V} {b o t : List Str} (q : Dp K H v (partD (.clash b o t))) : ∃ a x y z, v = .ref a ∧ SqT K H a [.str "clash", .ref x, .ref y, .ref z] ∧ SqT K H x (b.map V.str) ∧ SqT K H y (o.map V.str) ∧ SqT K H z (t.map V.str) := by
  cases q with
  | tup q r =>
    cases r with
    | cons x r =>
      cases x
      cases r with
      | cons y r =>
        cases r with
        | cons z r =>
          cases r with
          | cons w r =>
            cases r
            obtain ⟨b, rfl, hb⟩ := of_lines y
            obtain ⟨c, rfl, hc⟩ := of_lines z
            obtain ⟨d, rfl, hd⟩ := of_lines w
            exact ⟨_, b, c, d, rfl, q, hb, hc, hd⟩
theorem dp_same {K : PySem.W.Frag} {H : Hp} {a b : Addr} {ls : List Str} (q : SqT K H a [.str "same", .ref b]) (hb : SqT K H b (ls.map V.str)) : Dp K H (.ref a) (partD (.same ls)) :=
  .tup q (.cons (.str _) (.cons (dp_lines hb) .nil))
theorem dp_clash {K : PySem.W.Frag} {H : Hp} {a x y z : Addr} {b o t : List Str} (q : SqT K H a [.str "clash", .ref x, .ref y, .ref z]) (hb : SqT K H x (b.map V.str)) (ho : SqT K H y (o.map V.str)) (ht : SqT K H z (t.map V.str)) : Dp K H (.ref a) (partD (.clash b o t)) :=
  .tup q (.cons (.str _) (.cons (dp_lines hb) (.cons (dp_lines ho) (.cons (dp_lines ht) .nil))))
/-- the sign of a part -/
def tagP : Part → Str
  | .same _ => "same"
  | .clash _ _ _ => "clash"
theorem of_part {K : PySem.W.Frag} {H : Hp} {v : V} {p : Part} (q : Dp K H v (partD p)) : ∃ a r, v = .ref a ∧ SqT K H a (.str (tagP p) :: r) := by
  cases p with
  | same ls =>
    obtain ⟨a, b, rfl, h, _⟩ := of_same q
    exact ⟨a, _, rfl, h⟩
  | clash b o t =>
    obtain ⟨a, x, y, z, rfl, h, _⟩ := of_clash q
    exact ⟨a, _, rfl, h⟩
/-! equal data -/
def OkL (ls : List Str) : Prop := ∀ x ∈ ls, PyData.strOk x = true
def okP : Part → Prop
  | .same ls => OkL ls
  | .clash b o t => OkL b ∧ OkL o ∧ OkL t
theorem okP_of {p : Part} (h : allP (fun x => PyData.strOk x = true) p) : okP p := by
  cases p with
  | same ls => exact h
  | clash b o t => exact h
theorem okD_part {p : Part} (h : okP p) : OkD 2 (partD p) := by
  cases p with
  | same ls => exact okD_two (okD_mono (okD_str (by decide +kernel)) (by decide)) (okD_lines h)
  | clash b o t =>
    obtain ⟨h1, h2, h3⟩ := h
    have a0 : OkD 1 (PyData.str ("clash" : Str)) := okD_mono (okD_str (by decide +kernel)) (by decide)
    have a1 := okD_lines h1
    have a2 := okD_lines h2
    have a3 := okD_lines h3
    refine ⟨?_, ?_⟩
    · show ((PyData.str ("clash" : Str)).canLay0 && ((linesD b).canLay0 && ((linesD o).canLay0 && ((linesD t).canLay0 && true)))) = true
      rw [a0.1, a1.1, a2.1, a3.1]; rfl
    · simp only [PyData.depth, PyData.depthAll]
      have q0 := a0.2
      have q1 := a1.2
      have q2 := a2.2
      have q3 := a3.2
      simp only [PyData.depth] at q1 q2 q3
      omega
theorem okD_parts {ps : List Part} (h : ∀ p ∈ ps, okP p) : OkD 3 (partsD ps) := okD_tup fun p hp => okD_part (h p hp)
theorem eqvAll_strs : ∀ (a b : List Str), PyData.eqvAll (a.map PyData.str) (b.map PyData.str) = decide (a = b)
  | [], [] => rfl
  | [], _ :: _ => rfl
  | _ :: _, [] => rfl
  | x :: a, y :: b => by
    show (x == y && PyData.eqvAll (a.map PyData.str) (b.map PyData.str)) = _
    rw [eqvAll_strs a b]
    by_cases e : x = y
    · subst e
      by_cases e2 : a = b
      · subst e2; simp
      · simp [e2]
    · simp [e]
theorem eqv_lines (a b : List Str) : PyData.eqv (linesD a) (linesD b) = decide (a = b) := eqvAll_strs a b
/-- lines compared -/
theorem eq_lines {K : PySem.W.Frag} {H : Hp} {a b : Addr} {xs ys : List Str} {Q : VK} (h1 : SqT K H a (xs.map V.str)) (h2 : SqT K H b (ys.map V.str)) (o1 : OkL xs) (o2 : OkL ys) (q : Q (.bl (decide (xs = ys))) H) : rEqD K (.ref a) (.ref b) H Q := by
  refine ⟨_, _, dp_lines h1, dp_lines h2, (okD_lines o1).shaped (by decide), (okD_lines o2).shaped (by decide), ?_⟩
  rw [eqv_lines]; exact q
/-! sizes -/
def plP : Part → Nat
  | .same ls => ls.length
  | .clash b o t => max b.length (max o.length t.length)
theorem add_len (found : List Part) (p : Part) : (addPart found p).length ≤ found.length + 1 := by
  cases p with
  | clash b o t => simp [addPart]
  | same ls =>
    cases ls with
    | nil => exact Nat.le_succ _
    | cons l ls =>
      rcases List.eq_nil_or_concat found with rfl | ⟨init, x, rfl⟩
      · exact Nat.le_refl _
      · rw [List.concat_eq_append]
        cases x with
        | same xs => simp [addPart]
        | clash b o t => simp [addPart]
theorem add_plP {found : List Part} {p : Part} {m k : Nat} (h : ∀ q ∈ found, plP q ≤ m) (hp : plP p ≤ k) : ∀ q ∈ addPart found p, plP q ≤ m + k := by
  have h' : ∀ q ∈ found, plP q ≤ m + k := fun q hq => Nat.le_trans (h q hq) (Nat.le_add_right _ _)
  cases p with
  | clash b o t =>
    intro q hq
    rcases List.mem_append.mp hq with hq | hq
    · exact h' q hq
    · rw [List.mem_singleton.mp hq]; omega
  | same ls =>
    cases ls with
    | nil => exact h'
    | cons l ls =>
      rcases List.eq_nil_or_concat found with rfl | ⟨init, x, rfl⟩
      · intro q hq
        rw [List.mem_singleton.mp (show q ∈ [Part.same (l :: ls)] from hq)]; omega
      · rw [List.concat_eq_append] at *
        cases x with
        | same xs =>
          have e : addPart (init ++ [Part.same xs]) (.same (l :: ls)) = init ++ [.same (xs ++ (l :: ls))] := by simp [addPart]
          rw [e]
          intro q hq
          rcases List.mem_append.mp hq with hq | hq
          · exact h' q (List.mem_append_left _ hq)
          · rw [List.mem_singleton.mp hq]
            have q1 : xs.length ≤ m := h (.same xs) (List.mem_append_right _ (List.mem_singleton.mpr rfl))
            have q2 : (l :: ls).length ≤ k := hp
            show (xs ++ (l :: ls)).length ≤ m + k
            rw [List.length_append]
            omega
        | clash b o t =>
          have e : addPart (init ++ [Part.clash b o t]) (.same (l :: ls)) = init ++ [.clash b o t] ++ [.same (l :: ls)] := by simp [addPart]
          rw [e]
          intro q hq
          rcases List.mem_append.mp hq with hq | hq
          · exact h' q hq
          · rw [List.mem_singleton.mp hq]; omega
theorem fold_sz {k : Nat} : ∀ (ps found : List Part) (m : Nat), (∀ q ∈ found, plP q ≤ m) → (∀ q ∈ ps, plP q ≤ k) → (ps.foldl addPart found).length ≤ found.length + ps.length ∧ ∀ q ∈ ps.foldl addPart found, plP q ≤ m + ps.length * k
  | [], found, m, h, _ => ⟨Nat.le_refl _, fun q hq => Nat.le_trans (h q hq) (Nat.le_add_right _ _)⟩
  | p :: r, found, m, h, hp => by
    obtain ⟨h1, h2⟩ := fold_sz r (addPart found p) (m + k) (add_plP h (hp p (List.mem_cons_self ..))) fun q hq => hp q (List.mem_cons_of_mem _ hq)
    have q1 := add_len found p
    rw [List.foldl_cons, List.length_cons]
    refine ⟨by omega, fun q hq => Nat.le_trans (h2 q hq) ?_⟩
    rw [Nat.add_mul]
    omega
theorem tidy_sz {k : Nat} {ps : List Part} (h : ∀ q ∈ ps, plP q ≤ k) : (tidyF ps).length ≤ ps.length ∧ ∀ q ∈ tidyF ps, plP q ≤ ps.length * k := by
  obtain ⟨h1, h2⟩ := fold_sz ps [] 0 (fun _ hq => nomatch hq) h
  refine ⟨by unfold tidyF; simpa using h1, fun q hq => ?_⟩
  have := h2 q hq
  omega
theorem raw_len (base : List Str) (f s : List Hunk) : ∀ (r : List (Nat × Nat)) (here : Nat), (rawF base f s here r).length = 2 * r.length + 1
  | [], _ => rfl
  | (lo, hi) :: r, here => by
    rw [rawF, List.length_cons, List.length_cons, raw_len base f s r hi, List.length_cons]
    omega
theorem cut_le {α : Type} (xs : List α) (i h : Nat) : (cutL xs i h).length ≤ xs.length := cutL_len xs i h
theorem rew_len {m : Nat} (ls : List Str) (low : Nat) (hl : ls.length ≤ m) : ∀ (hs : List Hunk) (here : Nat), (∀ h ∈ hs, h.come.length ≤ m) → (rewF ls low here hs).length ≤ (2 * hs.length + 1) * m
  | [], here, _ => by
    rw [rewF, List.length_drop]; simp; omega
  | h :: r, here, hc => by
    have q1 := rew_len ls low hl r (h.start - low + h.gone.length) fun g hg => hc g (List.mem_cons_of_mem _ hg)
    have q2 := hc h (List.mem_cons_self ..)
    have q3 := cut_le ls here (h.start - low)
    rw [rewF, List.length_append, List.length_append, List.length_cons]
    have e : (2 * (r.length + 1) + 1) * m = (2 * r.length + 1) * m + 2 * m := by
      rw [← Nat.add_mul]
      congr 1
    omega
theorem side_len {m : Nat} {base : List Str} {f : List Hunk} (hb : base.length ≤ m) (hf : f.length ≤ m + 1) (hc : ∀ h ∈ f, h.come.length ≤ m) (lo hi : Nat) : (sideF base f lo hi).length ≤ (2 * m + 3) * m := by
  unfold sideF
  have q := rew_len (m := m) (cutL base lo hi) lo (Nat.le_trans (cut_le base lo hi) hb) (withinF f lo hi) 0 fun h hh => hc h (List.mem_filter.mp hh).1
  have q2 : (withinF f lo hi).length ≤ f.length := List.length_filter_le _ _
  exact Nat.le_trans q (Nat.mul_le_mul_right m (by omega))
theorem join_plP {old l r : List Str} {k : Nat} (h1 : old.length ≤ k) (h2 : l.length ≤ k) (h3 : r.length ≤ k) : plP (joinP old l r) ≤ k := by
  unfold joinP
  split
  · exact h2
  · split
    · exact h3
    · show max _ (max _ _) ≤ k
      omega
theorem raw_plP {m : Nat} {base : List Str} {f s : List Hunk} (hb : base.length ≤ m) (hf : f.length ≤ m + 1) (hs : s.length ≤ m + 1) (hcf : ∀ h ∈ f, h.come.length ≤ m) (hcs : ∀ h ∈ s, h.come.length ≤ m) : ∀ (r : List (Nat × Nat)) (here : Nat), ∀ p ∈ rawF base f s here r, plP p ≤ (2 * m + 3) * m
  | [], here, p, hp => by
    rw [List.mem_singleton.mp (show p ∈ [Part.same (base.drop here)] from hp)]
    show (base.drop here).length ≤ _
    rw [List.length_drop]
    have : m ≤ (2 * m + 3) * m := Nat.le_mul_of_pos_left m (by omega)
    omega
  | (lo, hi) :: r, here, p, hp => by
    have h0 : m ≤ (2 * m + 3) * m := Nat.le_mul_of_pos_left m (by omega)
    rw [rawF] at hp
    rcases List.mem_cons.mp hp with rfl | hp
    · show (cutL base here lo).length ≤ _
      have := cut_le base here lo
      omega
    · rcases List.mem_cons.mp hp with rfl | hp
      · exact join_plP (by have := cut_le base lo hi; omega) (side_len hb hf hcf lo hi) (side_len hb hs hcs lo hi)
      · exact raw_plP hb hf hs hcf hcs r hi p hp
theorem merge_len : ∀ (r : List (Nat × Nat)) (cur : Nat × Nat), (mergeS cur r).length ≤ r.length + 1
  | [], _ => Nat.le_refl _
  | p :: r, cur => by
    rw [mergeS]
    split
    · exact Nat.le_succ_of_le (merge_len r _)
    · exact Nat.succ_le_succ (merge_len r p)
theorem spansS_len (ps : List (Nat × Nat)) : (spansS ps).length ≤ ps.length := by
  cases ps with
  | nil => exact Nat.le_refl _
  | cons p r => rw [spansS_cons]; exact merge_len r p
theorem spansF_len (f s : List Hunk) : (spansF f s).length ≤ f.length + s.length := by
  unfold spansF
  refine Nat.le_trans (spansS_len _) ?_
  rw [(sortP_perm _).length_eq, List.length_map, List.length_append]
  exact Nat.le_refl _
end VK
end

section
set_option Elab.async false
set_option linter.all false
set_option pp.maxSteps 1500
set_option maxRecDepth 100000
set_option maxHeartbeats 4000000
namespace VK
open PySem L2
/-! rules for a comprehension's block -/
theorem pg_tupQ {X : Cx} {K : PySem.W.Frag} (hK : X.K = K) {es : List Expr} {k : Nat} {t : TGs} {n : Nat} {pos : Pos} (hc : X.calm = true) (h : PGs X es t)
    (hn : (assignEach es X.env).length = n := by rfl) (hst : (assignEach es X.env).findIdx? (·.1) = none := by rfl) : PG X (.Tuple es k pos) (gTup K n t) := by
  subst hK
  exact pg_tup hc h hn hst
theorem sl_tupAQ {X : Cx} {K : PySem.W.Frag} (hK : X.K = K) : SlR X (rSlA K) := by
  subst hK
  exact sl_tupA
/-- lines behind each other -/
theorem cat_linesB {K : PySem.W.Frag} {H : Hp} {a b : Addr} {xs ys : List Str} {Q : VK} (hx : SqT K H a (xs.map V.str)) (hy : SqT K H b (ys.map V.str)) (hl : xs.length + ys.length ≤ 10000000) (k : ∀ H' p, Same H H' → SqT K H' p ((xs ++ ys).map V.str) → Q (.ref p) H') : rCatA K (.ref a) (.ref b) H Q :=
  cat_tupK hx hy (by rw [List.length_map, List.length_map]; exact Nat.le_trans hl (by decide)) fun H' p s q => k H' p s (by rw [List.map_append]; exact q)
/-- the last item -/
theorem ix_last {xs : List V} {v : V} : ixN (xs ++ [v]).length (-1) = some xs.length := by
  unfold ixN
  rw [List.length_append]
  simp
  omega
theorem at_last {xs : List V} {v : V} : atI (xs ++ [v]) (-1) = some v := by
  unfold atI
  rw [ix_last]
  simp
theorem set_last {α : Type} {xs : List α} {v w : α} : (xs ++ [v]).set xs.length w = xs ++ [w] := by
  rw [List.set_append]
  simp
theorem at_head {x : V} {r : List V} : atI (x :: r) 0 = some x := by
  unfold atI ixN
  rw [List.length_cons, if_pos (Int.le_refl 0), if_pos (by omega)]
  rfl
end VK
end

section
set_option Elab.async false
set_option linter.all false
set_option pp.maxSteps 1500
set_option maxRecDepth 100000
set_option maxHeartbeats 4000000
namespace VK
open PySem L2
/-- the last sign -/
theorem cutS_last (x : Str) : decide (V.str (cutS x (some (-1)) none) = V.str ("\n" : Str)) = decide ((x.cps.toList).getLast? = some 10) := by
  have lx : x.length = x.cps.toList.length := (Array.length_toList).symm
  have e0 : cutS x (some (-1)) none = mkS (x.cps.toList.drop (x.cps.toList.length - 1)) := by
    unfold cutS
    rw [HT.sIx_none, lx]
    have e1 : HT.sIx x.cps.toList.length 0 (some (-1)) = x.cps.toList.length - 1 := by
      unfold HT.sIx
      simp
      omega
    rw [e1, List.take_of_length_le]
    rw [List.length_drop]
    omega
  rw [e0]
  rcases List.eq_nil_or_concat x.cps.toList with e | ⟨p, c, e⟩
  · rw [e]; decide +kernel
  · rw [e, List.concat_eq_append]
    have e2 : (p ++ [c]).drop ((p ++ [c]).length - 1) = [c] := by
      rw [List.length_append, List.length_singleton, Nat.add_sub_cancel, List.drop_append_of_le_length (Nat.le_refl _), List.drop_length]; rfl
    rw [e2, List.getLast?_append]
    have e3 : (V.str (mkS [c]) = V.str ("\n" : Str)) ↔ c = 10 := by
      constructor
      · intro h
        have h2 : [c] = [10] := congrArg (fun z : Str => z.cps.toList) (V.str.inj h)
        injection h2
      · rintro rfl; rfl
    by_cases h : c = 10
    · rw [decide_eq_true (e3.mpr h), decide_eq_true]
      simp [h]
    · rw [decide_eq_false (fun q => h (e3.mp q)), decide_eq_false]
      simp [h]
theorem endL_yes {x : Str} (h : x.cps.toList.getLast? = some 10) : endL x = x := by
  unfold endL
  rw [if_pos h]
theorem endL_no {x : Str} (h : ¬ x.cps.toList.getLast? = some 10) : endL x = x ++ ("\n" : Str) := by
  unfold endL
  rw [if_neg h]
  refine _root_.TL.ext_tl ?_
  show x.cps.toList ++ [10] = (x.cps ++ #[10]).toList
  simp
theorem endL_len (x : Str) : (endL x).length ≤ x.length + 1 := by
  by_cases h : x.cps.toList.getLast? = some 10
  · rw [endL_yes h]; omega
  · rw [endL_no h]
    show (x.cps ++ #[10]).size ≤ x.cps.size + 1
    rw [Array.size_append]
    exact Nat.le_refl _
def spEnded (K : PySem.W.Frag) : Sp := fun vs H Q _ => ∃ (a : Addr) (ls : List Str), vs = [.ref a] ∧ SqT K H a (ls.map V.str) ∧ ls.length ≤ 10000000 ∧ (∀ x ∈ ls, x.length ≤ 1000) ∧
  ∀ (H' : Hp) (p : Addr), Same H H' → SqT K H' p ((endF ls).map V.str) → Q (.ref p) H'
end VK
end

section
set_option Elab.async false
set_option linter.all false
set_option pp.maxSteps 1500
set_option maxRecDepth 100000
set_option maxHeartbeats 4000000
namespace VK
open PySem L2
theorem cat_new {K : PySem.W.Frag} {H : Hp} {q t : Addr} {xs : List Str} {m : Str} {Q : VK} (hx : SqT K H q (xs.map V.str)) (ht : H t = none) (hl : xs.length ≤ 9000000) (k : ∀ H' p, Same H H' → SqT K H' p ((xs ++ [m]).map V.str) → Q (.ref p) H') : rCatA K (.ref q) (.ref t) (upd H t (.tup [.str m])) Q :=
  cat_linesB (ys := [m]) ((same_new ht).seqT hx) (.inl (.inl upd_same)) (by show xs.length + 1 ≤ _; omega) fun H' p s h => k H' p ((same_new ht).trans s) h
theorem endF_len (ls : List Str) : (endF ls).length = ls.length := List.length_map ..
theorem endF_sz {ls : List Str} {n : Nat} (h : ∀ x ∈ ls, x.length ≤ n) : ∀ x ∈ endF ls, x.length ≤ n + 1 := fun x hx => by
  obtain ⟨y, hy, rfl⟩ := List.mem_map.mp hx
  exact Nat.le_trans (endL_len y) (Nat.succ_le_succ (h y hy))
def mk0 (n : Str) : Str := ("<<<<<<< " : Str) ++ n ++ ("\n" : Str)
def mk1 : Str := "||||||| base\n"
def mk2 : Str := "=======\n"
def mk3 (n : Str) : Str := (">>>>>>> " : Str) ++ n ++ ("\n" : Str)
/-- all lines of a part are short -/
def shP (n : Nat) : Part → Prop
  | .same ls => ∀ x ∈ ls, x.length ≤ n
  | .clash b o t => (∀ x ∈ b, x.length ≤ n) ∧ (∀ x ∈ o, x.length ≤ n) ∧ ∀ x ∈ t, x.length ≤ n
abbrev mkd (n0 n1 : Str) (found : List Str) (ps : List Part) : List Str := markF (mk0 n0) mk1 mk2 (mk3 n1) found ps
theorem app_len (a b : Str) : (a ++ b).length = a.length + b.length := by
  show (a.cps ++ b.cps).size = _
  rw [Array.size_append]; rfl
def spMarked (K : PySem.W.Frag) : Sp := fun vs H Q _ => ∃ (a nm : Addr) (ps : List Part) (n0 n1 : Str), vs = [.ref a, .ref nm] ∧ Dp K H (.ref a) (partsD ps) ∧ SqT K H nm [.str n0, .str n1] ∧ n0.length ≤ 50 ∧ n1.length ≤ 50 ∧ ps.length ≤ 100 ∧ (∀ p ∈ ps, plP p ≤ 20000) ∧ (∀ p ∈ ps, shP 100 p) ∧
  ∀ (H' : Hp) (p : Addr), Same H H' → SqT K H' p ((mkd n0 n1 [] ps).map V.str) → Q (.ref p) H'
theorem mk_len {n : Str} (h : n.length ≤ 50) : (mk0 n).length ≤ 100 ∧ mk1.length ≤ 100 ∧ mk2.length ≤ 100 ∧ (mk3 n).length ≤ 100 := by
  have e1 : ("<<<<<<< " : Str).length = 8 := by decide +kernel
  have e2 : (">>>>>>> " : Str).length = 8 := by decide +kernel
  have e3 : ("\n" : Str).length = 1 := by decide +kernel
  refine ⟨?_, by decide +kernel, by decide +kernel, ?_⟩
  · unfold mk0
    rw [app_len, app_len, e1, e3]; omega
  · unfold mk3
    rw [app_len, app_len, e2, e3]; omega
end VK
end

section
set_option Elab.async false
set_option linter.all false
set_option pp.maxSteps 1500
set_option maxRecDepth 100000
set_option maxHeartbeats 4000000
/-! as KGen, where the element reads tuples -/
namespace VK
open PySem PySem.Spec PyProof.Rows L2
def trB (l : List Bool) (j : Nat) : Bool := l.getD j false
theorem trB_some {l : List Bool} {j : Nat} {b : Bool} (h : l[j]? = some b) : trB l j = b := by
  unfold trB
  rw [List.getD_eq_getElem?_getD, h]; rfl
theorem all_trB (l : List Bool) : (List.range l.length).all (trB l) = l.all id := by
  rw [Bool.eq_iff_iff, List.all_eq_true, List.all_eq_true]
  constructor
  · intro h b hb
    obtain ⟨j, hj, e⟩ := List.getElem_of_mem hb
    have q := h j (List.mem_range.mpr hj)
    rw [trB_some (List.getElem?_eq_getElem hj), e] at q
    exact q
  · intro h j hj
    have hj' := List.mem_range.mp hj
    rw [trB_some (List.getElem?_eq_getElem hj')]
    exact h _ (List.getElem_mem hj')
def ReadyB (X : Cx) (pins : List (Addr × Obj)) (σ : L2.St) (H1 : Hp) (P : Addr) (bs : List Bool) (g : Addr) (s5 : Shared) : Prop :=
  ∃ (fp wr : List Addr) (G : Array GenState → Array GenState → Prop) (F : Nat → Value → Prop) (St : Nat → Shared → Prop),
    WalksS X.prog X.w X.A.in1 g fp wr G bs.length F St ∧ St 0 s5 ∧ TruthT X.prog X.w X.A.in1 F (trB bs) ∧
    ∀ s', Moved wr G s5 s' → ∃ H2, GxR.Tabbed P H1 H2 ∧ Inv X pins σ H2 s'
/-- the element: of an item v with Pz v b a value of the truth b; the tuples that stood stand -/
def EltT (prog : Program) (w : World) (K : PySem.W.Frag) (mg : Str → Option Value) (scope : Scope) (x : Str) (elt : Expr) (Pz : Hp → V → Bool → Prop) : Prop :=
  ∀ (H1 : Hp) (bv : Bool) (cenv : Env) (A' : Around) (E' : Value → Shared → Prop) (v : V) (u : Value) (s₂ : Shared) (m₂ : Str → Option Value), cenv.scope = scope → Pz H1 v bv → RelV v u → GEnv mg cenv s₂ → s₂.heap.Ns cenv.locals m₂ → m₂ x = some u →
    (∀ (b : Addr) (zs : List V), SqT K H1 b zs → ∃ its : List Value, Vals zs its ∧ s₂.heap.IsTuple b its.toArray) →
    wpAny (model prog w) A' (eval elt cenv) (fun y s₃ => Tru prog w y bv ∧ Keeps s₂ s₃) E' s₂
section
variable {X : Cx} {pins : List (Addr × Obj)} {σ : L2.St} {H : Hp} {s : Shared}
theorem gen_tupT {c P : Addr} {elt iter : Expr} {x : Str} {px gpos : Pos} {scope : Scope} {Pz : Hp → V → Bool → Prop} {te : TE} {k : Nat} {Q' : Value → Shared → Prop} {R : List Bool → Hp → Prop}
    (hr : Room k X.A) (TB : GxR.TabB X.base X.mg c P) (hcode : X.env.code = .ref c) (S : GxR.GenS X.env scope x) (hi : PE X iter te) (hel : EltT X.prog X.w X.K X.mg scope x elt Pz)
    (hs : ∀ v, genFold iter X.env v = pure v) (I : Inv X pins σ H s) (h : te σ H fun v H1 => ∃ (yl : Addr) (xs : List V) (bs : List Bool), v = .ref yl ∧ SqT X.K H1 yl xs ∧ bs.length = xs.length ∧ (∀ (i : Nat) a b, xs[i]? = some a → bs[i]? = some b → Pz H1 a b) ∧ GxR.TabG H1 P ∧ R bs H1)
    (hQ : ∀ bs H1 g s5, R bs H1 → ReadyB X pins σ H1 P bs g s5 → Q' (.ref g) s5) :
    wpAny (model X.prog X.w) X.A (eval (.GeneratorExp elt [⟨.Name x px, iter, [], 0⟩] scope gpos) X.env) Q' X.xe s := by
  refine wpAny_GeneratorExp_walksQ hr.hd S.co (closure_ok S.free) S.cell S.dot S.loc S.kind (by have := hr.dp; omega) ?_ hs
  refine thn (hi.run pins s σ H _ I h) fun xv s1 ⟨v, H1, I1, r1, q1⟩ => ?_
  obtain ⟨yl, xs, bs, rfl, hyl, hbl, hPz, ⟨ps, hP, ht⟩, q1⟩ := q1
  obtain rfl : xv = Value.ref yl := r1
  obtain ⟨its, rv, hl, hz⟩ := I1.tuple hyl
  have hIL : s1.heap.IsTuple yl its.toArray := hl
  have hlen : its.length = xs.length := rv.length.symm
  have hat : ∀ (i : Nat) (v : Value), its.toArray[i]? = some v → ∃ a : V, xs[i]? = some a ∧ RelV a v := fun i v hv => by
    have hv2 : its[i]? = some v := by simpa using hv
    have hi2 : i < its.length := (List.getElem?_eq_some_iff.mp hv2).1
    obtain ⟨a, ha⟩ : ∃ a, xs[i]? = some a := ⟨xs[i]'(by omega), List.getElem?_eq_getElem _⟩
    obtain ⟨u, hu, ru⟩ := rv.get ha
    rw [hv2] at hu
    cases hu
    exact ⟨a, ha, ru⟩
  refine wpAny_pyIter_tuple hIL ?_
  generalize ho : ({ cls := .type "tuple_iterator", data := .fields #[.ref yl, .int 0 0] } : Obj) = o
  have hitr : (s1.heap.push o).IsTupleIter s1.heap.objs.size yl 0 := by
    subst ho
    exact ⟨_, Heap.get?_push_size _ rfl, rfl, rfl⟩
  have hylt : yl < s1.heap.objs.size := by
    obtain ⟨_, e, _⟩ := _root_.id hIL
    exact Heap.lt_size e
  have hPs : s1.heap.get? P = some { cls := .none, data := .fields ps } := I1.hok P _ hP
  have hPlt : P < s1.heap.objs.size := Heap.lt_size hPs
  have hP2 : (s1.heap.push o).get? P = some { cls := .none, data := .fields ps } := Heap.get?_push_of_some _ hPs
  have cd : PySem.W.CodeHd (s1.heap.push o) c P := TB.code.keeps fun b u e => Heap.get?_push_of_some _ (I1.bk b u e)
  have lim2 : (s1.heap.push o).NoLimit := I1.nolimit.push o
  obtain ⟨mb, hb1, hb2⟩ := I1.mod.blt
  have nsP : ∀ {a : Addr} {m : Str → Option Value}, X.base.Ns a m → a ≠ P := fun {a m} hn e => by
    obtain ⟨o', es, ep, ho', hd, _⟩ := hn
    have := I1.bk _ _ ho'
    rw [e, hPs] at this
    cases this
    cases hd
  have cont : ∀ (code : Value) (h3 : Heap) (tk : Nat) (ps' : Array Value), Heap.ExtBut P (s1.heap.push o) h3 → (s1.heap.push o).objs.size ≤ h3.objs.size → h3.get? P = some { cls := .none, data := .fields ps' } → (∃ more, ps' = ps ++ more) → TriplesOk ps'.toList →
      wpAny (model X.prog X.w) X.A (builtinsFor X.env.globals X.env.builtins) (fun bi s₄ =>
        ∃ Ia fp wr n₀ Pf St₀ pz F, Value.ref s1.heap.objs.size = .ref Ia ∧ (∀ A' : Around, A'.handled = none → Walks X.prog X.w A' Ia fp wr n₀ Pf St₀) ∧ St₀ 0 s₄.heap ∧ (∀ b ∈ fp, b < s₄.heap.objs.size) ∧ s₄.heap.NoLimit ∧ cStatics ∉ wr ∧
          (∀ href : Heap, (∀ b o, s₄.heap.get? b = some o → href.get? b = some o) →
            QuietGen X.prog X.w (genEnv scope (cloFrom X.env.cells scope.names []) s₄.heap.objs.size code bi X.env) x [] elt (List.range s₄.heap.objs.size) wr Pf pz F href) ∧
          (∀ a h₅ tk gs, gs.bare = true → s₄.heap.objs.size < a → h₅.objs.size = a + 1 → (∀ b o, s₄.heap.get? b = some o → h₅.get? b = some o) →
            WalksS X.prog X.w X.A.in4 a (a :: s₄.heap.objs.size :: List.range s₄.heap.objs.size) (s₄.heap.objs.size :: wr) (GenOnlyQ s₄.gens.size) (passing pz n₀ 0).length
              (fun j y => ∃ i, (passing pz n₀ 0)[j]? = some i ∧ F i y) (GenAt X.prog X.w X.A.in4 a s₄.gens.size s₄.heap.objs.size (List.range s₄.heap.objs.size) wr pz n₀ F) →
            GenAt X.prog X.w X.A.in4 a s₄.gens.size s₄.heap.objs.size (List.range s₄.heap.objs.size) wr pz n₀ F 0 { s₄ with gens := s₄.gens.push gs, toks := tk, heap := h₅ } →
            Q' (.ref a) { s₄ with gens := s₄.gens.push gs, toks := tk, heap := h₅ })) X.xe { s1 with heap := h3, toks := tk } := by
    intro code h3 tk ps' hx hsz hP3 hmore ht3
    obtain ⟨bm, ob, e1, e2, e3, e4, e5, e6, e7, e8⟩ := TB.bm
    have hcP : cStatics ≠ P := fun e => by
      obtain ⟨_, hns, _⟩ := I1.nolimit
      obtain ⟨o', es, ep, ho, hd, _⟩ := hns
      rw [e, hPs] at ho
      cases ho
      cases hd
    have hcl : cStatics < s1.heap.objs.size := let ⟨_, hns, _⟩ := I1.nolimit; hns.lt
    have sz2 : (s1.heap.push o).objs.size = s1.heap.objs.size + 1 := Heap.size_push ..
    have keep3 : ∀ b u, b ≠ P → s1.heap.get? b = some u → h3.get? b = some u := fun b u hb e => hx b u hb (Heap.get?_push_of_some _ e)
    refine wpAny_builtinsFor (m := X.mg) (by rw [I1.ok.glob]; exact ((I1.mod.glob.keeps I1.bk).push o).extBut hx TB.gP) e1 e2 (keep3 _ _ e4 (I1.bk _ _ e5)) e6 e7 e8 ?_
    have hylP : yl ≠ P := fun z => by
      obtain ⟨_, e, hc1, _, hd1⟩ := _root_.id hIL
      rw [z, hPs] at e
      cases e
      cases hd1
    have hIL3 : h3.IsTuple yl its.toArray := by
      obtain ⟨ob, e, r⟩ := _root_.id hIL
      exact ⟨ob, keep3 _ _ hylP e, r⟩
    have hItr3 : h3.IsTupleIter s1.heap.objs.size yl 0 := hitr.at fun u e => hx _ u (Nat.ne_of_gt hPlt) e
    refine ⟨s1.heap.objs.size, [s1.heap.objs.size, yl], [s1.heap.objs.size], its.toArray.size, (fun i v => its.toArray[i]? = some v), (fun i h => h.IsTupleIter s1.heap.objs.size yl i ∧ h.IsTuple yl its.toArray), (fun _ => true),
      (fun i y => ∃ b : Bool, bs[i]? = some b ∧ Tru X.prog X.w y b), rfl, (fun A' hA => Walks.tuple hA _ _ (Nat.ne_of_lt hylt) _), ⟨hItr3, hIL3⟩, ?_, lim2.extBut hx hcP, ?_, ?_, ?_⟩
    · intro b hb
      rcases List.mem_cons.mp hb with z | z
      · rw [z]
        show s1.heap.objs.size < h3.objs.size
        omega
      · rcases List.mem_cons.mp z with z | z
        · rw [z]
          have e9 : s1.heap.objs.size ≤ h3.objs.size := by omega
          exact Nat.lt_of_lt_of_le hylt e9
        · cases z
    · intro z
      rcases List.mem_cons.mp z with z | z
      · exact Nat.ne_of_lt hcl z
      · cases z
    · intro href hhref
      refine ⟨fun A' E' i v s₂ m₂ hA hPv hn hm hk => ?_, fun A' E' i v s₂ m₂ hA hPv hp hn hm hk => ?_⟩
      · simp only [List.forIn_nil]
        exact wpAny_pure ⟨rfl, GxR.keeps_refl _⟩
      · obtain ⟨a, ha, ra⟩ := hat i v hPv
        have nsK : ∀ {a : Addr} {m : Str → Option Value}, X.base.Ns a m → s₂.heap.Ns a m := fun {a m} hn0 => by
          have nP := nsP hn0
          obtain ⟨o', es, ep, ho', r⟩ := hn0
          have e1 := I1.bk _ _ ho'
          have hl := Heap.lt_size e1
          have e2 := hhref _ _ (keep3 _ _ nP e1)
          refine ⟨o', es, ep, hk a (List.mem_range.mpr ?_) ?_ _ e2, r⟩
          · have e9 : s1.heap.objs.size ≤ h3.objs.size := by omega
            exact Nat.lt_of_lt_of_le hl e9
          · intro z
            rcases List.mem_cons.mp z with z | z
            · rw [z] at hl; exact Nat.lt_irrefl _ hl
            · cases z
        have ge : GEnv X.mg (genEnv scope (cloFrom X.env.cells scope.names []) h3.objs.size code builtinsNs X.env) s₂ :=
          ⟨S.kind, by show s₂.heap.Ns X.env.globals X.mg; rw [I1.ok.glob]; exact nsK I1.mod.glob, mb, nsK hb1, hb2⟩
        obtain ⟨b0, hb0⟩ : ∃ b0, bs[i]? = some b0 := ⟨bs[i]'(by have := (List.getElem?_eq_some_iff.mp ha).1; omega), List.getElem?_eq_getElem _⟩
        have TT : ∀ (b : Addr) (zs : List V), SqT X.K H1 b zs → ∃ its : List Value, Vals zs its ∧ s₂.heap.IsTuple b its.toArray := fun b zs q => by
          obtain ⟨its2, rv2, hl2, _⟩ := I1.tuple q
          have nbP : b ≠ P := fun z => by
            obtain ⟨_, e, hc1, _, hd1⟩ := _root_.id hl2
            rw [z, hPs] at e
            cases e
            cases hd1
          obtain ⟨ob, e, r⟩ := hl2
          have hl := Heap.lt_size e
          refine ⟨its2, rv2, ob, hk b (List.mem_range.mpr ?_) ?_ _ (hhref _ _ (keep3 _ _ nbP e)), r⟩
          · have e9 : s1.heap.objs.size ≤ h3.objs.size := by omega
            exact Nat.lt_of_lt_of_le hl e9
          · intro z
            rcases List.mem_cons.mp z with z | z
            · rw [z] at hl; exact Nat.lt_irrefl _ hl
            · cases z
        refine wpAny_mono (hel H1 b0 _ A' E' a v s₂ m₂ rfl (hPz i a b0 ha hb0) ra ge hn hm TT) (fun y s3 r => ?_) fun _ _ e => e
        exact ⟨⟨b0, hb0, r.1⟩, r.2⟩
    · intro g h5 tk5 gs hgb hag hsz5 hk5 W5 hgat
      simp only [GxR.passing_true, List.length_range] at W5
      have hn5 : its.toArray.size = bs.length := by rw [List.size_toArray, hlen, hbl]
      rw [hn5] at W5 hgat
      refine hQ bs H1 g _ q1 ⟨_, _, _, _, _, W5.in4_1, hgat, ?_, fun s' hm => ?_⟩
      · intro j v sj Qj Ej hv hQj
        obtain ⟨i, hij, b, ha, e⟩ := hv
        obtain ⟨hj, ej⟩ := List.getElem?_eq_some_iff.mp hij
        rw [List.getElem_range] at ej
        subst ej
        rw [trB_some ha] at hQj
        exact e _ _ _ _ hQj
      · obtain ⟨more, em⟩ := hmore
        have nwr : ∀ b u, s1.heap.get? b = some u → b ∉ h3.objs.size :: [s1.heap.objs.size] := fun b u e hb => by
          have hl := Heap.lt_size e
          rcases List.mem_cons.mp hb with z | z
          · rw [z] at hl
            have h9 : (h3.objs.size : Nat) < s1.heap.objs.size := hl
            omega
          · rcases List.mem_cons.mp z with z | z
            · rw [z] at hl
              exact Nat.lt_irrefl _ hl
            · cases z
        have J := GxR.inv_tab (more := more) (h' := s'.heap) (g' := s'.gens) (d' := s'.drawn) (t' := s'.toks) I1 hP (fun b u hb e => hm.heap b u (nwr b u e) (hk5 b u (keep3 b u hb e)))
          (by rw [← em]; exact hm.heap P _ (nwr P _ hPs) (hk5 P _ hP3)) (AllBare.movedS (I1.bare.push hgb) hm)
        rw [GxR.sh_eta s1 s' hm.os] at J
        refine ⟨upd H1 P (.tbl (ps ++ more)), ⟨⟨ps ++ more, upd_same, by rw [← em]; exact ht3⟩, fun b hb => upd_ne hb⟩, J⟩
  refine ⟨lim2, ?_⟩
  cases hf : codeAmong gpos ps.toList with
  | none =>
    refine wpAny_genexprCodeX hcode (cd.code hP2 ht) (cd.tab hP2) hf fun c' h' tk hx hge hlt hco' _ htab' _ => ?_
    obtain ⟨o1, vs, f1, tf, fl, tg, inF, tx, tt, op, _, _, _, _, _, _, _, _, _, htr, _⟩ := hco'
    exact cont _ h' tk _ hx (Nat.le_trans hge (Nat.le_of_lt hlt)) htab'.2 ⟨_, rfl⟩ htr
  | some cv =>
    refine wpAny_genexprCode_hit hcode (cd.code hP2 ht) hf ?_
    exact cont cv (s1.heap.push o) s1.toks ps (Heap.ExtBut.refl _ _) (Nat.le_refl _) hP2 ⟨#[], by simp⟩ ht
def tAllT (K : PySem.W.Frag) (P : Addr) (Pz : Hp → V → Bool → Prop) (te : TE) : TE := fun σ H Q => te σ H fun v H1 => ∃ (yl : Addr) (xs : List V) (bs : List Bool), v = .ref yl ∧ SqT K H1 yl xs ∧ bs.length = xs.length ∧ (∀ (i : Nat) a b, xs[i]? = some a → bs[i]? = some b → Pz H1 a b) ∧ GxR.TabG H1 P ∧ ∀ H2, GxR.Tabbed P H1 H2 → Q (.bl (bs.all id)) H2
theorem pe_allT {c P : Addr} {elt iter : Expr} {x : Str} {px p pos gpos : Pos} {scope : Scope} {Pz : Hp → V → Bool → Prop} {te : TE} {k : Nat}
    (hr : Room k X.A) (hg : Gl X "all") (hm : X.mg "all" = none) (hb : bootBuiltins "all" = some (.builtin "all")) (TB : GxR.TabB X.base X.mg c P) (hcode : X.env.code = .ref c) (S : GxR.GenS X.env scope x) (hi : PE X iter te) (hel : EltT X.prog X.w X.K X.mg scope x elt Pz)
    (hs : ∀ v, genFold iter X.env v = pure v)
    (he : starEach [.GeneratorExp elt [⟨.Name x px, iter, [], 0⟩] scope gpos] X.env = (false, eval (.GeneratorExp elt [⟨.Name x px, iter, [], 0⟩] scope gpos) X.env) :: starEach [] X.env := by rfl) :
    PE X (.Call (.Name "all" p) [.GeneratorExp elt [⟨.Name x px, iter, [], 0⟩] scope gpos] [] pos) (tAllT X.K P Pz te) := by
  refine ⟨fun pins s σ H Q I h => ?_⟩
  refine wpAny_Call_Name_kw (ld_blt I hg hm hb ?_)
  refine PyProof.Rows.callWith_builtin1 ?_ he (by rfl)
  rw [he]
  show wpAny _ _ (spliced ((false, eval (.GeneratorExp elt [⟨.Name x px, iter, [], 0⟩] scope gpos) X.env) :: backTo pos (starEach [] X.env))) _ _ s
  refine Calls.spliced_cons (gen_tupT (R := fun bs H1 => ∀ H2, GxR.Tabbed P H1 H2 → Q (.bl (bs.all id)) H2) hr TB hcode S hi hel hs I h fun bs H1 g s5 hR hG => ?_)
  obtain ⟨fp, wr, G, F, St, W, hst, htr, hI⟩ := hG
  refine Calls.spliced_nil ?_
  refine call_all_T (W.self 0 _ _ _ hst ⟨g, fp, wr, G, _, F, St, _, rfl, W, hst, htr, fun s' hmv => ?_⟩)
  obtain ⟨H2, hT, J⟩ := hI s' hmv
  refine ⟨.bl _, H2, J, rfl, ?_⟩
  rw [all_trB bs]
  exact hR H2 hT
end
/-- x[0] == 'k', x a tuple whose first item is a text -/
def ItemT (K : PySem.W.Frag) (k : Str) : Hp → V → Bool → Prop := fun H v b => ∃ (a : Addr) (t : Str) (r : List V), v = .ref a ∧ SqT K H a (.str t :: r) ∧ r.length ≤ 100 ∧ b = decide (t = k)
section
variable {prog : Program} {w : World} {K : PySem.W.Frag} {mg : Str → Option Value} {scope : Scope} {x : Str}
theorem elt_tag {k : Str} {j j2 : Nat} {p1 p2 p3 p4 p5 : Pos} (hk : scope.kind = .function) (hl : scope.names.lookup x = some .local) (hd : (x == ("__debug__" : Str)) = false := by decide) :
    EltT prog w K mg scope x (.Compare (.Subscript (.Name x p1) (.Constant (.int 0) j2 p2) p3) [.Eq] [.Constant (.str k) j p4] p5) (ItemT K k) := by
  intro H1 bv cenv A' E' v u s₂ m₂ hs hz hr ge hn hm TT
  obtain ⟨a, g, r, rfl, ha, hrl, rfl⟩ := hz
  obtain rfl : u = Value.ref a := hr
  obtain ⟨its, rv, pl⟩ := TT a _ ha
  cases rv with
  | cons r0 rr =>
    obtain ⟨t, rfl⟩ := r0
    have hll := rr.length
    have hn63 := line63
    refine wpAny_Compare1 ?_
    refine Subscript_ ?_
    refine wpAny_Name (wpAny_loadName_local (by rw [hs]; exact hk) (show cenv.scope.names.lookup x = some .local by rw [hs]; exact hl) hn hm ?_) hd
    refine wpAny_Constant_int ?_
    have hix : seqIndex? 0 (r.length + 1) = some 0 := by
      refine (ixN_seq ?_).1
      unfold ixN
      rw [if_pos (Int.le_refl 0), if_pos (by omega)]
      rfl
    refine tail_any pl.typeIs slot_tuple_getitem.lookup (getItem_tuple (k := 0) (j := 0) (x := .str (g) t) pl (by decide) (by decide) (by rw [List.size_toArray, List.length_cons, ← hll]; exact hix) (by simp) ?_) (by with_unfolding_all rfl)
    refine Calls.Constant_str ?_
    refine PySem.P.eq_str ⟨?_, _, _, rfl, fun b o q => q⟩
    have e : (g.cps.toList == k.cps.toList) = decide (g = k) := by
      by_cases z : g = k
      · rw [decide_eq_true z, z]; simp
      · rw [decide_eq_false z]
        exact beq_false_of_ne fun q => z (_root_.TL.ext_tl q)
    show Tru prog w _ (decide (g = k))
    rw [← e]
    exact tru_bool _
end
end VK
end

section
set_option Elab.async false
set_option linter.all false
set_option pp.maxSteps 1500
set_option maxRecDepth 100000
set_option maxHeartbeats 4000000
/-! enumerate(tuple), after HandS.Iter's enumerate(list) -/
namespace PySem
open Sem (wp)
open AutoSeq1 (wpAny_loadPart')
theorem meets_enumerate_newT (l : Addr) (items : Array Value) (n : Nat) (dct : Option Addr) (sl : Array (Option Value)) :
    Meets (Builtin.«enumerate.__new__» ⟨[.type "enumerate", .ref l], []⟩) (fun _ R s => s.heap.get? l = some { cls := .type "tuple", dict := dct, data := .seq items n, slots := sl } ∧
      R (.ok (.ret (.ref (s.heap.push { cls := .type "tuple_iterator", data := .fields #[.ref l, .int 0 0] }).objs.size)))
        { s with heap := (s.heap.push { cls := .type "tuple_iterator", data := .fields #[.ref l, .int 0 0] }).push { cls := .type "enumerate", data := .fields #[.none, .bool false, .ref s.heap.objs.size, rawInt 0, .none, .none] } }) :=
  .of_wp fun prog w A R s h => by
    obtain ⟨hp, g, d, tk, os⟩ := s; obtain ⟨hl, h⟩ := h
    have hsub := sub_enumerate
    have hL : Heap.IsTuple (Shared.heap ⟨hp, g, d, tk, os⟩) l items := ⟨_, hl, rfl, n, rfl⟩
    wp_walk using wpAny_loadPart' hl
    refine wpAny_stack_any fun st => wpAny_pure ?_
    split
    · rename_i c _ _ _ _ _
      cases (c == Value.type "enumerate")
      · wp_walk using wpAny_loadPart' hl, wpAny_pyIter_tuple hL
        exact ⟨_, rfl, h⟩
      · wp_walk using wpAny_loadPart' hl, wpAny_pyIter_tuple hL
        exact ⟨_, rfl, h⟩
    · wp_walk using wpAny_loadPart' hl, wpAny_pyIter_tuple hL
      exact ⟨_, rfl, h⟩
section
variable {prog : Program} {w : World} {A : Around} {E : Value → Shared → Prop} {s : Shared}
theorem call_enumerate_tuple {l : Addr} {items : Array Value} {Q : Value → Shared → Prop} (hL : s.heap.IsTuple l items)
    (h : ∀ h', IsEnum h' (s.heap.objs.size + 1) s.heap.objs.size 0 .none → h'.IsTupleIter s.heap.objs.size l 0 → h'.objs.size = s.heap.objs.size + 2 →
      (∀ b o, s.heap.get? b = some o → h'.get? b = some o) → Q (.ref (s.heap.objs.size + 1)) { s with heap := h' }) :
    wpAny (model prog w) A (call (.type "enumerate") [.ref l]) Q E s := by
  obtain ⟨⟨c, dct, dt, sl⟩, hl, hc, n, hd⟩ := hL
  replace hc : c = .type "tuple" := hc
  replace hd : dt = .seq items n := hd
  subst hc hd
  refine callType_new F.called_enumerate (by decide) (F.typeCall_enumerate_1 _) (F.newCall_enumerate_1 _) (fun obj => F.args_object_init_2 obj _) F.entry_enumerate_new
    (meets_enumerate_newT l items n dct sl) ⟨hl, ?_⟩
  have hz : (s.heap.push { cls := .type "tuple_iterator", data := .fields #[.ref l, .int 0 0] }).objs.size = s.heap.objs.size + 1 := Heap.size_push ..
  show _ ∧ _
  rw [hz]
  have he : IsEnum ((s.heap.push { cls := .type "tuple_iterator", data := .fields #[.ref l, .int 0 0] }).push
      { cls := .type "enumerate", data := .fields #[.none, .bool false, .ref s.heap.objs.size, rawInt 0, .none, .none] }) (s.heap.objs.size + 1) s.heap.objs.size 0 .none := by
    have := Heap.get?_push_size (s.heap.push { cls := .type "tuple_iterator", data := .fields #[.ref l, .int 0 0] })
      (o := { cls := .type "enumerate", data := .fields #[.none, .bool false, .ref s.heap.objs.size, rawInt 0, .none, .none] }) rfl
    rw [hz] at this; exact this
  refine ⟨⟨_, he, rfl⟩, h _ he ⟨_, Heap.get?_push_of_some _ (Heap.get?_push_size _ rfl), rfl, rfl⟩ (by rw [Heap.size_push, hz]) fun b o x => Heap.get?_push_of_some _ (Heap.get?_push_of_some _ x)⟩
end
end PySem
namespace VK
open PySem PySem.Spec PyProof.Rows L2
/-- the tuple at a, each item in a new pair -/
def Itet (K : PySem.W.Frag) (a : Addr) (xs : List V) : It :=
  ⟨fun i H => SqT K H a xs ∧ i < xs.length, fun i H v H' => ∃ T x, v = .ref T ∧ H T = none ∧ H' = upd H T (.tup [.int (i : Nat), x]) ∧ xs[i]? = some x, fun i H => SqT K H a xs ∧ xs.length ≤ i⟩
theorem turn_enumT {P : Program} {w : World} {K : PySem.W.Frag} {elts : List Expr} {kk : Nat} {tpos : Pos} (a e it : Addr) (xs : List V) :
    Turn P w K (.Tuple elts kk tpos) (Itet K a xs) [e, it] e (fun i h => (∃ old, IsEnum h e it ((i : Nat) : Int) old) ∧ h.IsTupleIter it a i ∧ e ≠ it ∧ e ≠ a ∧ a ≠ it ∧ i ≤ xs.length) where
  mem := by simp
  obj := fun i h st b hb => by
    obtain ⟨⟨old, he⟩, ⟨o, ho, hc, hd⟩, _⟩ := st
    have e' : b = e ∨ b = it := by simpa using hb
    rcases e' with z | z
    · rw [z]; exact ⟨_, he, fun v q => nomatch q⟩
    · rw [z]; exact ⟨o, ho, fun v q => by rw [hd] at q; cases q⟩
  keep := fun i h h' st k => let ⟨⟨old, he⟩, hi, r⟩ := st; ⟨⟨old, k e (by simp) _ he⟩, hi.at fun o q => k it (by simp) o q, r⟩
  item := by
    intro X hP hw hK hc i pins s σ H E I hf st hg
    subst hP hw hK
    obtain ⟨⟨old, he⟩, hit, hne, hea, hai, hle⟩ := st
    obtain ⟨hq, hlt⟩ := hg
    obtain ⟨its, rv, p, hz⟩ := I.tuple hq
    have hp : s.heap.IsTuple a its.toArray := p
    have hll := rv.length
    obtain ⟨x, hx⟩ : ∃ x, xs[i]? = some x := ⟨xs[i], List.getElem?_eq_getElem hlt⟩
    obtain ⟨u, hu, ru⟩ := rv.get hx
    have hel : e < s.heap.objs.size := Heap.lt_size he
    have hil : it < s.heap.objs.size := by obtain ⟨_, q, _⟩ := hit; exact Heap.lt_size q
    have hh : X.A.in1.handled = none := I.ok.hd hc
    refine wpAny_pyNext_enum_itemD (Draws.tuple hh it a hai its.toArray) he ⟨hit, hp⟩ (by rw [List.size_toArray, ← hll]; exact hlt) hne (fun z => by
      rcases List.mem_cons.mp z with z | z
      · exact hne z
      · exact hea (List.mem_singleton.mp z)) fun v h' tk hP ho hit' hT hsz hk => ?_
    have ev : v = u := by
      have q : its.toArray[i]? = some v := hP
      have q2 : its[i]? = some v := by simpa using q
      rw [hu] at q2
      exact (Option.some.inj q2).symm
    subst ev
    refine ⟨_, rfl, wpAny_letOwnedTupleGo_enum (s := { s with heap := h', toks := tk + 1 }) ho fun h'' he' sb => ?_⟩
    have hT2 : h''.get? s.heap.objs.size = some { cls := .type "tuple", data := .seq #[.int i tk, v] } := (sb.2 _ (Nat.ne_of_gt hel)).trans hT
    have new : ObjOk X.prog X.w (upd H s.heap.objs.size (.tup [.int (i : Nat), x])) h'' s.heap.objs.size (.tup [.int (i : Nat), x]) :=
      ⟨by show 2 ≤ sizeLine; decide, [.int i tk, v], .cons ⟨_, rfl⟩ (.cons ru .nil), ⟨_, hT2, rfl, _, rfl⟩⟩
    have I1 : Inv X pins σ (upd H s.heap.objs.size (.tup [.int (i : Nat), x])) { s with heap := h'', toks := tk + 1 } :=
      I.turnedNew (ch := [e, it]) (fun b ob hb q => (sb.2 b (fun z => hb (by simp [z]))).trans (hk b ob (fun z => hb (by simp [z])) (fun z => hb (by simp [z])) q)) hf (Nat.le_refl _) new
    refine ⟨.ref s.heap.objs.size, _, I1, rfl, ⟨_, x, rfl, I.hok.fresh (Nat.le_refl _), rfl, hx⟩, ⟨⟨v, ?_⟩, hit'.1.at fun o q => (sb.2 it (Ne.symm hne)).trans q, hne, hea, hai, hlt⟩, fun b hb => ?_⟩
    · have e1 : ((i + 1 : Nat) : Int) = (i : Int) + 1 := by omega
      rw [e1]; exact he'
    · have hb' : b < s.heap.objs.size := by
        have e' : b = e ∨ b = it := by simpa using hb
        rcases e' with z | z
        · rw [z]; exact hel
        · rw [z]; exact hil
      rw [upd_ne (Nat.ne_of_lt hb')]
      exact (hf b hb).1
  done := by
    intro X hP hw hK hc i pins s σ H E I hf st hg
    subst hP hw hK
    obtain ⟨⟨old, he⟩, hit, hne, hea, hai, hle⟩ := st
    obtain ⟨hq, hx⟩ := hg
    obtain ⟨its, rv, p, hz⟩ := I.tuple hq
    have hp : s.heap.IsTuple a its.toArray := p
    have hll := rv.length
    obtain ⟨f0, f1, f2, f3, f4, f5⟩ := hf it (by simp)
    have hh : X.A.in1.handled = none := I.ok.hd hc
    have hi : i = its.toArray.size := by rw [List.size_toArray]; omega
    rw [hi] at hit
    exact wpAny_pyNext_enum_endD (Draws.tuple hh it a hai its.toArray) he ⟨hit, hp⟩ fun h' eb => ⟨rfl, I.turned (t' := s.toks) (fun b o hb q => eb b o hb q) f0 f1 f3 f4 f5⟩
  self := fun A i s Q E st h => let ⟨⟨_, he⟩, _⟩ := st; wpAny_pyIter_enum he h
def iEnumT (K : PySem.W.Frag) (ta : TA) : TI := fun σ H R => ta σ H fun vs H1 => ∃ a xs, vs = [.ref a] ∧ SqT K H1 a xs ∧ R (Itet K a xs) H1
theorem pi_enumT {X : Cx} {e : Expr} {ta : TA} {p pos tpos : Pos} {elts : List Expr} {kk : Nat} (hg : Gl X "enumerate") (hm : X.mg "enumerate" = none) (ha : PA X [e] ta) (hs : starEach [e] X.env = [(false, eval e X.env)] := by rfl) :
    PI X (.Tuple elts kk tpos) (.Call (.Name "enumerate" p) [e] [] pos) (iEnumT X.K ta) := by
  refine ⟨fun pins s σ H R I h => ?_⟩
  refine Call_ (ld_blt I hg hm boot_enumerate (PyProof.Rows.callWith_type1 (thn (ha.run pos pins s σ H _ I h) fun us s1 ⟨vs, H1, I1, r1, q1⟩ => ?_) hs rfl))
  obtain ⟨a, xs, ex, hq, q⟩ := q1
  subst ex
  cases r1 with
  | cons r rr =>
    cases rr
    cases r
    obtain ⟨its, rv, p', hz⟩ := I1.tuple hq
    have hp : s1.heap.IsTuple a its.toArray := p'
    have hal : a < s1.heap.objs.size := by obtain ⟨_, q, _⟩ := hp; exact Heap.lt_size q
    refine call_enumerate_tuple hp fun h' he hit hsz hk => wpAny_pyIter_enum he ?_
    have I2 : Inv X pins σ H1 { s1 with heap := h' } := I1.kept (t' := s1.toks) hk
    refine ⟨s1.heap.objs.size + 1, [s1.heap.objs.size + 1, s1.heap.objs.size], _, _, H1, rfl, I2, turn_enumT a (s1.heap.objs.size + 1) s1.heap.objs.size xs, ⟨⟨.none, he⟩, hit, Nat.succ_ne_self _, Nat.ne_of_gt (Nat.lt_succ_of_lt hal), Nat.ne_of_lt hal, Nat.zero_le _⟩, fun b hb => ?_, q⟩
    have e' : b = s1.heap.objs.size + 1 ∨ b = s1.heap.objs.size := by simpa using hb
    have hle : s1.heap.objs.size ≤ b := by
      rcases e' with z | z
      · rw [z]; exact Nat.le_add_right _ _
      · rw [z]; exact Nat.le_refl _
    exact I1.fpOk hle (I1.hok.fresh hle)
theorem walk_enumT {K : PySem.W.Frag} {a : Addr} {xs : List V} : Walk (Itet K a xs) xs.length (fun H => SqT K H a xs) (fun i H v H' => ∃ T x, v = .ref T ∧ H T = none ∧ H' = upd H T (.tup [.int (i : Nat), x]) ∧ xs[i]? = some x) :=
  ⟨fun _ _ hi h => ⟨h, hi⟩, fun _ h => ⟨h, Nat.le_refl _⟩, fun _ _ _ _ _ _ y => y⟩
end VK
end

section
set_option Elab.async false
set_option linter.all false
set_option pp.maxSteps 1500
set_option maxRecDepth 100000
set_option maxHeartbeats 4000000
/-! sorted of a tuple of triples whose first items are ints, unlike ones for unlike triples; after HandS.SortOrd, HandS.SortRule -/
namespace SrtO
open PySem PyProof.Rows Srt
section
variable {prog : Program} {w : World} {A : Around} {E : Value → Shared → Prop} {s : Shared}
theorem collect_tuple {l : Addr} {vs : List Value} {Q : List Value → Shared → Prop} (hl : s.heap.IsTuple l vs.toArray)
    (h : Q vs { s with heap := (s.heap.push (seqObj "list" #[] 0)).update s.heap.objs.size (Obj.mapSeq (· ++ vs.toArray)) }) (hsz : vs.length ≤ sizeLine := by size_fits) :
    wpAny (model prog w) A (collect (.ref l)) Q E s := by
  obtain ⟨o, ho, hc, n, hd⟩ := id hl
  unfold collect
  refine wpAny_bind (wpAny_runValue (codeAny_builtin entry_proto_collect' ?_))
  show wpAny _ _ (do again (.builtin "list.__iadd__" ⟨[← newList [], .ref l], []⟩)) _ _ s
  refine wpAny_bind (wpAny_newList (wpAny_pure ⟨Code.quiet_builtin _ (by decide +kernel), codeAny_builtin entry_list_iadd' ?_⟩))
  show wpAny _ _ (Builtin.List.listExtendWith (.ref s.heap.objs.size) (.ref l) (.ref s.heap.objs.size)) _ _ { s with heap := s.heap.push (seqObj "list" #[] 0) }
  unfold Builtin.List.listExtendWith
  have ho' : (s.heap.push (seqObj "list" #[] 0)).get? l = some o := Heap.get?_push_of_some _ ho
  refine wpAny_bind (wpAny_typeOf (T := "tuple") ⟨o, ho', hc⟩ ?_)
  have ht : (Value.type "tuple" == Value.type "tuple") = true := by rfl
  rw [if_pos (by rw [ht]; simp)]
  refine wpAny_bind (listItems_at ho' hd ?_)
  refine wpAny_bind (listItems_at (xs := #[]) (n := 0) (Heap.get?_push_size _ rfl) rfl ?_)
  rw [if_neg (by simp)]
  refine wpAny_bind (listUpdate_at (xs := #[]) (n := 0) (Heap.get?_push_size _ rfl) rfl ?_ (Nat.zero_le _) (by show (#[] ++ vs.toArray).size ≤ sizeLine + 1; simp only [Array.size_append, List.size_toArray, List.length_nil]; omega))
  refine wpAny_pure ?_
  show wpAny (model prog w) A (do
      let o ← load s.heap.objs.size
      match o.data with
      | .seq xs _ => pure xs.toList
      | _ => unsupported "internal:collect") Q E { s with heap := (s.heap.push (seqObj "list" #[] 0)).update s.heap.objs.size (Obj.mapSeq (· ++ vs.toArray)) }
  refine wpAny_bind (wpAny_load (get?_update_seq (Heap.get?_push_size _ rfl) _) ?_)
  show wpAny _ _ (pure ((#[] : Array Value) ++ vs.toArray).toList) Q E _
  rw [show ((#[] : Array Value) ++ vs.toArray).toList = vs by simp]
  exact wpAny_pure h
theorem sorted_ordT {l : Addr} {vs : List Value} {ltv : Value → Value → Bool} {Q : Value → Shared → Prop} (O : Swo ltv) (hl : s.heap.IsTuple l vs.toArray) (hz : vs.length ≤ sizeLine)
    (hS : 2 ≤ vs.length → ∀ (h₁ : Heap) (a : Addr), h₁.get? a = some (seqObj "list" vs.toArray 0) → (∀ b o, s.heap.get? b = some o → b ≠ a ∧ h₁.get? b = some o) → SortableO prog w A.in1.in1 { s with heap := h₁ } a vs ltv)
    (h : ∀ out : List Value, Srtd ltv out → Stb ltv out vs → Q (.ref (s.heap.objs.size + 1)) { s with heap := sortedAll s.heap vs out.toArray }) :
    wpAny (model prog w) A (call (.builtin "sorted") [.ref l]) Q E s := by
  refine Calls.call_function_entry kind_sorted plain_sorted entry_sorted (args_sorted1 _) ?_
  unfold Builtin.«sorted»
  refine wpAny_bind (m := checkCount "sorted" 1 1 _) (wpAny_pure ?_)
  refine wpAny_bind (collect_tuple hl ?_ hz)
  refine wpAny_bind (wpAny_newList ?_ hz)
  have hsz : ((s.heap.push (seqObj "list" #[] 0)).update s.heap.objs.size (Obj.mapSeq (· ++ vs.toArray))).objs.size = s.heap.objs.size + 1 := by
    rw [Heap.size_update, size_push']
  have hoL : (((s.heap.push (seqObj "list" #[] 0)).update s.heap.objs.size (Obj.mapSeq (· ++ vs.toArray))).push (seqObj "list" vs.toArray 0)).get? (s.heap.objs.size + 1) = some (seqObj "list" vs.toArray 0) := by
    rw [← hsz]; exact Heap.get?_push_size _ rfl
  have keep : ∀ b o, s.heap.get? b = some o → b ≠ s.heap.objs.size + 1 ∧ (((s.heap.push (seqObj "list" #[] 0)).update s.heap.objs.size (Obj.mapSeq (· ++ vs.toArray))).push (seqObj "list" vs.toArray 0)).get? b = some o := fun b o q => by
    have hlt : b < s.heap.objs.size := Heap.lt_size q
    refine ⟨Nat.ne_of_lt (Nat.lt_succ_of_lt hlt), Heap.get?_push_of_some _ ?_⟩
    rw [Heap.get?_update_ne _ _ _ _ (Nat.ne_of_lt hlt)]
    exact Heap.get?_push_of_some _ q
  show wpAny _ _ _ _ _ { s with heap := ((s.heap.push (seqObj "list" #[] 0)).update s.heap.objs.size (Obj.mapSeq (· ++ vs.toArray))).push (seqObj "list" vs.toArray 0) }
  rw [hsz]
  refine wpAny_bind (wpAny_holding (wpAny_call_entry slot_list_sort ⟨_, hoL, rfl⟩ entry_list_sort (list_sort_ord O hoL hz (fun h2 => hS h2 _ _ hoL keep) fun out hs hb => ⟨_, rfl, ?_⟩) (args_list_sort _)))
  exact wpAny_pure ⟨_, rfl, h out hs hb⟩
def IsTri (h : Heap) (v : Value) (x : Int) : Prop := ∃ a o t g m n, v = .ref a ∧ h.get? a = some o ∧ o.cls = .type "tuple" ∧ o.data = .seq #[.int x t, .ref g, .ref m] n
theorem IsTri.keeps {h h' : Heap} {v : Value} {x : Int} (p : IsTri h v x) (k : ∀ b o, h.get? b = some o → o.cls = .type "tuple" → h'.get? b = some o) : IsTri h' v x := by
  obtain ⟨a, o, t, g, m, n, e, ho, hc, hd⟩ := p
  exact ⟨a, o, t, g, m, n, e, k _ _ ho hc, hc, hd⟩
theorem firstsT_of {h : Heap} : ∀ {vs : List Value}, (∀ v ∈ vs, ∃ x, IsTri h v x) → ∃ fs : List Value, PySem.W.KatTups h vs fs ∧ fs.length = vs.length ∧ ∀ f ∈ fs, ∃ x t, f = Value.int x t
  | [], _ => ⟨[], PySem.W.KatTups.nil, rfl, fun _ hm => by simp at hm⟩
  | v :: vs, x => by
    obtain ⟨fs, k, hl, hi⟩ := firstsT_of (vs := vs) fun u hu => x u (List.mem_cons_of_mem _ hu)
    obtain ⟨y, a, o, t, g, m, n, rfl, ho, hc, hd⟩ := x v (List.mem_cons_self ..)
    refine ⟨.int y t :: fs, PySem.W.KatTups.cons ho hc hd rfl k, by rw [List.length_cons, List.length_cons, hl], fun f hf => ?_⟩
    rcases List.mem_cons.mp hf with rfl | hf
    · exact ⟨y, t, rfl⟩
    · exact hi f hf
abbrev ltI (k : Value → Int) : Value → Value → Bool := fun v u => decide (k v < k u)
theorem swo_int {α : Type} (k : α → Int) : Swo fun v u => decide (k v < k u) := by
  refine ⟨fun x y h => ?_, fun x y z h1 h2 => ?_⟩
  · have a := of_decide_eq_true h
    exact decide_eq_false (by omega)
  · have a := of_decide_eq_false h1
    have b := of_decide_eq_false h2
    exact decide_eq_false (by omega)
theorem tri_cmp {vs : List Value} {k : Value → Int} (hp : ∀ v ∈ vs, IsTri s.heap v (k v)) (hd : ∀ v ∈ vs, ∀ u ∈ vs, v = u ∨ k v ≠ k u) : Cmp prog w A s (tuples' true) (fun p => p.1 ∈ vs) (lt2 (ltI k)) := by
  intro p q hm hm'
  have h1 := hp _ hm
  have h2 := hp _ hm'
  show wpAny (model prog w) A (keyLt' (tuples' true) p.1 q.1) (fun r s' => s' = s ∧ r = decide (k p.1 < k q.1)) (fun _ _ => False) s
  rcases hd _ hm _ hm' with e | e
  · have ek : decide (k p.1 < k q.1) = false := by rw [e]; exact decide_eq_false (Int.lt_irrefl _)
    rw [ek, ← e]
    generalize (k p.1) = x at h1 ⊢
    obtain ⟨a, o, t, g, m, n, e1, ho, hc, hd1⟩ := h1
    rw [e1]
    refine PySem.W.kat_lt ho hd1 ho hd1 ?_
    show PySem.W.KatLex prog w A true (decide (3 < 3)) _ [(.int x t, .int x t), (.ref g, .ref g), (.ref m, .ref m)] 0 s
    refine PySem.W.kat_cons (SeqAt.EqAt.same _ prog w _ _ (PySem.W.kat_yes ?_))
    refine PySem.W.kat_cons (SeqAt.EqAt.same _ prog w _ _ (PySem.W.kat_yes ?_))
    refine PySem.W.kat_cons (SeqAt.EqAt.same _ prog w _ _ (PySem.W.kat_yes ?_))
    exact PySem.W.kat_nil ⟨rfl, rfl⟩
  · generalize (k p.1) = x at h1 e ⊢
    generalize (k q.1) = x' at h2 e ⊢
    obtain ⟨a, o, t, g, m, n, e1, ho, hc, hd1⟩ := h1
    obtain ⟨a', o', t', g', m', n', e2, ho', hc', hd2⟩ := h2
    rw [e1, e2]
    refine PySem.W.kat_lt ho hd1 ho' hd2 ?_
    show PySem.W.KatLex prog w A true (decide (3 < 3)) _ [(.int x t, .int x' t'), (.ref g, .ref g'), (.ref m, .ref m')] 0 s
    refine PySem.W.kat_cons (SeqAt.EqAt.int_int x t x' t' prog w _ _ ?_)
    refine PySem.W.kat_go (fun e3 => ?_) (fun e3 => ?_)
    · exact absurd (by simpa using e3) e
    · exact PySem.W.kat_no (oneLt_int ⟨rfl, rfl⟩)
theorem tri_sortable {a : Addr} {vs : List Value} {k : Value → Int} (h0 : 0 < vs.length) (hp : ∀ v ∈ vs, IsTri s.heap v (k v)) (hd : ∀ v ∈ vs, ∀ u ∈ vs, v = u ∨ k v ≠ k u) (ha : ∀ o, s.heap.get? a = some o → o.cls ≠ .type "tuple") : SortableO prog w A s a vs (ltI k) := by
  intro h' keep
  have hp' : ∀ v ∈ vs, IsTri h' v (k v) := fun v hm => (hp v hm).keeps fun b o e c => keep b o (fun z => by subst z; exact ha o e c) e
  obtain ⟨fs, h1, h2, h3⟩ := firstsT_of fun v hm => ⟨_, hp' v hm⟩
  refine ⟨tuples' true, fun Q E hq => ?_, tri_cmp hp' hd⟩
  refine PySem.W.kat_kind (T := .type "int") h1 (by omega) (fun f hm => ?_) (by rfl) ?_
  · obtain ⟨x, t, rfl⟩ := h3 f hm
    exact PySem.W.Looks.now
  · have e : (Value.type "int" != Value.type "tuple") = true := by first | decide +kernel | rfl | decide
    rw [e]
    exact hq
theorem sorted_tri {l : Addr} {vs : List Value} {k : Value → Int} {Q : Value → Shared → Prop} (hl : s.heap.IsTuple l vs.toArray) (hz : vs.length ≤ sizeLine) (hp : ∀ v ∈ vs, IsTri s.heap v (k v)) (hd : ∀ v ∈ vs, ∀ u ∈ vs, v = u ∨ k v ≠ k u)
    (h : ∀ (h' : Heap) (d : Addr) (out : List Value), Srtd (ltI k) out → Stb (ltI k) out vs → (∀ b o, s.heap.get? b = some o → h'.get? b = some o) → s.heap.objs.size ≤ d → (∃ n, h'.get? d = some (seqObj "list" out.toArray n)) → Q (.ref d) { s with heap := h' }) :
    wpAny (model prog w) A (call (.builtin "sorted") [.ref l]) Q E s := by
  refine sorted_ordT (swo_int k) hl hz (fun h2 h₁ a ha kk => ?_) fun out hs hb => ?_
  · refine tri_sortable (s := { s with heap := h₁ }) (by omega) (fun v hm => (hp v hm).keeps fun b o e _ => (kk b o e).2) hd fun o e => ?_
    have e' : some o = some (seqObj "list" vs.toArray 0) := e.symm.trans ha
    cases e'
    intro c
    exact absurd (Value.type.inj c) (by decide)
  · exact h _ _ out hs hb (fun b o e => sortedAll_old e) (Nat.le_succ _) (sortedAll_at s.heap vs out.toArray)
end
end SrtO
namespace VK
open PySem PySem.Spec PyProof.Rows L2
abbrev ltV (k : V → Int) (x y : V) : Bool := decide (k x < k y)
theorem fun_of {α β : Type} [Inhabited β] : ∀ {xs : List α} {ks : List β}, xs.length = ks.length → (∀ (i j : Nat) (x : α), xs[i]? = some x → xs[j]? = some x → ks[i]? = ks[j]?) → ∃ k : α → β, ks = xs.map k
  | [], ks, hl, _ => ⟨fun _ => default, List.eq_nil_of_length_eq_zero hl.symm⟩
  | x :: xs, [], hl, _ => by simp at hl
  | x :: xs, b :: ks, hl, h => by
    obtain ⟨k, hk⟩ := fun_of (xs := xs) (ks := ks) (by simpa using hl) fun i j y hi hj => by
      have := h (i + 1) (j + 1) y (by simpa using hi) (by simpa using hj)
      simpa using this
    classical
    refine ⟨fun y => if y = x then b else k y, ?_⟩
    rw [List.map_cons, if_pos rfl, hk]
    congr 1
    refine List.map_congr_left fun y hy => ?_
    by_cases e : y = x
    · rw [if_pos e]
      obtain ⟨j, hj, ej⟩ := List.getElem_of_mem hy
      have q := h 0 (j + 1) x rfl (by rw [List.getElem?_cons_succ, List.getElem?_eq_getElem hj, ej, e])
      rw [List.getElem?_cons_zero, List.getElem?_cons_succ, hk, List.getElem?_map, List.getElem?_eq_getElem hj, ej] at q
      exact (Option.some.inj q).symm
    · rw [if_neg e]
/-- sorted(xs), xs a tuple of triples of an int and two objects, the ints unlike -/
def rSortedH (K : PySem.W.Frag) : List V → Hp → VK → Prop := fun vs H Q => ∃ (a : Addr) (xs : List V) (ks : List Int), vs = [V.ref a] ∧ SqT K H a xs ∧ xs.length = ks.length ∧ (∀ (i : Nat) (x : V) (k : Int), xs[i]? = some x → ks[i]? = some k → ∃ t g m, x = V.ref t ∧ SqT K H t [.int k, .ref g, .ref m]) ∧ ks.Pairwise (· ≠ ·) ∧
  ∀ (k : V → Int) ys p, ks = xs.map k → SrtO.Srtd (ltV k) ys → ys.Perm xs → H p = none → Q (.ref p) (upd H p (.lst ys))
theorem cr_sortedH {X : Cx} : CallR X (.builtin "sorted") (rSortedH X.K) := by
  intro pins s σ H vs us Q I r h
  obtain ⟨a, xs, ks, rfl, hs, hlk, hx0, hpw, q⟩ := h
  obtain ⟨its, rv, hl, hz⟩ := I.tuple hs
  obtain ⟨u, rfl, ru⟩ := vals1 r
  obtain rfl : u = Value.ref a := ru
  have kat : ∀ (i : Nat) (x : V), xs[i]? = some x → ∃ k, ks[i]? = some k := fun i x h => ⟨ks[i]'(by have := (List.getElem?_eq_some_iff.mp h).1; omega), List.getElem?_eq_getElem _⟩
  obtain ⟨k, hk⟩ := fun_of hlk fun i j x hi hj => by
    obtain ⟨k1, h1⟩ := kat i x hi
    obtain ⟨k2, h2⟩ := kat j x hj
    obtain ⟨t1, g1, m1, e1, q1⟩ := hx0 i x k1 hi h1
    obtain ⟨t2, g2, m2, e2, q2⟩ := hx0 j x k2 hj h2
    rw [e1] at e2
    cases e2
    have := I.tuple_inj q1 q2
    injection this with e3 _
    rw [h1, h2, V.int.inj e3]
  have hx : ∀ x ∈ xs, ∃ t g m, x = V.ref t ∧ SqT X.K H t [.int (k x), .ref g, .ref m] := fun x hm => by
    obtain ⟨i, hi, ei⟩ := List.getElem_of_mem hm
    have h1 : xs[i]? = some x := by rw [List.getElem?_eq_getElem hi, ei]
    exact hx0 i x (k x) h1 (by rw [hk, List.getElem?_map, h1]; rfl)
  have hne : ∀ x ∈ xs, ∀ y ∈ xs, x = y ∨ k x ≠ k y := fun x hm y hm' => by
    obtain ⟨i, hi, ei⟩ := List.getElem_of_mem hm
    obtain ⟨j, hj, ej⟩ := List.getElem_of_mem hm'
    have pw : (xs.map k).Pairwise (· ≠ ·) := by rw [← hk]; exact hpw
    have pw2 := List.pairwise_iff_getElem.mp pw
    have li : i < (xs.map k).length := by rw [List.length_map]; exact hi
    have lj : j < (xs.map k).length := by rw [List.length_map]; exact hj
    rcases Nat.lt_trichotomy i j with z | z | z
    · right
      have := pw2 i j li lj z
      rw [List.getElem_map, List.getElem_map, ei, ej] at this
      exact this
    · left
      subst z
      rw [← ei, ← ej]
    · right
      have := pw2 j i lj li z
      rw [List.getElem_map, List.getElem_map, ei, ej] at this
      exact fun e => this e.symm
  obtain ⟨e1, e2⟩ := refs_back rv fun x m => by
    obtain ⟨t, g, m, e, _⟩ := hx x m
    exact ⟨t, e⟩
  have inx : ∀ v ∈ its, backV v ∈ xs := fun v hv => by rw [e1]; exact List.mem_map.mpr ⟨_, hv, rfl⟩
  refine SrtO.sorted_tri (k := fun u => k (backV u)) hl (by rw [← rv.length]; exact hz) (fun v hv => ?_) (fun v hv u hu => ?_) fun h' d out h1 h2 kp hd hn => ?_
  · obtain ⟨t, rfl⟩ := e2 v hv
    have hm : V.ref t ∈ xs := inx _ hv
    obtain ⟨t', g, m, e, ht⟩ := hx _ hm
    cases e
    obtain ⟨its2, r2, ⟨o, ho, hc, n, hd⟩, _⟩ := I.tuple ht
    cases r2 with
    | cons ri r3 =>
      cases r3 with
      | cons rg r4 =>
        cases r4 with
        | cons rm r5 =>
          cases r5
          obtain ⟨t1, rfl⟩ := ri
          cases rg
          cases rm
          exact ⟨t, o, t1, g, m, n, rfl, ho, hc, hd⟩
  · rcases hne _ (inx v hv) _ (inx u hu) with e | e
    · obtain ⟨t, rfl⟩ := e2 v hv
      obtain ⟨t', rfl⟩ := e2 u hu
      left
      exact congrArg Value.ref (V.ref.inj e)
    · exact .inr e
  · have h3 : ∀ u ∈ out, ∃ a, u = Value.ref a := fun u hu => e2 u (h2.perm.mem_iff.mp hu)
    obtain ⟨n, hn⟩ := hn
    have hb : (out.map backV).Perm xs := by
      rw [e1]
      exact h2.perm.map backV
    refine ⟨.ref d, upd H d (.lst (out.map backV)), I.laid (t' := s.toks) kp hd ⟨?_, out, n, vals_back h3, hn⟩, rfl, q k _ d hk (SrtO.srtd_map (f := backV) h1) hb (I.hok.fresh hd)⟩
    rw [hb.length_eq]
    exact hz
end VK
end

section
set_option Elab.async false
set_option linter.all false
set_option pp.maxSteps 1500
set_option maxRecDepth 100000
set_option maxHeartbeats 4000000
namespace VK
open PySem L2
def spApplyL (K : PySem.W.Frag) : Sp := fun vs H Q _ => ∃ (a b : Addr) (ls : List Str) (hs : List Hunk) (ws : List V), vs = [.ref a, .ref b] ∧ SqT K H a (ls.map V.str) ∧ H b = some (.lst ws) ∧ DpAll K H ws (hs.map hunkD) ∧ (applyF ls 0 hs).length ≤ 10000 ∧
  ∀ (H' : Hp) (p : Addr), Same H H' → SqT K H' p ((applyF ls 0 hs).map V.str) → Q (.ref p) H'
section
variable {P : Program} {w : World} {K : PySem.W.Frag} {mg : Str → Option Value} {base : Heap}
theorem ok_applyL {f : Addr} {fd : FuncData} (F : Fun K "_law_apply" "_law_apply" s__law_apply f fd) (T0 : Txt0 mg) : FnOk P w K mg base CX0 1 f fd ["lines", "patch"] (spApplyL K) := by
  refine F.ok sc__law_apply (fun vs H Q E h => ?_) (fun cdv A outer s H vs Q E hr h => ?_)
  · obtain ⟨a, b, ls, hs, ws, rfl, _⟩ := h
    rfl
  · obtain ⟨a, b, ls, hs, ws, rfl, hA, hb, hd, hlen, k⟩ := h
    refine ⟨_, (pss_cons (ps_set (i := 2) sc__law_apply.nd rfl (Or.inl rfl) (pe_tup pa_nil))
      (pss_cons (ps_set (i := 3) sc__law_apply.nd rfl (Or.inl rfl) pe_int)
      (pss_cons (ps_for PassesOwn.never rfl (pi_list (pv 1)) (pg_tup rfl (pgs_cons (pg_name (i := 4) sc__law_apply.nd rfl (Or.inl rfl)) (pgs_cons (pg_name (i := 5) sc__law_apply.nd rfl (Or.inl rfl)) (pgs_cons (pg_name (i := 6) sc__law_apply.nd rfl (Or.inl rfl)) pgs_nil))))
        (pss_cons (ps_set (i := 2) sc__law_apply.nd rfl (Or.inl rfl) (pe_op op_catA (pe_op op_catA (pv 2) (pe_callTy call_tupleT (by rfl) T0.z_tuple (by decide +kernel) (pa_cons (pe_slice sl_tupA (pv 0) (po_some (pv 3)) (po_some (pv 4))) pa_nil))) (pv 6)))
        (pss_one (ps_set (i := 3) sc__law_apply.nd rfl (Or.inl rfl) (pe_op op_add (pv 4) (pe_callB call_len_seq (by rfl) T0.z_len PySem.boot_len (pa_cons (pv 5) pa_nil)))))))
      (pss_one (ps_ret (pe_op op_catA (pv 2) (pe_callTy call_tupleT (by rfl) T0.z_tuple (by decide +kernel) (pa_cons (pe_slice sl_tupA (pv 0) (po_some (pv 3)) po_none) pa_nil)))))))), ?_⟩
    refine ⟨by show 0 ≤ sizeLine; decide, fun fo hfo => ?_⟩
    refine seq_c ?_
    have s0 : Same H (upd H fo (.tup [])) := same_new hfo
    have ln : ws.length = hs.length := by rw [dpAll_len hd, List.length_map]
    refine ⟨_, rfl, b, rfl, ⟨_, SqL.of (s0 _ _ hb)⟩, ?_⟩
    refine for_it (walk_list (xs := ws)) (fun c σ H' => ∃ (i : Nat) (q : Addr) (fs : List Str) (x4 x5 x6 : Option V), σ = [some (.ref a), some (.ref b), some (.ref q), some (.int (i : Int)), x4, x5, x6] ∧ Same H H' ∧ SqT K H' q (fs.map V.str) ∧ fs ++ applyF ls i (hs.drop c) = applyF ls 0 hs) ?_ (fun c σ H' _ h => ?_) ?_ ?_
    · exact ⟨0, fo, [], none, none, none, rfl, s0, .inl (.inl upd_same), rfl⟩
    · obtain ⟨i, q, fs, x4, x5, x6, rfl, h1, h2, h3⟩ := h
      exact SqL.of (h1 _ _ hb)
    · rintro c x σ H5o H5 hc ⟨i, q, fs, x4, x5, x6, rfl, sm, hq, hp⟩ ⟨rfl, hx⟩
      have hcf : c < hs.length := by rw [← ln]; exact hc
      obtain ⟨h, ht⟩ : ∃ h, h = hs[c] := ⟨_, rfl⟩
      have hf : hs[c]? = some h := by rw [List.getElem?_eq_getElem hcf, ht]
      obtain ⟨v, hv1, hv2⟩ := dpAll_at (hunks_keep (TK.same sm) hd) (k := c) (d := hunkD h) (by rw [List.getElem?_map, hf]; rfl)
      obtain rfl : v = x := Option.some.inj (hv1.symm.trans hx)
      obtain ⟨z, g, m, rfl, hz, hg, hm⟩ := of_hunk hv2
      have ed : hs.drop c = h :: hs.drop (c + 1) := by rw [List.drop_eq_getElem_cons hcf, ← ht]
      rw [ed, applyF] at hp
      have hl := congrArg List.length hp
      simp only [List.length_append] at hl
      refine ⟨z, _, rfl, hz, rfl, _, _, rfl, _, _, rfl, _, _, rfl, rfl, ?_⟩
      refine ⟨_, rfl, _, rfl, _, rfl, _, rfl, _, rfl, _, rfl, sl_lines (sm.seqT hA) fun H6 p s56 hp6 => ?_⟩
      refine ⟨p, _, rfl, hp6, ?_⟩
      refine cat_linesB (s56.seqT hq) hp6 (by omega) fun H7 r s67 hr7 => ?_
      refine ⟨_, rfl, cat_linesB hr7 ((s56.trans s67).seqT hm) (by rw [List.length_append]; omega) fun H8 y s78 hy8 => ?_⟩
      have s58 := s56.trans (s67.trans s78)
      refine ⟨_, rfl, _, rfl, g, _, rfl, .inr (s58.seqT hg), _, _, rfl, rfl, ?_⟩
      refine ⟨h.start + h.gone.length, y, fs ++ cutL ls i h.start ++ h.come, some (.int (h.start : Int)), some (.ref g), some (.ref m), ?_, sm.trans s58, hy8, ?_⟩
      · show [_, _, _, some (V.int ((h.start : Int) + ((h.gone.map V.str).length : Int))), _, _, _] = _
        rw [List.length_map]; rfl
      · rw [← hp]; simp [List.append_assoc]
    · rintro σ H5 ⟨i, q, fs, x4, x5, x6, rfl, sm, hq, hp⟩
      rw [ln, List.drop_length, applyF] at hp
      have hl := congrArg List.length hp
      simp only [List.length_append] at hl
      refine ⟨_, rfl, _, rfl, _, rfl, _, rfl, ?_⟩
      dsimp only [tNoPart]
      refine sl_linesFrom (sm.seqT hA) fun H6 p s56 hp6 => ?_
      refine ⟨p, _, rfl, hp6, ?_⟩
      refine cat_linesB (s56.seqT hq) hp6 (by omega) fun H7 r s67 hr7 => ?_
      exact k _ r (sm.trans (s56.trans s67)) (by rw [← hp]; exact hr7)
end
end VK
end

section
set_option Elab.async false
set_option linter.all false
set_option pp.maxSteps 1500
set_option maxRecDepth 100000
set_option maxHeartbeats 4000000
namespace VK
open PySem PySem.Spec PyProof.Rows L2
section
variable {prog : Program} {w : World} {K : PySem.W.Frag} {mg : Str → Option Value} {scope : Scope} {x : Str}
/-- isinstance(x, str) -/
def pbStr : V → Bool
  | .str _ => true
  | _ => false
theorem elt_str {p1 p2 p3 p4 : Pos} (hk : scope.kind = .function) (hl : scope.names.lookup x = some .local) (h1 : scope.names.lookup ("isinstance" : Str) = some .globalImplicit) (h2 : scope.names.lookup ("str" : Str) = some .globalImplicit) (m1 : mg "isinstance" = none) (m2 : mg "str" = none)
    (hd : (x == ("__debug__" : Str)) = false := by decide) :
    EltV prog w mg scope x (.Call (.Name "isinstance" p1) [.Name x p2, .Name "str" p3] [] p4) ItemSI pbStr := by
  intro cenv A' E' v u s₂ m₂ hs hz hr ge hn hm
  obtain ⟨mb, hb1, hb2⟩ := ge.b
  refine wpAny_Call_Name_kw (Calls.Name_function_global ge.kind (by show cenv.scope.names.lookup _ = _; rw [hs]; exact h1) (Calls.loadGlobal_builtin ge.g m1 hb1 ((hb2 "isinstance" (by decide)).trans boot_isinstance) ?_) (by decide))
  refine PyProof.Rows.callWith_builtin1 ?_ rfl rfl
  show wpAny _ _ (spliced [(false, eval (.Name x p2) cenv), (false, eval (.Name "str" p3) cenv)]) _ _ s₂
  refine Calls.spliced_cons (wpAny_Name (wpAny_loadName_local (by rw [hs]; exact hk) (show cenv.scope.names.lookup x = some .local by rw [hs]; exact hl) hn hm ?_) hd)
  refine Calls.spliced_cons (Calls.Name_function_global ge.kind (by show cenv.scope.names.lookup _ = _; rw [hs]; exact h2) (Calls.loadGlobal_builtin ge.g m2 hb1 ((hb2 "str" (by decide)).trans boot_str) ?_) (by decide))
  refine Calls.spliced_nil ?_
  rcases hz with ⟨a, rfl, ha⟩ | ⟨i, rfl⟩
  · obtain ⟨t, rfl⟩ := hr
    exact IsiPair.str_str ⟨tru_bool true, GxR.keeps_refl _⟩
  · obtain ⟨t, rfl⟩ := hr
    exact IsiPair.int_str ⟨tru_bool false, GxR.keeps_tok _ _⟩
/-- a tuple of three -/
def ItemH3 (K : PySem.W.Frag) (H : Hp) (v : V) (b : Bool) : Prop := b = true ∧ ∃ a xs, v = .ref a ∧ SqT K H a xs ∧ xs.length = 3
theorem elt_h3 {p1 p2 p3 p4 q1 q2 q3 q4 q5 p6 : Pos} {j : Nat} (hk : scope.kind = .function) (hl : scope.names.lookup x = some .local) (h1 : scope.names.lookup ("isinstance" : Str) = some .globalImplicit) (h2 : scope.names.lookup ("tuple" : Str) = some .globalImplicit) (h3 : scope.names.lookup ("len" : Str) = some .globalImplicit) (m1 : mg "isinstance" = none) (m2 : mg "tuple" = none) (m3 : mg "len" = none)
    (hd : (x == ("__debug__" : Str)) = false := by decide) :
    EltT prog w K mg scope x (.BoolOp .And [.Call (.Name "isinstance" p1) [.Name x p2, .Name "tuple" p3] [] p4, .Compare (.Call (.Name "len" q1) [.Name x q2] [] q3) [.Eq] [.Constant (.int 3) j q4] q5] p6) (ItemH3 K) := by
  intro H1 bv cenv A' E' v u s₂ m₂ hs hz hr ge hn hm TT
  obtain ⟨rfl, a, xs, rfl, ha, hl3⟩ := hz
  obtain rfl : u = Value.ref a := hr
  obtain ⟨its, rv, pl⟩ := TT a _ ha
  obtain ⟨mb, hb1, hb2⟩ := ge.b
  obtain ⟨ob, ho, hc, hrest⟩ := _root_.id pl
  have hlen := rv.length
  refine wpAny_And2 ?_
  refine wpAny_Call_Name_kw (Calls.Name_function_global ge.kind (by show cenv.scope.names.lookup _ = _; rw [hs]; exact h1) (Calls.loadGlobal_builtin ge.g m1 hb1 ((hb2 "isinstance" (by decide)).trans boot_isinstance) ?_) (by decide))
  refine PyProof.Rows.callWith_builtin1 ?_ rfl rfl
  show wpAny _ _ (spliced [(false, eval (.Name x p2) cenv), (false, eval (.Name "tuple" p3) cenv)]) _ _ s₂
  refine Calls.spliced_cons (wpAny_Name (wpAny_loadName_local (by rw [hs]; exact hk) (show cenv.scope.names.lookup x = some .local by rw [hs]; exact hl) hn hm ?_) hd)
  refine Calls.spliced_cons (Calls.Name_function_global ge.kind (by show cenv.scope.names.lookup _ = _; rw [hs]; exact h2) (Calls.loadGlobal_builtin ge.g m2 hb1 ((hb2 "tuple" (by decide)).trans boot_tuple) ?_) (by decide))
  refine Calls.spliced_nil ?_
  refine IsiPair.tuple_tuple ho hc (wpAny_truthy_bool ?_)
  rw [if_pos rfl]
  refine wpAny_Compare1 ?_
  refine wpAny_Call_Name_kw (Calls.Name_function_global ge.kind (by show cenv.scope.names.lookup _ = _; rw [hs]; exact h3) (Calls.loadGlobal_builtin ge.g m3 hb1 ((hb2 "len" (by decide)).trans boot_len) ?_) (by decide))
  refine PyProof.Rows.callWith_builtin1 ?_ rfl rfl
  show wpAny _ _ (spliced [(false, eval (.Name x q2) cenv)]) _ _ s₂
  refine Calls.spliced_cons (wpAny_Name (wpAny_loadName_local (by rw [hs]; exact hk) (show cenv.scope.names.lookup x = some .local by rw [hs]; exact hl) hn hm ?_) hd)
  refine Calls.spliced_nil ?_
  have h63 : (its.toArray.size : Int) < 2 ^ 63 := by rw [List.size_toArray, ← hlen, hl3]; decide
  refine PyProof.Rows.len_tuple pl h63 ?_
  refine wpAny_Constant_int ?_
  refine PyProof.Rows.eq_int ?_
  have e : ((its.toArray.size : Int) == 3) = true := by rw [List.size_toArray, ← hlen, hl3]; rfl
  rw [e]
  exact ⟨tru_bool true, GxR.keeps_tok _ _⟩
end
end VK
end

section
set_option Elab.async false
set_option linter.all false
set_option pp.maxSteps 1500
set_option maxRecDepth 100000
set_option maxHeartbeats 4000000
namespace VK
open PySem L2
abbrev s_within : Stmt := topS 24
theorem sc_within : FnScope ["patch", "low", "high", "start", "gone", "come"] ["patch", "low", "high"] (defScope s_within) := ⟨rfl, rfl, rfl, by decide +kernel, rfl, by decide +kernel, by decide +kernel⟩
def spWithin (K : PySem.W.Frag) : Sp := fun vs H Q _ => ∃ (a : Addr) (hs : List Hunk) (lo hi : Nat), vs = [.ref a, .int (lo : Int), .int (hi : Int)] ∧ Dp K H (.ref a) (hunksD hs) ∧ hs.length ≤ 1000 ∧
  ∀ (H' : Hp) (l : Addr) (ws : List V), Same H H' → H l = none → H' l = some (.lst ws) → DpAll K H' ws ((withinF hs lo hi).map hunkD) → Q (.ref l) H'
section
variable {P : Program} {w : World} {K : PySem.W.Frag} {mg : Str → Option Value} {base : Heap}
theorem ok_within {f : Addr} {fd : FuncData} (F : Fun K "within" "within" s_within f fd) (T0 : Txt0 mg) : FnOk P w K mg base CX0 1 f fd ["patch", "low", "high"] (spWithin K) := by
  refine F.ok sc_within (fun vs H Q E h => ?_) (fun cdv A outer s H vs Q E hr h => ?_)
  · obtain ⟨a, hs, lo, hi, rfl, _⟩ := h
    rfl
  · obtain ⟨a, hs, lo, hi, rfl, hA, hlen, k⟩ := h
    refine ⟨_, (pss_one (ps_ret (pe_lc (own := [("start", 3), ("gone", 4), ("come", 5)]) (g := _) (tt := _) rfl sc_within.nd (pi_tup (pv 0)) (blkOk_by (own := [("start", 3), ("gone", 4), ("come", 5)]) (N := ["patch", "low", "high", "start", "gone", "come"]) (sc := defScope s_within) (by decide +kernel)) (fun _ _ _ _ _ => (pg_tupQ (K := K) (n := 3) rfl rfl (pgs_cons (pg_name (i := 3) sc_within.nd rfl (Or.inl rfl)) (pgs_cons (pg_name (i := 4) sc_within.nd rfl (Or.inl rfl)) (pgs_cons (pg_name (i := 5) sc_within.nd rfl (Or.inl rfl)) pgs_nil))))) (fun _ _ _ _ _ => (pts_one (PW.pt (pw_and (pt_cmpR op_le (pv 1) (pv 3) (nomark _)) (pw_and1 (pt_cmpR op_le (pe_op op_add (pv 3) (pe_callB (call_lenQ (K := K) rfl) (by rfl) T0.z_len PySem.boot_len (pa_cons (pv 4) pa_nil))) (pv 2) (nomark _))))))) (fun _ _ _ _ _ => (pe_tup (pa_cons (pv 3) (pa_cons (pv 4) (pa_cons (pv 5) pa_nil)))))))), ?_⟩
    obtain ⟨b', ws, eb, hb, hd⟩ := of_tupD hA
    cases eb
    have ln : ws.length = hs.length := by rw [dpAll_len hd, List.length_map]
    refine ⟨_, rfl, a, rfl, ⟨_, hb⟩, fun D hD => ?_⟩
    refine lc_tup (xs := ws) (fun t H' => ∃ ys, H' D = some (.lst ys) ∧ Same H H' ∧ DpAll K H' ys ((withinF (hs.take t) lo hi).map hunkD)) ⟨[], upd_same, same_new hD, .nil⟩ (fun t H' _ h => by obtain ⟨ys, h1, h2, h3⟩ := h; exact h2.seqT hb) ?_ ?_
    · rintro t x H3 hx ⟨ys, hys, s3, hdy⟩
      have ht : t < hs.length := by rw [← ln]; exact (List.getElem?_eq_some_iff.mp hx).1
      have hrt : hs[t]? = some hs[t] := List.getElem?_eq_getElem ht
      obtain ⟨v, hv1, hv2⟩ := dpAll_at (hunks_keep (TK.same s3) hd) (k := t) (d := hunkD hs[t]) (by rw [List.getElem?_map, hrt]; rfl)
      obtain rfl : v = x := Option.some.inj (hv1.symm.trans hx)
      obtain ⟨z, g, m, rfl, hz, hg, hm⟩ := of_hunk hv2
      have etk : hs.take (t + 1) = hs.take t ++ [hs[t]] := by rw [List.take_succ, hrt]; rfl
      refine ⟨z, _, rfl, hz, rfl, _, _, rfl, _, _, rfl, _, _, rfl, rfl, rfl, ?_⟩
      refine tAnd_pure (y := decide (hs[t].start + hs[t].gone.length ≤ hi)) (fun Q h => ⟨_, rfl, _, rfl, _, _, rfl, rfl, _, rfl, h⟩) (fun Q h => ⟨_, rfl, _, rfl, g, _, rfl, .inr hg, _, _, rfl, rfl, _, rfl, _, _, rfl, rfl, _, rfl, ?_⟩) ?_
      · rw [List.length_map]
        have e : decide ((hs[t].start : Int) + (hs[t].gone.length : Int) ≤ (hi : Int)) = decide (hs[t].start + hs[t].gone.length ≤ hi) := by
          by_cases q : hs[t].start + hs[t].gone.length ≤ hi
          · rw [decide_eq_true q, decide_eq_true]; omega
          · rw [decide_eq_false q, decide_eq_false]; omega
        rw [e]; exact h
      · have e1 : decide ((lo : Int) ≤ (hs[t].start : Int)) = decide (lo ≤ hs[t].start) := by
          by_cases q : lo ≤ hs[t].start
          · rw [decide_eq_true q, decide_eq_true]; omega
          · rw [decide_eq_false q, decide_eq_false]; omega
        rw [e1]
        have lys : ys.length < 1000000 := by
          have q1 := dpAll_len hdy
          rw [List.length_map] at q1
          have q2 := List.length_filter_le (fun h : Hunk => decide (lo ≤ h.start) && decide (h.start + h.gone.length ≤ hi)) (hs.take t)
          rw [List.length_take] at q2
          unfold withinF at q1
          omega
        refine ite2 (fun e => ?_) (fun e => ?_)
        · refine ⟨_, rfl, _, rfl, _, rfl, by show 3 ≤ sizeLine; decide, fun q hq => ?_⟩
          have ys2 : upd H3 q (.tup [.int (hs[t].start : Int), .ref g, .ref m]) D = some (.lst ys) := by rw [upd_ne (ne_of_none hys hq)]; exact hys
          refine ⟨ys, ys2, Nat.lt_of_lt_of_le lys (by decide), ys ++ [.ref q], upd_same, same_mut (s3.trans (same_new hq)) hD, ?_⟩
          have tk := (TK.new (K := K) (o := .tup [.int (hs[t].start : Int), .ref g, .ref m]) hq).trans (TK.lst (o := .lst (ys ++ [.ref q])) ys2)
          have ef : withinF (hs.take (t + 1)) lo hi = withinF (hs.take t) lo hi ++ [hs[t]] := by
            unfold withinF
            rw [etk, List.filter_append, List.filter_cons_of_pos (p := fun h : Hunk => decide (lo ≤ h.start) && decide (h.start + h.gone.length ≤ hi)) e, List.filter_nil]
          rw [ef, List.map_append]
          refine dpAll_app (hunks_keep tk hdy) (dpAll_one (dp_hunk (b := g) (c := m) ?_ ?_ ?_))
          · exact TK.lst ys2 _ _ (.inl (.inl upd_same))
          · exact tk _ _ hg
          · exact tk _ _ hm
        · refine ⟨ys, hys, s3, ?_⟩
          have ef : withinF (hs.take (t + 1)) lo hi = withinF (hs.take t) lo hi := by
            unfold withinF
            rw [etk, List.filter_append, List.filter_cons_of_neg (p := fun h : Hunk => decide (lo ≤ h.start) && decide (h.start + h.gone.length ≤ hi)) e, List.filter_nil, List.append_nil]
          rw [ef]; exact hdy
    · rintro H3 ⟨ys, hys, s3, hdy⟩
      rw [ln, List.take_length] at hdy
      exact k _ D ys s3 hD hys hdy
end
end VK
end

section
set_option Elab.async false
set_option linter.all false
set_option pp.maxSteps 1500
set_option maxRecDepth 100000
set_option maxHeartbeats 4000000
namespace VK
open PySem L2
abbrev s_rewritten : Stmt := topS 26
theorem sc_rewritten : FnScope ["lines", "low", "hunks", "found", "here", "start", "gone", "come"] ["lines", "low", "hunks"] (defScope s_rewritten) := ⟨rfl, rfl, rfl, by decide +kernel, rfl, by decide +kernel, by decide +kernel⟩
def spRew (K : PySem.W.Frag) : Sp := fun vs H Q _ => ∃ (a b : Addr) (ls : List Str) (hs : List Hunk) (ws : List V) (low : Nat), vs = [.ref a, .int (low : Int), .ref b] ∧ SqT K H a (ls.map V.str) ∧ H b = some (.lst ws) ∧ DpAll K H ws (hs.map hunkD) ∧ (∀ h ∈ hs, low ≤ h.start) ∧ (rewF ls low 0 hs).length ≤ 100000 ∧
  ∀ (H' : Hp) (p : Addr), Same H H' → SqT K H' p ((rewF ls low 0 hs).map V.str) → Q (.ref p) H'
section
variable {P : Program} {w : World} {K : PySem.W.Frag} {mg : Str → Option Value} {base : Heap}
theorem ok_rew {f : Addr} {fd : FuncData} (F : Fun K "rewritten" "rewritten" s_rewritten f fd) (T0 : Txt0 mg) : FnOk P w K mg base CX0 1 f fd ["lines", "low", "hunks"] (spRew K) := by
  refine F.ok sc_rewritten (fun vs H Q E h => ?_) (fun cdv A outer s H vs Q E hr h => ?_)
  · obtain ⟨a, b, ls, hs, ws, low, rfl, _⟩ := h
    rfl
  · obtain ⟨a, b, ls, hs, ws, low, rfl, hA, hb, hd, hlow, hlen, k⟩ := h
    refine ⟨_, (pss_cons (ps_asg (pe_tup (pa_cons (pe_tup pa_nil) (pa_cons pe_int pa_nil))) (pg_tup rfl (pgs_cons (pg_name (i := 3) sc_rewritten.nd rfl (Or.inl rfl)) (pgs_cons (pg_name (i := 4) sc_rewritten.nd rfl (Or.inl rfl)) pgs_nil))))
      (pss_cons (ps_for PassesOwn.never rfl (pi_list (pv 2)) (pg_tup rfl (pgs_cons (pg_name (i := 5) sc_rewritten.nd rfl (Or.inl rfl)) (pgs_cons (pg_name (i := 6) sc_rewritten.nd rfl (Or.inl rfl)) (pgs_cons (pg_name (i := 7) sc_rewritten.nd rfl (Or.inl rfl)) pgs_nil))))
        (pss_cons (ps_set (i := 3) sc_rewritten.nd rfl (Or.inl rfl) (pe_op op_catA (pe_op op_catA (pv 3) (pe_callTy call_tupleT (by rfl) T0.z_tuple (by decide +kernel) (pa_cons (pe_slice sl_tupA (pv 0) (po_some (pv 4)) (po_some (pe_op op_sub (pv 5) (pv 1)))) pa_nil))) (pv 7)))
        (pss_one (ps_set (i := 4) sc_rewritten.nd rfl (Or.inl rfl) (pe_op op_add (pe_op op_sub (pv 5) (pv 1)) (pe_callB call_len_seq (by rfl) T0.z_len PySem.boot_len (pa_cons (pv 6) pa_nil)))))))
      (pss_one (ps_ret (pe_op op_catA (pv 3) (pe_callTy call_tupleT (by rfl) T0.z_tuple (by decide +kernel) (pa_cons (pe_slice sl_tupA (pv 0) (po_some (pv 4)) po_none) pa_nil))))))), ?_⟩
    refine ⟨by show 0 ≤ sizeLine; decide, fun fo hfo => ⟨by show 2 ≤ sizeLine; decide, fun tq htq => ⟨tq, _, rfl, .inl (.inl upd_same), rfl, _, _, rfl, _, _, rfl, rfl, ?_⟩⟩⟩
    have s1 : Same (upd H fo (.tup [])) (upd (upd H fo (.tup [])) tq (.tup [.ref fo, .int 0])) := same_new htq
    have s0 : Same H (upd (upd H fo (.tup [])) tq (.tup [.ref fo, .int 0])) := (same_new hfo).trans s1
    have ln : ws.length = hs.length := by rw [dpAll_len hd, List.length_map]
    refine ⟨_, rfl, b, rfl, ⟨_, SqL.of (s0 _ _ hb)⟩, ?_⟩
    refine for_it (walk_list (xs := ws)) (fun c σ H' => ∃ (i : Nat) (q : Addr) (fs : List Str) (x5 x6 x7 : Option V), σ = [some (.ref a), some (.int (low : Int)), some (.ref b), some (.ref q), some (.int (i : Int)), x5, x6, x7] ∧ Same H H' ∧ SqT K H' q (fs.map V.str) ∧ fs ++ rewF ls low i (hs.drop c) = rewF ls low 0 hs) ?_ (fun c σ H' _ h => ?_) ?_ ?_
    · exact ⟨0, fo, [], none, none, none, rfl, s0, s1.seqT (.inl (.inl upd_same)), rfl⟩
    · obtain ⟨i, q, fs, x5, x6, x7, rfl, h1, h2, h3⟩ := h
      exact SqL.of (h1 _ _ hb)
    · rintro c x σ H5o H5 hc ⟨i, q, fs, x5, x6, x7, rfl, sm, hq, hp⟩ ⟨rfl, hx⟩
      have hcf : c < hs.length := by rw [← ln]; exact hc
      obtain ⟨h, ht⟩ : ∃ h, h = hs[c] := ⟨_, rfl⟩
      have hf : hs[c]? = some h := by rw [List.getElem?_eq_getElem hcf, ht]
      have hlo : low ≤ h.start := hlow h (List.mem_of_getElem? hf)
      obtain ⟨v, hv1, hv2⟩ := dpAll_at (hunks_keep (TK.same sm) hd) (k := c) (d := hunkD h) (by rw [List.getElem?_map, hf]; rfl)
      obtain rfl : v = x := Option.some.inj (hv1.symm.trans hx)
      obtain ⟨z, g, m, rfl, hz, hg, hm⟩ := of_hunk hv2
      have ed : hs.drop c = h :: hs.drop (c + 1) := by rw [List.drop_eq_getElem_cons hcf, ← ht]
      rw [ed, rewF] at hp
      have hl := congrArg List.length hp
      simp only [List.length_append] at hl
      have esub : (h.start : Int) - (low : Int) = ((h.start - low : Nat) : Int) := by omega
      refine ⟨z, _, rfl, hz, rfl, _, _, rfl, _, _, rfl, _, _, rfl, rfl, ?_⟩
      refine ⟨_, rfl, _, rfl, _, rfl, _, rfl, _, rfl, _, rfl, _, _, rfl, rfl, _, congrArg V.int esub, ?_⟩
      refine sl_lines (sm.seqT hA) fun H6 p s56 hp6 => ?_
      refine ⟨p, _, rfl, hp6, ?_⟩
      refine cat_linesB (s56.seqT hq) hp6 (by omega) fun H7 r s67 hr7 => ?_
      refine ⟨_, rfl, cat_linesB hr7 ((s56.trans s67).seqT hm) (by rw [List.length_append]; omega) fun H8 y s78 hy8 => ?_⟩
      have s58 := s56.trans (s67.trans s78)
      refine ⟨_, rfl, _, rfl, _, _, rfl, rfl, _, rfl, g, _, rfl, .inr (s58.seqT hg), _, _, rfl, rfl, ?_⟩
      refine ⟨h.start - low + h.gone.length, y, fs ++ cutL ls i (h.start - low) ++ h.come, some (.int (h.start : Int)), some (.ref g), some (.ref m), ?_, sm.trans s58, hy8, ?_⟩
      · show [_, _, _, _, some (V.int ((h.start : Int) - (low : Int) + ((h.gone.map V.str).length : Int))), _, _, _] = _
        rw [List.length_map, esub]; rfl
      · rw [← hp]; simp [List.append_assoc]
    · rintro σ H5 ⟨i, q, fs, x5, x6, x7, rfl, sm, hq, hp⟩
      rw [ln, List.drop_length, rewF] at hp
      have hl := congrArg List.length hp
      simp only [List.length_append] at hl
      refine ⟨_, rfl, _, rfl, _, rfl, _, rfl, ?_⟩
      dsimp only [tNoPart]
      refine sl_linesFrom (sm.seqT hA) fun H6 p s56 hp6 => ?_
      refine ⟨p, _, rfl, hp6, ?_⟩
      refine cat_linesB (s56.seqT hq) hp6 (by omega) fun H7 r s67 hr7 => ?_
      exact k _ r (sm.trans (s56.trans s67)) (by rw [← hp]; exact hr7)
end
end VK
end

section
set_option Elab.async false
set_option linter.all false
set_option pp.maxSteps 1500
set_option maxRecDepth 100000
set_option maxHeartbeats 4000000
namespace VK
open PySem L2
/-! pairs in a list, as new tuples -/
def PTu (H : Hp) (x : V) : Prop := ∃ (t : Addr) (i j : Nat), x = .ref t ∧ H t = some (.tup [.int (i : Int), .int (j : Int)])
def kOf (H : Hp) (v : V) : Int × Int := match v with
  | .ref t => (match H t with
    | some (.tup [.int i, .int j]) => (i, j)
    | _ => (0, 0))
  | _ => (0, 0)
def kN (H : Hp) (v : V) : Nat × Nat := ((kOf H v).1.toNat, (kOf H v).2.toNat)
theorem kOf_at {H : Hp} {t : Addr} {i j : Int} (h : H t = some (.tup [.int i, .int j])) : kOf H (.ref t) = (i, j) := by
  unfold kOf
  dsimp only
  rw [h]
structure PA (H : Hp) (ys : List V) (ps : List (Nat × Nat)) : Prop where
  eq : ps = ys.map (kN H)
  all : ∀ x ∈ ys, PTu H x
theorem PA.dp {K : PySem.W.Frag} {H : Hp} : ∀ {ys : List V} {ps : List (Nat × Nat)}, PA H ys ps → DpAll K H ys (ps.map pairD)
  | [], _, ⟨rfl, _⟩ => .nil
  | x :: ys, _, ⟨rfl, h⟩ => by
    obtain ⟨t, i, j, rfl, ht⟩ := h x (List.mem_cons_self ..)
    refine .cons ?_ (PA.dp ⟨rfl, fun y hy => h y (List.mem_cons_of_mem _ hy)⟩)
    have e : kN H (.ref t) = (i, j) := by
      unfold kN
      rw [kOf_at ht]
      rfl
    rw [e]
    exact dp_pair (.inl (.inl ht))
theorem kN_same {H H' : Hp} (s : Same H H') {x : V} (h : PTu H x) : kN H' x = kN H x ∧ PTu H' x := by
  obtain ⟨t, i, j, rfl, ht⟩ := h
  refine ⟨?_, t, i, j, rfl, s _ _ ht⟩
  unfold kN
  rw [kOf_at ht, kOf_at (s _ _ ht)]
theorem PA.same {H H' : Hp} (s : ∀ a xs, H a = some (.tup xs) → H' a = some (.tup xs)) {ys : List V} {ps : List (Nat × Nat)} (h : PA H ys ps) : PA H' ys ps := by
  have q : ∀ x ∈ ys, kN H' x = kN H x ∧ PTu H' x := fun x hx => by
    obtain ⟨t, i, j, rfl, ht⟩ := h.all x hx
    refine ⟨?_, t, i, j, rfl, s _ _ ht⟩
    unfold kN
    rw [kOf_at ht, kOf_at (s _ _ ht)]
  refine ⟨?_, fun x hx => (q x hx).2⟩
  rw [h.eq]
  exact List.map_congr_left fun x hx => (q x hx).1.symm
theorem PA.snoc {H : Hp} {ys : List V} {ps : List (Nat × Nat)} (h : PA H ys ps) {t : Addr} {i j : Nat} (ht : H t = some (.tup [.int (i : Int), .int (j : Int)])) : PA H (ys ++ [.ref t]) (ps ++ [(i, j)]) := by
  refine ⟨?_, fun x hx => ?_⟩
  · rw [List.map_append, ← h.eq]
    congr 1
    show [(i, j)] = [kN H (.ref t)]
    unfold kN
    rw [kOf_at ht]
    rfl
  · rcases List.mem_append.mp hx with hx | hx
    · exact h.all x hx
    · rw [List.mem_singleton.mp hx]
      exact ⟨t, i, j, rfl, ht⟩
theorem PA.sorted {H : Hp} {ys zs : List V} {ps : List (Nat × Nat)} (h : PA H ys ps) (hs : SrtO.Srtd (ltP (kOf H)) zs) (hst : SrtO.Stb (ltP (kOf H)) zs ys) : PA H zs (sortP ps) := by
  have all : ∀ x ∈ zs, PTu H x := fun x hx => h.all x (hst.perm.mem_iff.mp hx)
  refine ⟨?_, all⟩
  refine (sorted_uniq ((hst.perm.map (kN H)).trans ((by rw [h.eq] : ps = ys.map (kN H)) ▸ (sortP_perm ps).symm)) ?_ (sortP_sorted ps)).symm
  rw [List.pairwise_map]
  refine (List.Pairwise.and_mem.mp hs).imp fun {a b} q => ?_
  obtain ⟨ha, hb, hl⟩ := q
  obtain ⟨t, i, j, rfl, ht⟩ := all a ha
  obtain ⟨t', i', j', rfl, ht'⟩ := all b hb
  have hl2 := SrtO.lexB_no.mp hl
  rw [kOf_at ht, kOf_at ht'] at hl2
  have e1 : kN H (.ref t) = (i, j) := by unfold kN; rw [kOf_at ht]; rfl
  have e2 : kN H (.ref t') = (i', j') := by unfold kN; rw [kOf_at ht']; rfl
  rw [e1, e2]
  simp only [leP, Bool.or_eq_true, Bool.and_eq_true, decide_eq_true_eq]
  dsimp only at hl2
  omega
abbrev s_spans_between : Stmt := topS 23
theorem sc_spans_between : FnScope ["one", "two", "found", "low", "high", "start", "gone", "_"] ["one", "two"] (defScope s_spans_between) := ⟨rfl, rfl, rfl, by decide +kernel, rfl, by decide +kernel, by decide +kernel⟩
def spSpans (K : PySem.W.Frag) : Sp := fun vs H Q _ => ∃ (a b : Addr) (f s : List Hunk), vs = [.ref a, .ref b] ∧ Dp K H (.ref a) (hunksD f) ∧ Dp K H (.ref b) (hunksD s) ∧ f.length ≤ 1000 ∧ s.length ≤ 1000 ∧
  ∀ (H' : Hp) (l : Addr) (ws : List V), Same H H' → H l = none → H' l = some (.lst ws) → DpAll K H' ws ((spansF f s).map pairD) → Q (.ref l) H'
section
variable {P : Program} {w : World} {K : PySem.W.Frag} {mg : Str → Option Value} {base : Heap}
theorem ok_spans {f : Addr} {fd : FuncData} (F : Fun K "spans_between" "spans_between" s_spans_between f fd) (T0 : Txt0 mg) (z_sorted : mg "sorted" = none) : FnOk P w K mg base CX0 1 f fd ["one", "two"] (spSpans K) := by
  refine F.ok sc_spans_between (fun vs H Q E h => ?_) (fun cdv A outer s H vs Q E hr h => ?_)
  · obtain ⟨a, b, f, s, rfl, _⟩ := h
    rfl
  · obtain ⟨a, b, f, s, rfl, hA, hB, hf, hs, k⟩ := h
    refine ⟨_, (pss_cons (ps_set (i := 2) sc_spans_between.nd rfl (Or.inl rfl) (pe_lst pa_nil))
      (pss_cons (ps_for PassesOwn.never rfl (pi_list (pe_callB cr_sortedPO (by rfl) z_sorted (by decide +kernel) (pa_cons (pe_lc (own := [("start", 5), ("gone", 6), ("_", 7)]) (g := _) (tt := tYes) rfl sc_spans_between.nd (pi_tup (pe_op op_catA (pv 0) (pv 1))) (blkOk_by (own := [("start", 5), ("gone", 6), ("_", 7)]) (N := ["one", "two", "found", "low", "high", "start", "gone", "_"]) (sc := defScope s_spans_between) (by decide +kernel)) (fun _ _ _ _ _ => (pg_tupQ (K := K) (n := 3) rfl rfl (pgs_cons (pg_name (i := 5) sc_spans_between.nd rfl (Or.inl rfl)) (pgs_cons (pg_name (i := 6) sc_spans_between.nd rfl (Or.inl rfl)) (pgs_cons (pg_name (i := 7) sc_spans_between.nd rfl (Or.inl rfl)) pgs_nil))))) (fun _ _ _ _ _ => pts_nil) (fun _ _ _ _ _ => (pe_tup (pa_cons (pv 5) (pa_cons (pe_op op_add (pv 5) (pe_callB (call_lenQ (K := K) rfl) (by rfl) T0.z_len PySem.boot_len (pa_cons (pv 6) pa_nil))) pa_nil))))) pa_nil))) (pg_tup rfl (pgs_cons (pg_name (i := 3) sc_spans_between.nd rfl (Or.inl rfl)) (pgs_cons (pg_name (i := 4) sc_spans_between.nd rfl (Or.inl rfl)) pgs_nil)))
        (pss_one (ps_if (PW.pt (pw_and (pt_truth (pv 2) (by intro _; rfl)) (pw_and1 (pt_cmpR op_le (pv 3) (pe_ix ix_tup (pe_ix ix_list (pv 2) (pe_un un_neg pe_int) (fun _ _ => rfl)) pe_int (fun _ _ => rfl)) (nomark _)))))
          (pss_one (ps_asg (pe_tup (pa_cons (pe_ix ix_tup (pe_ix ix_list (pv 2) (pe_un un_neg pe_int) (fun _ _ => rfl)) pe_int (fun _ _ => rfl)) (pa_cons (pe_callB (call_max2 rfl) (by rfl) T0.z_max (by decide +kernel) (pa_cons (pe_ix ix_tup (pe_ix ix_list (pv 2) (pe_un un_neg pe_int) (fun _ _ => rfl)) pe_int (fun _ _ => rfl)) (pa_cons (pv 4) pa_nil))) pa_nil))) (pg_sub (pv 2) (pe_un un_neg pe_int) set_list)))
          (pss_one (ps_expr (pe_bm PySem.F.plainAttrs_list PySem.F.slot_list_append PySem.F.type_list_append mt_append (pv 2) (pa_cons (pe_tup (pa_cons (pv 3) (pa_cons (pv 4) pa_nil))) pa_nil)))))))
      (pss_one (ps_ret (pv 2))))), ?_⟩
    obtain ⟨a', us, ea, ha, hda⟩ := of_tupD hA
    cases ea
    obtain ⟨b', vs, eb, hb, hdb⟩ := of_tupD hB
    cases eb
    have lu : us.length = f.length := by rw [dpAll_len hda, List.length_map]
    have lv : vs.length = s.length := by rw [dpAll_len hdb, List.length_map]
    refine ⟨by show 0 ≤ sizeLine; decide, fun fo hfo => ?_⟩
    have s0 : Same H (upd H fo (.lst [])) := same_new hfo
    refine ⟨_, rfl, _, rfl, cat_tupK (s0.seqT ha) (s0.seqT hb) (Nat.le_trans (show us.length + vs.length ≤ 2000 by omega) (by decide)) fun H1 c s1 hc => ?_⟩
    have s01 := s0.trans s1
    have hd1 : DpAll K H1 (us ++ vs) ((f ++ s).map hunkD) := by
      rw [List.map_append]
      exact dpAll_app (hunks_keep (TK.same s01) hda) (hunks_keep (TK.same s01) hdb)
    have ln : (us ++ vs).length = (f ++ s).length := by rw [List.length_append, List.length_append, lu, lv]
    refine ⟨c, rfl, ⟨_, hc⟩, fun D hD => ?_⟩
    refine lc_tup (xs := us ++ vs) (fun t H' => ∃ ys, H' D = some (.lst ys) ∧ Same H1 H' ∧ PA H' ys (((f ++ s).take t).map hspan)) ⟨[], upd_same, same_new hD, rfl, fun _ h => nomatch h⟩ (fun t H' _ h => by obtain ⟨ys, h1, h2, h3⟩ := h; exact h2.seqT hc) ?_ ?_
    · rintro t x H3 hx ⟨ys, hys, s3, hpa⟩
      have ht : t < (f ++ s).length := by rw [← ln]; exact (List.getElem?_eq_some_iff.mp hx).1
      obtain ⟨h, eh⟩ : ∃ h, h = (f ++ s)[t] := ⟨_, rfl⟩
      have hrt : (f ++ s)[t]? = some h := by rw [List.getElem?_eq_getElem ht, eh]
      obtain ⟨v, hv1, hv2⟩ := dpAll_at (hunks_keep (TK.same s3) hd1) (k := t) (d := hunkD h) (by rw [List.getElem?_map, hrt]; rfl)
      obtain rfl : v = x := Option.some.inj (hv1.symm.trans hx)
      obtain ⟨z, g, m, rfl, hz, hg, hm⟩ := of_hunk hv2
      have etk : (f ++ s).take (t + 1) = (f ++ s).take t ++ [h] := by rw [List.take_succ, hrt]; rfl
      have lys : ys.length < 1000000 := by
        have q1 := congrArg List.length hpa.eq
        rw [List.length_map, List.length_map, List.length_take] at q1
        rw [List.length_append] at ht
        omega
      refine ⟨z, _, rfl, hz, rfl, _, _, rfl, _, _, rfl, _, _, rfl, rfl, rfl, ?_⟩
      refine ⟨_, rfl, _, rfl, _, rfl, g, _, rfl, .inr hg, _, _, rfl, rfl, by show 2 ≤ sizeLine; decide, fun q hq => ?_⟩
      have hys2 : upd H3 q (.tup [.int (h.start : Int), .int ((h.start : Int) + ((h.gone.map V.str).length : Int))]) D = some (.lst ys) := by rw [upd_ne (ne_of_none hys hq)]; exact hys
      refine ⟨ys, hys2, Nat.lt_of_lt_of_le lys (by decide), ys ++ [.ref q], upd_same, same_mut (s3.trans (same_new hq)) hD, ?_⟩
      rw [etk, List.map_append]
      refine (hpa.same fun a xs e => ?_).snoc ?_
      · have n1 : a ≠ q := ne_of_none e hq
        have n2 : a ≠ D := by rintro rfl; rw [hys] at e; cases e
        rw [upd_ne n2, upd_ne n1]; exact e
      · have n2 : q ≠ D := by rintro rfl; rw [hys] at hq; cases hq
        rw [upd_ne n2, upd_same, List.length_map]
        rfl
    · rintro H3 ⟨ys, hys, s3, hpa⟩
      rw [ln, List.take_length] at hpa
      refine ⟨D, ys, kOf H3, rfl, SqL.of hys, fun x hx => ?_, fun zs p hz1 hz2 hp => ?_⟩
      · obtain ⟨t, i, j, rfl, ht⟩ := hpa.all x hx
        exact ⟨t, rfl, by rw [kOf_at ht]; exact ht⟩
      · obtain ⟨H4, e4⟩ : ∃ H4, H4 = upd H3 p (.lst zs) := ⟨_, rfl⟩
        rw [← e4]
        have s34 : Same H3 H4 := by rw [e4]; exact same_new hp
        have hp4 : H4 p = some (.lst zs) := by rw [e4, upd_same]
        obtain ⟨qs, eqs⟩ : ∃ qs, qs = sortP ((f ++ s).map hspan) := ⟨_, rfl⟩
        have hd4 : DpAll K H4 zs (qs.map pairD) := by
          rw [eqs]
          exact ((hpa.sorted hz1 hz2).same fun a xs e => s34 _ _ e).dp
        have lz : zs.length = qs.length := by rw [dpAll_len hd4, List.length_map]
        have lq : qs.length ≤ 2000 := by
          rw [eqs, (sortP_perm _).length_eq, List.length_map, List.length_append]
          omega
        have s14 : Same H1 H4 := s3.trans s34
        have hfo4 : H4 fo = some (.lst []) := s14 _ _ (s1 _ _ upd_same)
        have s4 : Same H H4 := s01.trans s14
        have npf : p ≠ fo := fun e => by
          rw [e, s3 _ _ (s1 _ _ upd_same)] at hp
          cases hp
        refine ⟨p, rfl, ⟨_, SqL.of hp4⟩, ?_⟩
        refine for_it (walk_list (xs := zs)) (fun c σ H' => ∃ (vs : List V) (dn : List (Nat × Nat)) (x3 x4 : Option V), σ = [some (.ref a), some (.ref b), some (.ref fo), x3, x4, none, none, none] ∧ Same H H' ∧ TK K H4 H' ∧ H' p = some (.lst zs) ∧ H' fo = some (.lst vs) ∧ DpAll K H' vs (dn.map pairD) ∧ (qs.drop c).foldl addSpan dn = spansF f s ∧ dn.length ≤ c) ?_ (fun c σ H' _ h => ?_) ?_ ?_
        · exact ⟨[], [], none, none, rfl, s4, TK.refl _ _, hp4, hfo4, .nil, by rw [eqs]; rfl, Nat.le_refl _⟩
        · obtain ⟨vs, dn, x3, x4, rfl, h1, h2, h3, h4⟩ := h
          exact SqL.of h3
        · rintro c x σ H5o H5 hc ⟨vs, dn, x3, x4, rfl, sm, tk, hpp, hv, hdd, hfold, hlen⟩ ⟨rfl, hx⟩
          have hcf : c < qs.length := by rw [← lz]; exact hc
          obtain ⟨⟨lo, hi⟩, eq⟩ : ∃ q, q = qs[c] := ⟨_, rfl⟩
          have hf : qs[c]? = some (lo, hi) := by rw [List.getElem?_eq_getElem hcf, eq]
          obtain ⟨v, hv1, hv2⟩ := dpAll_at (pairs_keep tk hd4) (k := c) (d := pairD (lo, hi)) (by rw [List.getElem?_map, hf]; rfl)
          obtain rfl : v = x := Option.some.inj (hv1.symm.trans hx)
          obtain ⟨z, rfl, hz⟩ := of_pair hv2
          have ed : qs.drop c = (lo, hi) :: qs.drop (c + 1) := by rw [List.drop_eq_getElem_cons hcf, ← eq]
          rw [ed, List.foldl_cons] at hfold
          have lvs : vs.length < sizeLine := by
            have q1 := dpAll_len hdd
            rw [List.length_map] at q1
            exact Nat.lt_of_lt_of_le (show vs.length < 5000 by omega) (by decide)
          -- a new pair is put behind
          have app : addSpan dn (lo, hi) = dn ++ [(lo, hi)] → ∀ q, H5 q = none → ∃ (vs' : List V) (dn' : List (Nat × Nat)) (x3 x4 : Option V), [some (V.ref a), some (.ref b), some (.ref fo), some (.int (lo : Int)), some (.int (hi : Int)), none, none, none] = [some (V.ref a), some (.ref b), some (.ref fo), x3, x4, none, none, none] ∧ Same H (upd (upd H5 q (.tup [.int (lo : Int), .int (hi : Int)])) fo (.lst (vs ++ [.ref q]))) ∧ TK K H4 (upd (upd H5 q (.tup [.int (lo : Int), .int (hi : Int)])) fo (.lst (vs ++ [.ref q]))) ∧
              (upd (upd H5 q (.tup [.int (lo : Int), .int (hi : Int)])) fo (.lst (vs ++ [.ref q]))) p = some (.lst zs) ∧ (upd (upd H5 q (.tup [.int (lo : Int), .int (hi : Int)])) fo (.lst (vs ++ [.ref q]))) fo = some (.lst vs') ∧ DpAll K (upd (upd H5 q (.tup [.int (lo : Int), .int (hi : Int)])) fo (.lst (vs ++ [.ref q]))) vs' (dn'.map pairD) ∧ (qs.drop (c + 1)).foldl addSpan dn' = spansF f s ∧ dn'.length ≤ c + 1 := fun e q hq => by
            have h2 : upd H5 q (.tup [.int (lo : Int), .int (hi : Int)]) fo = some (.lst vs) := by rw [upd_ne (ne_of_none hv hq)]; exact hv
            have tk2 := (TK.new (K := K) (o := .tup [.int (lo : Int), .int (hi : Int)]) hq).trans (TK.lst (o := .lst (vs ++ [.ref q])) h2)
            refine ⟨vs ++ [.ref q], dn ++ [(lo, hi)], _, _, rfl, same_mut (sm.trans (same_new hq)) hfo, tk.trans tk2, ?_, upd_same, ?_, ?_, ?_⟩
            · rw [upd_ne npf, upd_ne (ne_of_none hpp hq)]; exact hpp
            · rw [List.map_append]
              exact dpAll_app (pairs_keep tk2 hdd) (dpAll_one (dp_pair (TK.lst h2 _ _ (.inl (.inl upd_same)))))
            · rw [← e]; exact hfold
            · rw [List.length_append]; exact Nat.succ_le_succ hlen
          refine ⟨z, _, rfl, hz, rfl, _, _, rfl, _, _, rfl, rfl, ?_⟩
          rcases List.eq_nil_or_concat dn with rfl | ⟨init, w, rfl⟩
          · cases hdd
            refine ⟨_, rfl, false, .inl ⟨_, SqL.of hv, rfl⟩, ?_⟩
            refine iteF ?_
            refine iteF ?_
            refine ⟨_, rfl, .inl ⟨rfl, _, SqL.of hv⟩, _, rfl, _, rfl, by show 2 ≤ sizeLine; decide, fun q hq => ⟨fo, [], _, rfl, rfl, by rw [upd_ne (ne_of_none hv hq)]; exact hv, lvs, ?_⟩⟩
            exact app rfl q hq
          · rw [List.concat_eq_append] at *
            rw [List.map_append] at hdd
            obtain ⟨us', v', rfl, hd1', hdv⟩ := dpAll_split hdd
            obtain ⟨z', rfl, hz'⟩ := of_pair hdv
            refine ⟨_, rfl, true, .inl ⟨_, SqL.of hv, by simp⟩, ?_⟩
            refine iteT ?_
            refine ⟨_, rfl, _, rfl, _, rfl, fo, _, _, _, rfl, rfl, SqL.of hv, at_last, z', _, _, _, rfl, rfl, hz', rfl, _, _, rfl, rfl, _, rfl, ?_⟩
            refine ite2 (fun e => ?_) (fun e => ?_)
            · have e' : lo ≤ w.2 := by
                have := of_decide_eq_true e
                omega
              refine ⟨_, rfl, _, rfl, fo, _, _, _, rfl, rfl, SqL.of hv, at_last, z', _, _, _, rfl, rfl, hz', rfl, ?_⟩
              refine ⟨_, rfl, _, rfl, fo, _, _, _, rfl, rfl, SqL.of hv, at_last, z', _, _, _, rfl, rfl, hz', rfl, _, rfl, _, _, rfl, by show 2 ≤ sizeLine; decide, fun q hq => ?_⟩
              have em : (if (hi : Int) > (w.2 : Int) then (hi : Int) else (w.2 : Int)) = ((max w.2 hi : Nat) : Int) := by
                by_cases z : (hi : Int) > (w.2 : Int)
                · rw [if_pos z]; omega
                · rw [if_neg z]; omega
              have h2 : upd H5 q (.tup [.int (w.1 : Int), .int (if (hi : Int) > (w.2 : Int) then (hi : Int) else (w.2 : Int))]) fo = some (.lst (us' ++ [.ref z'])) := by rw [upd_ne (ne_of_none hv hq)]; exact hv
              refine ⟨_, rfl, _, rfl, fo, _, _, _, rfl, rfl, h2, ix_last, ?_⟩
              rw [set_last]
              have tk2 := (TK.new (K := K) (o := .tup [.int (w.1 : Int), .int (if (hi : Int) > (w.2 : Int) then (hi : Int) else (w.2 : Int))]) hq).trans (TK.lst (o := .lst (us' ++ [.ref q])) h2)
              refine ⟨us' ++ [.ref q], init ++ [(w.1, max w.2 hi)], _, _, rfl, same_mut (sm.trans (same_new hq)) hfo, tk.trans tk2, ?_, upd_same, ?_, ?_, ?_⟩
              · rw [upd_ne npf, upd_ne (ne_of_none hpp hq)]; exact hpp
              · rw [List.map_append]
                refine dpAll_app (pairs_keep tk2 hd1') (dpAll_one (dp_pair (TK.lst h2 _ _ (.inl (.inl ?_)))))
                rw [upd_same, em]
              · have e2 : addSpan (init ++ [w]) (lo, hi) = init ++ [(w.1, max w.2 hi)] := by
                  unfold addSpan
                  simp [e']
                rw [← e2]; exact hfold
              · simp only [List.length_append, List.length_singleton] at hlen ⊢
                omega
            · have e' : ¬ lo ≤ w.2 := fun q => e (decide_eq_true (by omega))
              refine ⟨_, rfl, .inl ⟨rfl, _, SqL.of hv⟩, _, rfl, _, rfl, by show 2 ≤ sizeLine; decide, fun q hq => ⟨fo, _, _, rfl, rfl, by rw [upd_ne (ne_of_none hv hq)]; exact hv, lvs, ?_⟩⟩
              refine app ?_ q hq
              unfold addSpan
              simp [e']
        · rintro σ H5 ⟨vs, dn, x3, x4, rfl, sm, tk, hpp, hv, hdd, hfold, hlen⟩
          rw [lz, List.drop_length] at hfold
          rw [← (show dn = spansF f s from hfold)] at k
          exact ⟨_, rfl, k _ fo vs sm hfo hv hdd⟩
end
end VK
end

section
set_option Elab.async false
set_option linter.all false
set_option pp.maxSteps 1500
set_option maxRecDepth 100000
set_option maxHeartbeats 4000000
namespace VK
open PySem L2
abbrev s_do_touch : Stmt := topS 18
theorem sc_do_touch : FnScope ["one", "two", "first", "start", "gone", "_", "second", "other", "lost"] ["one", "two"] (defScope s_do_touch) := ⟨rfl, rfl, rfl, by decide +kernel, rfl, by decide +kernel, by decide +kernel⟩
def spTouch (K : PySem.W.Frag) : Sp := fun vs H Q _ => ∃ (a b : Addr) (f s : List Hunk), vs = [.ref a, .ref b] ∧ Dp K H (.ref a) (hunksD f) ∧ Dp K H (.ref b) (hunksD s) ∧ f.length ≤ 1000 ∧ s.length ≤ 1000 ∧
  ∀ (H' : Hp) (v : V), Same H H' → ((v = .non ∧ ∀ x ∈ f, ∀ y ∈ s, ¬ touchH x y) ∨ ∃ p, v = .ref p ∧ ∃ x ∈ f, ∃ y ∈ s, touchH x y) → Q v H'
section
variable {P : Program} {w : World} {K : PySem.W.Frag} {mg : Str → Option Value} {base : Heap}
theorem ok_touch {f : Addr} {fd : FuncData} (F : Fun K "do_touch" "do_touch" s_do_touch f fd) (T0 : Txt0 mg) : FnOk P w K mg base CX0 1 f fd ["one", "two"] (spTouch K) := by
  refine F.ok sc_do_touch (fun vs H Q E h => ?_) (fun cdv A outer s H vs Q E hr h => ?_)
  · obtain ⟨a, b, f, s, rfl, _⟩ := h
    rfl
  · obtain ⟨a, b, f, s, rfl, hA, hB, hf, hs, k⟩ := h
    refine ⟨_, (pss_cons (ps_for PassesOwn.never rfl (pi_enumT (by rfl) T0.z_enumerate (pa_cons (pv 0) pa_nil)) (pg_tup rfl (pgs_cons (pg_name (i := 2) sc_do_touch.nd rfl (Or.inl rfl)) (pgs_cons (pg_tup rfl (pgs_cons (pg_name (i := 3) sc_do_touch.nd rfl (Or.inl rfl)) (pgs_cons (pg_name (i := 4) sc_do_touch.nd rfl (Or.inl rfl)) (pgs_cons (pg_name (i := 5) sc_do_touch.nd rfl (Or.inl rfl)) pgs_nil)))) pgs_nil)))
        (pss_one (ps_for PassesOwn.never rfl (pi_enumT (by rfl) T0.z_enumerate (pa_cons (pv 1) pa_nil)) (pg_tup rfl (pgs_cons (pg_name (i := 6) sc_do_touch.nd rfl (Or.inl rfl)) (pgs_cons (pg_tup rfl (pgs_cons (pg_name (i := 7) sc_do_touch.nd rfl (Or.inl rfl)) (pgs_cons (pg_name (i := 8) sc_do_touch.nd rfl (Or.inl rfl)) (pgs_cons (pg_name (i := 5) sc_do_touch.nd rfl (Or.inl rfl)) pgs_nil)))) pgs_nil)))
          (pss_one (ps_if (PW.pt (pw_and (pt_cmpR op_le (pv 3) (pe_op op_add (pv 7) (pe_callB call_len_seq (by rfl) T0.z_len PySem.boot_len (pa_cons (pv 8) pa_nil))) (nomark _)) (pw_and1 (pt_cmpR op_le (pv 7) (pe_op op_add (pv 3) (pe_callB call_len_seq (by rfl) T0.z_len PySem.boot_len (pa_cons (pv 4) pa_nil))) (nomark _)))))
            (pss_one (ps_ret (pe_tup (pa_cons (pv 2) (pa_cons (pv 6) pa_nil)))))
            pss_nil)))))
      (pss_one (ps_ret pe_non))), ?_⟩
    obtain ⟨a', us, ea, ha, hda⟩ := of_tupD hA
    cases ea
    obtain ⟨b', vs, eb, hb, hdb⟩ := of_tupD hB
    cases eb
    have lu : us.length = f.length := by rw [dpAll_len hda, List.length_map]
    have lv : vs.length = s.length := by rw [dpAll_len hdb, List.length_map]
    refine ⟨_, rfl, a, us, rfl, ha, ?_⟩
    refine for_it (walk_enumT (xs := us)) (fun c σ H' => ∃ (x2 x3 x4 x5 x6 x7 x8 : Option V), σ = [some (.ref a), some (.ref b), x2, x3, x4, x5, x6, x7, x8] ∧ Same H H' ∧ ∀ x ∈ f.take c, ∀ y ∈ s, ¬ touchH x y) ?_ (fun c σ H' _ h => ?_) ?_ ?_
    · exact ⟨none, none, none, none, none, none, none, rfl, (fun _ _ e => e), fun _ h => nomatch h⟩
    · obtain ⟨x2, x3, x4, x5, x6, x7, x8, rfl, h1, h2⟩ := h
      exact h1.seqT ha
    · rintro c x σ H5 H6 hc ⟨x2, x3, x4, x5, x6, x7, x8, rfl, sm, hno⟩ ⟨T, x', rfl, hT, rfl, hx⟩
      have hcf : c < f.length := by rw [← lu]; exact hc
      obtain ⟨h, eh⟩ : ∃ h, h = f[c] := ⟨_, rfl⟩
      have hrt : f[c]? = some h := by rw [List.getElem?_eq_getElem hcf, eh]
      have sT : Same H5 (upd H5 T (.tup [.int (c : Nat), x'])) := same_new hT
      have sm6 := sm.trans sT
      obtain ⟨v, hv1, hv2⟩ := dpAll_at (hunks_keep (TK.same sm6) hda) (k := c) (d := hunkD h) (by rw [List.getElem?_map, hrt]; rfl)
      obtain rfl : v = x' := Option.some.inj (hv1.symm.trans hx)
      obtain ⟨z, g, m, rfl, hz, hg, hm⟩ := of_hunk hv2
      have etk : f.take (c + 1) = f.take c ++ [h] := by rw [List.take_succ, hrt]; rfl
      refine ⟨T, _, rfl, .inl (.inl upd_same), rfl, _, _, rfl, _, _, rfl, ⟨z, _, rfl, hz, rfl, _, _, rfl, _, _, rfl, _, _, rfl, rfl, ?_⟩⟩
      refine ⟨rfl, ?_⟩
      obtain ⟨H6, e6⟩ : ∃ H6, H6 = upd H5 T (.tup [.int (c : Nat), .ref z]) := ⟨_, rfl⟩
      rw [← e6] at sm6 hz hg hm ⊢
      refine ⟨_, rfl, b, vs, rfl, sm6.seqT hb, ?_⟩
      refine for_it (walk_enumT (xs := vs)) (fun j σ H' => ∃ (x5 x6 x7 x8 : Option V), σ = [some (.ref a), some (.ref b), some (.int (c : Int)), some (.int (h.start : Int)), some (.ref g), x5, x6, x7, x8] ∧ Same H6 H' ∧ ∀ y ∈ s.take j, ¬ touchH h y) ?_ (fun j σ H' _ h => ?_) ?_ ?_
      · exact ⟨_, _, _, _, rfl, (fun _ _ e => e), fun _ h => nomatch h⟩
      · obtain ⟨x5, x6, x7, x8, rfl, h1, h2⟩ := h
        exact (sm6.trans h1).seqT hb
      · rintro j x σ H7 H8 hj ⟨x5, x6, x7, x8, rfl, sm7, hno2⟩ ⟨T2, x', rfl, hT2, rfl, hx2⟩
        have hjf : j < s.length := by rw [← lv]; exact hj
        obtain ⟨h2, eh2⟩ : ∃ h2, h2 = s[j] := ⟨_, rfl⟩
        have hrt2 : s[j]? = some h2 := by rw [List.getElem?_eq_getElem hjf, eh2]
        have sT2 : Same H7 (upd H7 T2 (.tup [.int (j : Nat), x'])) := same_new hT2
        have sm8 := sm7.trans sT2
        obtain ⟨v, hv1, hv2⟩ := dpAll_at (hunks_keep (TK.same (sm6.trans sm8)) hdb) (k := j) (d := hunkD h2) (by rw [List.getElem?_map, hrt2]; rfl)
        obtain rfl : v = x' := Option.some.inj (hv1.symm.trans hx2)
        obtain ⟨z2, g2, m2, rfl, hz2, hg2, hm2⟩ := of_hunk hv2
        have etk2 : s.take (j + 1) = s.take j ++ [h2] := by rw [List.take_succ, hrt2]; rfl
        have hg8 := sm8.seqT hg
        refine ⟨T2, _, rfl, .inl (.inl upd_same), rfl, _, _, rfl, _, _, rfl, ⟨z2, _, rfl, hz2, rfl, _, _, rfl, _, _, rfl, _, _, rfl, rfl, rfl, ?_⟩⟩
        refine tAnd_pure (y := decide (h2.start ≤ h.start + h.gone.length)) (fun Q h' => ⟨_, rfl, _, rfl, _, rfl, g2, _, rfl, .inr hg2, _, _, rfl, rfl, _, _, rfl, rfl, _, rfl, h'⟩) (fun Q h' => ⟨_, rfl, _, rfl, _, rfl, g, _, rfl, .inr hg8, _, _, rfl, rfl, _, _, rfl, rfl, _, rfl, ?_⟩) ?_
        · have e : decide ((h2.start : Int) ≤ (h.start : Int) + (((h.gone.map V.str).length : Nat) : Int)) = decide (h2.start ≤ h.start + h.gone.length) := by
            rw [List.length_map]
            by_cases q : h2.start ≤ h.start + h.gone.length
            · rw [decide_eq_true q, decide_eq_true]; omega
            · rw [decide_eq_false q, decide_eq_false]; omega
          rw [e]; exact h'
        · refine ite2 (fun e => ?_) (fun e => ?_)
          · refine ⟨_, rfl, _, rfl, by show 2 ≤ sizeLine; decide, fun p hp => ?_⟩
            refine k _ _ ((sm6.trans sm8).trans (same_new hp)) (.inr ⟨p, rfl, h, List.mem_of_getElem? hrt, h2, List.mem_of_getElem? hrt2, ?_⟩)
            rw [Bool.and_eq_true, decide_eq_true_eq, decide_eq_true_eq, List.length_map] at e
            exact ⟨by have := e.1; omega, by have := e.2; omega⟩
          · refine ⟨_, _, _, _, rfl, sm8, fun y hy => ?_⟩
            rw [etk2] at hy
            rcases List.mem_append.mp hy with hy | hy
            · exact hno2 y hy
            · rw [List.mem_singleton.mp hy]
              intro q
              apply e
              rw [Bool.and_eq_true, decide_eq_true_eq, decide_eq_true_eq, List.length_map]
              have q1 := q.1
              have q2 := q.2
              omega
      · rintro σ H7 ⟨x5, x6, x7, x8, rfl, sm7, hno2⟩
        rw [lv, List.take_length] at hno2
        refine ⟨_, _, _, _, _, _, _, rfl, sm6.trans sm7, fun x hx => ?_⟩
        rw [etk] at hx
        rcases List.mem_append.mp hx with hx | hx
        · exact hno x hx
        · rw [List.mem_singleton.mp hx]; exact hno2
    · rintro σ H5 ⟨x2, x3, x4, x5, x6, x7, x8, rfl, sm, hno⟩
      rw [lu, List.take_length] at hno
      exact k _ _ sm (.inl ⟨rfl, hno⟩)
end
end VK
end

section
set_option Elab.async false
set_option linter.all false
set_option pp.maxSteps 1500
set_option maxRecDepth 100000
set_option maxHeartbeats 4000000
namespace VK
open PySem L2
abbrev s_both : Stmt := topS 20
theorem sc_both : FnScope ["one", "two"] ["one", "two"] (defScope s_both) := ⟨rfl, rfl, rfl, by decide +kernel, rfl, by decide +kernel, by decide +kernel⟩
theorem op_catA_any : True := trivial
def spBoth (K : PySem.W.Frag) : Sp := fun vs H Q _ => ∃ (a b : Addr) (f s : List Hunk), vs = [.ref a, .ref b] ∧ Dp K H (.ref a) (hunksD f) ∧ Dp K H (.ref b) (hunksD s) ∧ f.length ≤ 1000 ∧ s.length ≤ 1000 ∧ (∀ x ∈ f, ∀ y ∈ s, ¬ touchH x y) ∧ (f.Pairwise fun a b => a.start + a.gone.length < b.start) ∧ (s.Pairwise fun a b => a.start + a.gone.length < b.start) ∧
  ∀ (H' : Hp) (v : V) (bs : List Hunk), Same H H' → Dp K H' v (hunksD bs) → bs.Perm (f ++ s) → (bs.Pairwise fun a b => a.start ≤ b.start) → Q v H'
/-- a list of values that is the data of a list, put in another order -/
theorem dpAll_perm {K : PySem.W.Frag} {H : Hp} {α : Type} {d : α → PyData} {k : V → Int} {e : α → Int} {vs ws : List V} {xs : List α} (h : DpAll K H vs (xs.map d)) (hk : vs.map k = xs.map e) (p : ws.Perm vs) : ∃ ys : List α, ys.Perm xs ∧ DpAll K H ws (ys.map d) ∧ ws.map k = ys.map e := by
  induction p generalizing xs with
  | nil => exact ⟨xs, .refl _, h, hk⟩
  | @cons x l1 l2 p ih =>
    cases xs with
    | nil => cases h
    | cons y xs =>
      cases h with
      | cons h1 h2 =>
        injection hk with k1 k2
        obtain ⟨ys, q1, q2, q3⟩ := ih h2 k2
        exact ⟨y :: ys, q1.cons y, .cons h1 q2, by rw [List.map_cons, List.map_cons, k1, q3]⟩
  | swap x y l =>
    cases xs with
    | nil => cases h
    | cons a xs =>
      cases xs with
      | nil =>
        cases h with
        | cons _ h2 => cases h2
      | cons b xs =>
        cases h with
        | cons h1 h2 =>
          cases h2 with
          | cons h2 h3 =>
            injection hk with k1 k2
            injection k2 with k2 k3
            exact ⟨b :: a :: xs, .swap a b xs, .cons h2 (.cons h1 h3), by rw [List.map_cons, List.map_cons, List.map_cons, List.map_cons, k1, k2, k3]⟩
  | trans p1 p2 ih1 ih2 =>
    obtain ⟨ys, q1, q2, q3⟩ := ih2 h hk
    obtain ⟨zs, q4, q5, q6⟩ := ih1 q2 q3
    exact ⟨zs, q4.trans q1, q5, q6⟩
section
variable {P : Program} {w : World} {K : PySem.W.Frag} {mg : Str → Option Value} {base : Heap}
theorem ok_both {f fT : Addr} {fd fdT : FuncData} (F : Fun K "both" "both" s_both f fd) (T0 : Txt0 mg) (z_sorted : mg "sorted" = none) (D_do_touch : Df K mg "do_touch" s_do_touch ["one", "two"] fT fdT) : FnOk P w K mg base CX0 2 f fd ["one", "two"] (spBoth K) := by
  have G_do_touch : FnOk P w K mg base CX0 1 fT fdT ["one", "two"] (spTouch K) := ok_touch D_do_touch.F T0
  refine F.ok sc_both (fun vs H Q E h => ?_) (fun cdv A outer s H vs Q E hr h => ?_)
  · obtain ⟨a, b, f, s, rfl, _⟩ := h
    rfl
  · obtain ⟨a, b, f, s, rfl, hA, hB, hf, hs, nt, pf, ps, k⟩ := h
    refine ⟨_, (pss_cons (ps_if (pt_cmpR op_notN (pe_call G_do_touch (hr.mono (by decide)) rfl D_do_touch.m D_do_touch.F.kp D_do_touch.b .nil pass0 (pa_cons (pv 0) (pa_cons (pv 1) pa_nil))) pe_non (nomark _))
        (pss_one (ps_ret pe_non))
        pss_nil)
      (pss_one (ps_ret (pe_callTy call_tuple_of (by rfl) T0.z_tuple (by decide +kernel) (pa_cons (pe_callB cr_sortedH (by rfl) z_sorted (by decide +kernel) (pa_cons (pe_op op_catA (pv 0) (pv 1)) pa_nil)) pa_nil))))), ?_⟩
    refine ⟨_, rfl, _, rfl, a, b, f, s, rfl, hA, hB, hf, hs, fun H1 v s1 hv => ?_⟩
    rcases hv with ⟨rfl, _⟩ | ⟨p, rfl, x, hx, y, hy, q⟩
    · refine ⟨rfl, _, rfl, ?_⟩
      refine iteF ?_
      obtain ⟨a', us, ea, ha, hda⟩ := of_tupD hA
      cases ea
      obtain ⟨b', vs, eb, hb, hdb⟩ := of_tupD hB
      cases eb
      have lu : us.length = f.length := by rw [dpAll_len hda, List.length_map]
      have lv : vs.length = s.length := by rw [dpAll_len hdb, List.length_map]
      refine ⟨_, rfl, _, rfl, cat_tupK (s1.seqT ha) (s1.seqT hb) (Nat.le_trans (show us.length + vs.length ≤ 2000 by omega) (by decide)) fun H2 c s2 hc => ?_⟩
      have s02 := s1.trans s2
      have hd : DpAll K H2 (us ++ vs) ((f ++ s).map hunkD) := by
        rw [List.map_append]
        exact dpAll_app (hunks_keep (TK.same s02) hda) (hunks_keep (TK.same s02) hdb)
      have ln : (us ++ vs).length = (f ++ s).length := by rw [List.length_append, List.length_append, lu, lv]
      -- the starts, by the items
      have ne : (f ++ s).Pairwise fun a b => a.start ≠ b.start := by
        refine List.pairwise_append.mpr ⟨pf.imp fun {a b} h => by omega, ps.imp fun {a b} h => by omega, fun a ha b hb e => nt a ha b hb ⟨by omega, by omega⟩⟩
      have at_ : ∀ (i : Nat) (x : V), (us ++ vs)[i]? = some x → ∃ h t g m, (f ++ s)[i]? = some h ∧ x = .ref t ∧ SqT K H2 t [.int (h.start : Int), .ref g, .ref m] := fun i x hx => by
        have hi : i < (f ++ s).length := by rw [← ln]; exact (List.getElem?_eq_some_iff.mp hx).1
        have hf : (f ++ s)[i]? = some (f ++ s)[i] := List.getElem?_eq_getElem hi
        obtain ⟨v, hv1, hv2⟩ := dpAll_at hd (k := i) (d := hunkD (f ++ s)[i]) (by rw [List.getElem?_map, hf]; rfl)
        obtain rfl : v = x := Option.some.inj (hv1.symm.trans hx)
        obtain ⟨z, g, m, rfl, hz, _⟩ := of_hunk hv2
        exact ⟨_, z, g, m, hf, rfl, hz⟩
      refine ⟨c, us ++ vs, (f ++ s).map (fun h => (h.start : Int)), rfl, hc, by rw [ln, List.length_map], fun i x k' hx hk' => ?_, ?_, fun k' ys p hk' hs' hp' hpn => ?_⟩
      · obtain ⟨h, t, g, m, hf, rfl, hz⟩ := at_ i x hx
        rw [List.getElem?_map, hf] at hk'
        cases hk'
        exact ⟨t, g, m, rfl, hz⟩
      · rw [List.pairwise_map]
        exact ne.imp fun {a b} h e => h (Int.ofNat.inj e)
      · obtain ⟨bs, q1, q2, q3⟩ := dpAll_perm hd hk'.symm hp'
        have hd2 : DpAll K (upd H2 p (.lst ys)) ys (bs.map hunkD) := hunks_keep (TK.new hpn) q2
        refine ⟨p, _, rfl, .inl ⟨SqL.of upd_same, fun l hl => ?_⟩⟩
        refine k _ _ bs (s02.trans ((same_new hpn).trans (same_new hl))) (.tup (.inl (.inl upd_same)) (hunks_keep (TK.new hl) hd2)) q1 ?_
        have pw : (ys.map k').Pairwise (· ≤ ·) := by
          rw [List.pairwise_map]
          exact List.Pairwise.imp (fun {a b} h => by
            have := of_decide_eq_false h
            omega) hs'
        rw [q3, List.pairwise_map] at pw
        exact pw.imp fun {a b} h => by omega
    · exact absurd q (nt x hx y hy)
end
end VK
end

section
set_option Elab.async false
set_option linter.all false
set_option pp.maxSteps 1500
set_option maxRecDepth 100000
set_option maxHeartbeats 4000000
namespace VK
open PySem
/-! ### a row as blocks: what stays ahead, what goes, what comes -/
structure Blk where
  gap : List Str
  old : List Str
  new : List Str
def oldR (last : List Str) : List Blk → List Str
  | [] => last
  | b :: r => b.gap ++ b.old ++ oldR last r
def newR (last : List Str) : List Blk → List Str
  | [] => last
  | b :: r => b.gap ++ b.new ++ newR last r
def swapB (b : Blk) : Blk := ⟨b.gap, b.new, b.old⟩
theorem oldR_swap (last : List Str) : ∀ bs : List Blk, oldR last (bs.map swapB) = newR last bs
  | [] => rfl
  | b :: r => by rw [List.map_cons, oldR, newR, oldR_swap last r]; rfl
theorem newR_swap (last : List Str) : ∀ bs : List Blk, newR last (bs.map swapB) = oldR last bs
  | [] => rfl
  | b :: r => by rw [List.map_cons, oldR, newR, newR_swap last r]; rfl
theorem swap_swap (bs : List Blk) : (bs.map swapB).map swapB = bs := by
  rw [List.map_map]
  conv => rhs; rw [← List.map_id bs]
  rfl
/-- the changes of blocks, those that change nothing left out -/
def hunksJ : Nat → List Blk → List Hunk
  | _, [] => []
  | i, b :: r => (if b.old = b.new then [] else [⟨i + b.gap.length, b.old, b.new⟩]) ++ hunksJ (i + b.gap.length + b.old.length) r
/-- between two blocks is a line -/
def Gaps : List Blk → Prop
  | [] => True
  | b :: r => b.gap ≠ [] ∧ Gaps r
def Gaps1 : List Blk → Prop
  | [] => True
  | _ :: r => Gaps r
theorem Gaps.swap : ∀ {bs : List Blk}, Gaps bs → Gaps (bs.map swapB)
  | [], _ => trivial
  | _ :: _, ⟨a, b⟩ => ⟨a, b.swap⟩
theorem Gaps1.swap {bs : List Blk} (h : Gaps1 bs) : Gaps1 (bs.map swapB) := by
  cases bs with
  | nil => trivial
  | cons b r => exact Gaps.swap h
theorem Gaps.one {bs : List Blk} (h : Gaps bs) : Gaps1 bs := by
  cases bs with
  | nil => trivial
  | cons b r => exact h.2
/-- a patch that fits, and changes something everywhere -/
structure PtOk (L : List Str) (hs : List Hunk) : Prop where
  sep : Sep L.length 0 hs
  fit : ∀ h ∈ hs, FitL L h
  ne : ∀ h ∈ hs, h.gone ≠ h.come
/-! from a patch to blocks -/
def bsOf (L : List Str) : Nat → List Hunk → List Blk
  | _, [] => []
  | i, h :: r => ⟨cutL L i h.start, h.gone, h.come⟩ :: bsOf L (h.start + h.gone.length) r
def lastOf (L : List Str) : Nat → List Hunk → List Str
  | i, [] => L.drop i
  | _, h :: r => lastOf L (h.start + h.gone.length) r
theorem bs_old {L : List Str} : ∀ {hs : List Hunk} {i k : Nat}, i ≤ k → Sep L.length k hs → (∀ h ∈ hs, FitL L h) → oldR (lastOf L i hs) (bsOf L i hs) = L.drop i
  | [], i, k, _, _, _ => rfl
  | h :: r, i, k, hk, ⟨s1, s2, s3⟩, f => by
    have q := f h (List.mem_cons_self ..)
    rw [bsOf, lastOf, oldR, bs_old (Nat.le_succ _) s3 fun g hg => f g (List.mem_cons_of_mem _ hg)]
    show cutL L i h.start ++ h.gone ++ _ = _
    unfold FitL at q
    rw [← q, ← cutL_app L (by omega) (by omega)]
    rw [q]
    exact cutL_drop L (by omega)
theorem bs_new (L : List Str) : ∀ (hs : List Hunk) (i : Nat), newR (lastOf L i hs) (bsOf L i hs) = applyF L i hs
  | [], i => rfl
  | h :: r, i => by
    rw [bsOf, lastOf, newR, applyF, bs_new L r]
theorem bs_hunks {L : List Str} : ∀ {hs : List Hunk} {i k : Nat}, i ≤ k → Sep L.length k hs → (∀ h ∈ hs, h.gone ≠ h.come) → hunksJ i (bsOf L i hs) = hs
  | [], i, k, _, _, _ => rfl
  | h :: r, i, k, hk, ⟨s1, s2, s3⟩, n => by
    have e : (cutL L i h.start).length = h.start - i := cutL_length L (by omega)
    have e2 : i + (h.start - i) = h.start := by omega
    rw [bsOf, hunksJ]
    show (if h.gone = h.come then [] else [(⟨i + (cutL L i h.start).length, h.gone, h.come⟩ : Hunk)]) ++ hunksJ (i + (cutL L i h.start).length + h.gone.length) _ = _
    rw [if_neg (n h (List.mem_cons_self ..)), e, e2, bs_hunks (Nat.le_succ _) s3 fun g hg => n g (List.mem_cons_of_mem _ hg)]
    rfl
theorem bs_gaps {L : List Str} : ∀ {hs : List Hunk} {i : Nat}, i ≤ L.length → Sep L.length (i + 1) hs → Gaps (bsOf L i hs)
  | [], i, _, _ => trivial
  | h :: r, i, hi, ⟨s1, s2, s3⟩ => by
    refine ⟨fun e => ?_, bs_gaps s2 s3⟩
    have e2 : (cutL L i h.start).length = h.start - i := cutL_length L (by omega)
    have e3 : (cutL L i h.start).length = 0 := by
      show (Blk.gap ⟨cutL L i h.start, h.gone, h.come⟩).length = 0
      rw [e]; rfl
    omega
theorem bs_gaps1 {L : List Str} {hs : List Hunk} {i : Nat} (h : Sep L.length i hs) : Gaps1 (bsOf L i hs) := by
  cases hs with
  | nil => trivial
  | cons g r => exact bs_gaps h.2.1 h.2.2
/-- every patch that fits is one of blocks -/
theorem PtOk.blocks {L : List Str} {hs : List Hunk} (h : PtOk L hs) : ∃ bs last, L = oldR last bs ∧ applyF L 0 hs = newR last bs ∧ hs = hunksJ 0 bs ∧ Gaps1 bs ∧ ∀ b ∈ bs, b.old ≠ b.new := by
  refine ⟨bsOf L 0 hs, lastOf L 0 hs, (bs_old (Nat.le_refl 0) h.sep h.fit).symm, (bs_new L hs 0).symm, (bs_hunks (Nat.le_refl 0) h.sep h.ne).symm, bs_gaps1 h.sep, ?_⟩
  have ne : ∀ (hs : List Hunk) (i : Nat), (∀ h ∈ hs, h.gone ≠ h.come) → ∀ b ∈ bsOf L i hs, b.old ≠ b.new := by
    intro hs
    induction hs with
    | nil => intro i _ b hb; cases hb
    | cons g r ih =>
      intro i n b hb
      rcases List.mem_cons.mp hb with rfl | hb
      · exact n g (List.mem_cons_self ..)
      · exact ih _ (fun h hh => n h (List.mem_cons_of_mem _ hh)) b hb
  exact ne hs 0 h.ne
/-! from blocks to a patch -/
theorem hunksJ_sep : ∀ {bs : List Blk} {i n m : Nat}, m ≤ i → i + (oldR [] bs).length ≤ n → Gaps bs → Sep n (m + 1) (hunksJ i bs)
  | [], i, n, m, _, _, _ => trivial
  | b :: r, i, n, m, h1, h2, ⟨g1, g2⟩ => by
    have lg : 1 ≤ b.gap.length := List.length_pos_iff.mpr g1
    rw [oldR, List.length_append, List.length_append] at h2
    rw [hunksJ]
    split
    · rw [List.nil_append]
      exact hunksJ_sep (by omega) (by omega) g2
    · refine ⟨?_, ?_, ?_⟩
      · show m + 1 ≤ i + b.gap.length; omega
      · show i + b.gap.length + b.old.length ≤ n; omega
      · exact hunksJ_sep (Nat.le_refl _) (by omega) g2
theorem hunksJ_sep1 {bs : List Blk} {i n : Nat} (h2 : i + (oldR [] bs).length ≤ n) (g : Gaps1 bs) : Sep n i (hunksJ i bs) := by
  cases bs with
  | nil => trivial
  | cons b r =>
    rw [oldR, List.length_append, List.length_append] at h2
    rw [hunksJ]
    split
    · rw [List.nil_append]
      exact (hunksJ_sep (Nat.le_refl _) (by omega) g).le (by omega)
    · refine ⟨?_, ?_, hunksJ_sep (Nat.le_refl _) (by omega) g⟩
      · show i ≤ i + b.gap.length; omega
      · show i + b.gap.length + b.old.length ≤ n; omega
theorem hunksJ_ge : ∀ {bs : List Blk} {i : Nat}, ∀ h ∈ hunksJ i bs, i ≤ h.start
  | [], _, _, h => nomatch h
  | b :: r, i, h, hm => by
    rw [hunksJ] at hm
    rcases List.mem_append.mp hm with hm | hm
    · split at hm
      · cases hm
      · rw [List.mem_singleton.mp hm]
        exact Nat.le_add_right _ _
    · have := hunksJ_ge (bs := r) h hm
      omega
theorem hunksJ_ne : ∀ {bs : List Blk} {i : Nat}, ∀ h ∈ hunksJ i bs, h.gone ≠ h.come
  | [], _, _, h => nomatch h
  | b :: r, i, h, hm => by
    rw [hunksJ] at hm
    rcases List.mem_append.mp hm with hm | hm
    · split at hm
      · cases hm
      · next n =>
        rw [List.mem_singleton.mp hm]
        exact n
    · exact hunksJ_ne (bs := r) h hm
theorem apply_lag {L : List Str} {hs : List Hunk} {i k : Nat} (hk : i ≤ k) (h : ∀ g ∈ hs, k ≤ g.start) : applyF L i hs = cutL L i k ++ applyF L k hs := by
  cases hs with
  | nil => exact (cutL_drop L hk).symm
  | cons g r =>
    have q := h g (List.mem_cons_self ..)
    rw [applyF, applyF, cutL_app L hk q, List.append_assoc, List.append_assoc, List.append_assoc]
theorem cut_pre (pre a rest : List Str) : cutL (pre ++ a ++ rest) pre.length (pre.length + a.length) = a := by
  unfold cutL
  have e : pre.length + a.length - pre.length = a.length := by omega
  rw [List.append_assoc, List.drop_left, e, List.take_left]
theorem apply_blocks (last : List Str) : ∀ (bs : List Blk) (pre : List Str), applyF (pre ++ oldR last bs) pre.length (hunksJ pre.length bs) = newR last bs
  | [], pre => List.drop_left
  | b :: r, pre => by
    have ih := apply_blocks last r (pre ++ b.gap ++ b.old)
    have el : (pre ++ b.gap ++ b.old).length = pre.length + b.gap.length + b.old.length := by rw [List.length_append, List.length_append]
    have eL : pre ++ oldR last (b :: r) = pre ++ b.gap ++ b.old ++ oldR last r := by rw [oldR]; simp
    rw [el] at ih
    have c1 : cutL (pre ++ b.gap ++ b.old ++ oldR last r) pre.length (pre.length + b.gap.length) = b.gap := by
      rw [List.append_assoc (pre ++ b.gap)]
      exact cut_pre pre b.gap _
    have c2 : cutL (pre ++ b.gap ++ b.old ++ oldR last r) (pre.length + b.gap.length) (pre.length + b.gap.length + b.old.length) = b.old := by
      have q := cut_pre (pre ++ b.gap) b.old (oldR last r)
      rw [List.length_append] at q
      exact q
    rw [eL, hunksJ, newR]
    split
    · next e =>
      rw [List.nil_append, apply_lag (k := pre.length + b.gap.length + b.old.length) (by omega) (fun g hg => hunksJ_ge g hg), ih, cutL_app _ (show pre.length ≤ pre.length + b.gap.length by omega) (Nat.le_add_right _ _), c1, c2, e]
    · rw [List.singleton_append, applyF, ih]
      show cutL _ _ (pre.length + b.gap.length) ++ b.new ++ _ = _
      rw [c1]
theorem oldR_len (last : List Str) : ∀ bs : List Blk, (oldR last bs).length = (oldR [] bs).length + last.length
  | [] => by show last.length = 0 + last.length; omega
  | b :: r => by
    have q := oldR_len last r
    show (b.gap ++ b.old ++ oldR last r).length = (b.gap ++ b.old ++ oldR [] r).length + _
    simp only [List.length_append, q]
    omega
theorem hunksJ_fit (last : List Str) : ∀ (bs : List Blk) (pre : List Str), ∀ h ∈ hunksJ pre.length bs, FitL (pre ++ oldR last bs) h
  | [], pre, _, h => nomatch h
  | b :: r, pre, h, hm => by
    have eL : pre ++ oldR last (b :: r) = pre ++ b.gap ++ b.old ++ oldR last r := by rw [oldR]; simp
    have el : (pre ++ b.gap ++ b.old).length = pre.length + b.gap.length + b.old.length := by rw [List.length_append, List.length_append]
    rw [hunksJ] at hm
    rw [eL]
    rcases List.mem_append.mp hm with hm | hm
    · split at hm
      · cases hm
      · rw [List.mem_singleton.mp hm]
        have q := cut_pre (pre ++ b.gap) b.old (oldR last r)
        rw [List.length_append] at q
        exact q
    · rw [← el] at hm
      exact hunksJ_fit last r _ h hm
/-- the changes of blocks are a patch that fits, and lead to the new row -/
theorem ptOk_blocks {bs : List Blk} {last : List Str} (g : Gaps1 bs) : PtOk (oldR last bs) (hunksJ 0 bs) ∧ applyF (oldR last bs) 0 (hunksJ 0 bs) = newR last bs := by
  have q := apply_blocks last bs []
  refine ⟨⟨hunksJ_sep1 ?_ g, ?_, fun h hm => hunksJ_ne h hm⟩, ?_⟩
  · rw [oldR_len last]; omega
  · have := hunksJ_fit last bs []
    exact this
  · exact q
/-! turned back -/
def backF : Nat → Nat → List Hunk → List Hunk
  | _, _, [] => []
  | i, j, h :: r => ⟨j + (h.start - i), h.come, h.gone⟩ :: backF (h.start + h.gone.length) (j + (h.start - i) + h.come.length) r
theorem back_blocks : ∀ (bs : List Blk) (i j d : Nat), backF i j (hunksJ (i + d) bs) = hunksJ (j + d) (bs.map swapB)
  | [], i, j, d => rfl
  | b :: r, i, j, d => by
    rw [List.map_cons, hunksJ, hunksJ]
    show backF i j ((if b.old = b.new then [] else [_]) ++ _) = (if b.new = b.old then [] else [_]) ++ hunksJ (j + d + b.gap.length + b.new.length) _
    by_cases e : b.old = b.new
    · rw [if_pos e, if_pos e.symm, List.nil_append, List.nil_append, ← e]
      have q := back_blocks r i j (d + b.gap.length + b.old.length)
      rw [show i + d + b.gap.length + b.old.length = i + (d + b.gap.length + b.old.length) by omega, show j + d + b.gap.length + b.old.length = j + (d + b.gap.length + b.old.length) by omega]
      exact q
    · rw [if_neg e, if_neg (fun x => e x.symm), List.singleton_append, List.singleton_append, backF]
      have q := back_blocks r (i + d + b.gap.length + b.old.length) (j + d + b.gap.length + b.new.length) 0
      rw [Nat.add_zero, Nat.add_zero] at q
      show (⟨j + (i + d + b.gap.length - i), b.new, b.old⟩ : Hunk) :: backF (i + d + b.gap.length + b.old.length) (j + (i + d + b.gap.length - i) + b.new.length) _ = (⟨j + d + b.gap.length, b.new, b.old⟩ : Hunk) :: _
      rw [show j + (i + d + b.gap.length - i) = j + d + b.gap.length by omega, q]
theorem back_hunks (bs : List Blk) : backF 0 0 (hunksJ 0 bs) = hunksJ 0 (bs.map swapB) := back_blocks bs 0 0 0
/-- a patch turned back fits, and leads back -/
theorem PtOk.back {L : List Str} {hs : List Hunk} (h : PtOk L hs) : PtOk (applyF L 0 hs) (backF 0 0 hs) ∧ applyF (applyF L 0 hs) 0 (backF 0 0 hs) = L ∧ backF 0 0 (backF 0 0 hs) = hs := by
  obtain ⟨bs, last, e1, e2, e3, g, n⟩ := h.blocks
  have q := ptOk_blocks (last := last) g.swap
  rw [oldR_swap, newR_swap] at q
  rw [e2, e3, back_hunks, back_hunks, swap_swap]
  exact ⟨q.1, by rw [q.2, e1], rfl⟩
end VK
end

section
set_option Elab.async false
set_option linter.all false
set_option pp.maxSteps 1500
set_option maxRecDepth 100000
set_option maxHeartbeats 4000000
namespace VK
open PySem
/-! ### spans cover -/
theorem merge_cover : ∀ (r : List (Nat × Nat)) (cur : Nat × Nat), (∀ x ∈ r, cur.1 ≤ x.1) → r.Pairwise (fun a b => a.1 ≤ b.1) → ∀ q ∈ cur :: r, ∃ p ∈ mergeS cur r, p.1 ≤ q.1 ∧ q.2 ≤ p.2
  | [], cur, _, _, q, hq => by
    rw [List.mem_singleton.mp hq]
    exact ⟨cur, List.mem_singleton.mpr rfl, Nat.le_refl _, Nat.le_refl _⟩
  | p :: r, cur, h, w, q, hq => by
    obtain ⟨w1, w2⟩ := List.pairwise_cons.mp w
    have hp := h p (List.mem_cons_self ..)
    rw [mergeS]
    split
    · have ih := merge_cover r (cur.1, max cur.2 p.2) (fun x hx => h x (List.mem_cons_of_mem _ hx)) w2
      rcases List.mem_cons.mp hq with rfl | hq
      · obtain ⟨z, z1, z2, z3⟩ := ih _ (List.mem_cons_self ..)
        have z2 : z.1 ≤ q.1 := z2
        have z3 : max q.2 p.2 ≤ z.2 := z3
        exact ⟨z, z1, z2, by omega⟩
      · rcases List.mem_cons.mp hq with rfl | hq
        · obtain ⟨z, z1, z2, z3⟩ := ih _ (List.mem_cons_self ..)
          have z2 : z.1 ≤ cur.1 := z2
          have z3 : max cur.2 q.2 ≤ z.2 := z3
          exact ⟨z, z1, by omega, by omega⟩
        · exact ih q (List.mem_cons_of_mem _ hq)
    · rcases List.mem_cons.mp hq with rfl | hq
      · exact ⟨q, List.mem_cons_self .., Nat.le_refl _, Nat.le_refl _⟩
      · obtain ⟨z, z1, z2⟩ := merge_cover r p w1 w2 q hq
        exact ⟨z, List.mem_cons_of_mem _ z1, z2⟩
theorem merge_pt : ∀ (r : List (Nat × Nat)) (cur : Nat × Nat), (∀ x ∈ r, cur.1 ≤ x.1) → r.Pairwise (fun a b => a.1 ≤ b.1) → ∀ p ∈ mergeS cur r, ∀ k, p.1 ≤ k → k < p.2 → ∃ q ∈ cur :: r, q.1 ≤ k ∧ k < q.2 ∧ p.1 ≤ q.1 ∧ q.2 ≤ p.2
  | [], cur, _, _, p, hp, k, h1, h2 => by
    rw [List.mem_singleton.mp hp] at h1 h2 ⊢
    exact ⟨cur, List.mem_singleton.mpr rfl, h1, h2, Nat.le_refl _, Nat.le_refl _⟩
  | g :: r, cur, h, w, p, hp, k, h1, h2 => by
    obtain ⟨w1, w2⟩ := List.pairwise_cons.mp w
    have hg := h g (List.mem_cons_self ..)
    rw [mergeS] at hp
    split at hp
    · next hle =>
      obtain ⟨q, q1, q2, q3, q4, q5⟩ := merge_pt r (cur.1, max cur.2 g.2) (fun x hx => h x (List.mem_cons_of_mem _ hx)) w2 p hp k h1 h2
      rcases List.mem_cons.mp q1 with rfl | q1
      · have q2 : cur.1 ≤ k := q2
        have q3 : k < max cur.2 g.2 := q3
        have q4 : p.1 ≤ cur.1 := q4
        have q5 : max cur.2 g.2 ≤ p.2 := q5
        by_cases c : k < cur.2
        · exact ⟨cur, List.mem_cons_self .., q2, c, q4, by omega⟩
        · exact ⟨g, List.mem_cons_of_mem _ (List.mem_cons_self ..), by omega, by omega, by omega, by omega⟩
      · exact ⟨q, List.mem_cons_of_mem _ (List.mem_cons_of_mem _ q1), q2, q3, q4, q5⟩
    · rcases List.mem_cons.mp hp with rfl | hp
      · exact ⟨p, List.mem_cons_self .., h1, h2, Nat.le_refl _, Nat.le_refl _⟩
      · obtain ⟨q, q1, q2⟩ := merge_pt r g w1 w2 p hp k h1 h2
        exact ⟨q, List.mem_cons_of_mem _ q1, q2⟩
theorem leP_fst {a b : Nat × Nat} (h : leP a b = true) : a.1 ≤ b.1 := by
  simp [leP] at h
  omega
theorem sortP_fst (l : List (Nat × Nat)) : (sortP l).Pairwise fun a b => a.1 ≤ b.1 := (sortP_sorted l).imp fun h => leP_fst h
theorem spans_cover {f s : List Hunk} : ∀ h ∈ f ++ s, ∃ p ∈ spansF f s, p.1 ≤ h.start ∧ h.start + h.gone.length ≤ p.2 := by
  intro h hm
  have m : hspan h ∈ sortP ((f ++ s).map hspan) := (sortP_perm _).mem_iff.mpr (List.mem_map.mpr ⟨h, hm, rfl⟩)
  have w := sortP_fst ((f ++ s).map hspan)
  unfold spansF
  cases e : sortP ((f ++ s).map hspan) with
  | nil => rw [e] at m; cases m
  | cons p r =>
    rw [e] at m w
    obtain ⟨w1, w2⟩ := List.pairwise_cons.mp w
    rw [spansS_cons]
    exact merge_cover r p w1 w2 _ m
theorem spans_pt {f s : List Hunk} : ∀ p ∈ spansF f s, ∀ k, p.1 ≤ k → k < p.2 → ∃ h ∈ f ++ s, h.start ≤ k ∧ k < h.start + h.gone.length ∧ p.1 ≤ h.start ∧ h.start + h.gone.length ≤ p.2 := by
  intro p hp k h1 h2
  have w := sortP_fst ((f ++ s).map hspan)
  unfold spansF at hp
  cases e : sortP ((f ++ s).map hspan) with
  | nil => rw [e] at hp; cases hp
  | cons c r =>
    rw [e] at hp w
    obtain ⟨w1, w2⟩ := List.pairwise_cons.mp w
    rw [spansS_cons] at hp
    obtain ⟨q, q1, q2⟩ := merge_pt r c w1 w2 p hp k h1 h2
    rw [← e] at q1
    obtain ⟨h, hm, rfl⟩ := List.mem_map.mp ((sortP_perm _).mem_iff.mp q1)
    exact ⟨h, hm, q2⟩
theorem Asc.le {n : Nat} : ∀ {S : List (Nat × Nat)} {i j : Nat}, j ≤ i → Asc n i S → Asc n j S
  | [], _, _, _, _ => trivial
  | _ :: _, _, _, e, ⟨a, b⟩ => ⟨Nat.le_trans e a, b⟩
theorem Asc.ge {n : Nat} : ∀ {S : List (Nat × Nat)} {i : Nat}, Asc n i S → ∀ p ∈ S, i ≤ p.1 ∧ p.1 ≤ p.2 ∧ p.2 ≤ n
  | [], _, _, _, h => nomatch h
  | q :: r, i, ⟨a, b, c, d⟩, p, h => by
    rcases List.mem_cons.mp h with rfl | h
    · exact ⟨a, b, c⟩
    · obtain ⟨x, y⟩ := Asc.ge d p h
      exact ⟨by omega, y⟩
/-! ### a patch span by span -/
def apS (M : List Str) (f : List Hunk) : Nat → List (Nat × Nat) → List Str
  | here, [] => M.drop here
  | here, (lo, hi) :: r => cutL M here lo ++ sideF M f lo hi ++ apS M f hi r
theorem apS_congr (M : List Str) {f g : List Hunk} : ∀ (S : List (Nat × Nat)) (here : Nat), (∀ p ∈ S, withinF f p.1 p.2 = withinF g p.1 p.2) → apS M f here S = apS M g here S
  | [], _, _ => rfl
  | (lo, hi) :: r, here, h => by
    have q := h (lo, hi) (List.mem_cons_self ..)
    rw [apS, apS, apS_congr M r hi fun p hp => h p (List.mem_cons_of_mem _ hp)]
    unfold sideF
    rw [show withinF f lo hi = withinF g lo hi from q]
theorem cut_drop (M : List Str) {lo hi q : Nat} (h1 : lo ≤ q) (h2 : q ≤ hi) : (cutL M lo hi).drop (q - lo) = cutL M q hi := by
  unfold cutL
  rw [List.drop_take, List.drop_drop]
  congr 1
  · omega
  · congr 1; omega
theorem cut_cut (M : List Str) {lo hi q k : Nat} (h1 : lo ≤ q) (h2 : q ≤ k) (h3 : k ≤ hi) : cutL (cutL M lo hi) (q - lo) (k - lo) = cutL M q k := by
  have e := cut_drop M h1 (Nat.le_trans h2 h3)
  show ((cutL M lo hi).drop (q - lo)).take (k - lo - (q - lo)) = _
  rw [e]
  unfold cutL
  rw [List.take_take]
  congr 1
  omega
theorem rew_apply {M : List Str} {lo hi : Nat} (hn : hi ≤ M.length) : ∀ {hs : List Hunk} {q : Nat}, lo ≤ q → q ≤ hi → Sep M.length q hs → (∀ h ∈ hs, h.start + h.gone.length ≤ hi ∨ hi < h.start) →
    rewF (cutL M lo hi) lo (q - lo) (withinF hs lo hi) ++ applyF M hi (hs.filter fun h => decide (hi < h.start)) = applyF M q hs
  | [], q, h1, h2, _, _ => by
    show (cutL M lo hi).drop (q - lo) ++ M.drop hi = M.drop q
    rw [cut_drop M h1 h2]
    exact cutL_drop M h2
  | h :: r, q, h1, h2, ⟨s1, s2, s3⟩, hc => by
    rcases hc h (List.mem_cons_self ..) with c | c
    · have ih := rew_apply hn (hs := r) (q := h.start + h.gone.length) (Nat.le_trans h1 (Nat.le_trans s1 (Nat.le_add_right _ _))) c (s3.le (Nat.le_succ _)) fun g hg => hc g (List.mem_cons_of_mem _ hg)
      have e1 : withinF (h :: r) lo hi = h :: withinF r lo hi := by
        unfold withinF
        rw [List.filter_cons, if_pos (by rw [decide_eq_true (show lo ≤ h.start from Nat.le_trans h1 s1), decide_eq_true c]; rfl)]
      have e2 : (h :: r).filter (fun h => decide (hi < h.start)) = r.filter fun h => decide (hi < h.start) := by
        rw [List.filter_cons, if_neg (by simp; omega)]
      have e3 : h.start - lo + h.gone.length = h.start + h.gone.length - lo := by omega
      have e4 : cutL (cutL M lo hi) (q - lo) (h.start - lo) = cutL M q h.start := cut_cut M h1 s1 (by omega)
      rw [e1, e2, rewF, applyF, ← ih, e3, e4]
      simp only [List.append_assoc]
    · have hge : ∀ g ∈ h :: r, hi < g.start := fun g hg => by
        rcases List.mem_cons.mp hg with rfl | hg
        · exact c
        · have := (s3.ge g hg).1
          omega
      have e1 : withinF (h :: r) lo hi = [] := List.filter_eq_nil_iff.mpr fun g hg => by
        have := hge g hg
        simp
        omega
      have e2 : (h :: r).filter (fun h => decide (hi < h.start)) = h :: r := List.filter_eq_self.mpr fun g hg => decide_eq_true (hge g hg)
      rw [e1, e2, rewF, cut_drop M h1 h2]
      exact (apply_lag h2 fun g hg => Nat.le_of_lt (hge g hg)).symm
theorem apS_apply {M : List Str} : ∀ (S : List (Nat × Nat)) (here i : Nat) (f : List Hunk), here ≤ i → Asc M.length i S → Sep M.length 0 f → (∀ h ∈ f, ∃ p ∈ S, p.1 ≤ h.start ∧ h.start + h.gone.length ≤ p.2) → apS M f here S = applyF M here f
  | [], here, i, f, _, _, _, hf => by
    cases f with
    | nil => rfl
    | cons h r =>
      obtain ⟨p, hp, _⟩ := hf h (List.mem_cons_self ..)
      cases hp
  | (lo, hi) :: r, here, i, f, h1, ⟨a1, a2, a3, a4⟩, sp, hf => by
    have a1 : i ≤ lo := a1
    have a2 : lo ≤ hi := a2
    have a3 : hi ≤ M.length := a3
    have hr : ∀ p ∈ r, hi < p.1 := fun p hp => (a4.ge p hp).1
    have lo_le : ∀ h ∈ f, lo ≤ h.start := fun h hm => by
      obtain ⟨p, hp, q1, q2⟩ := hf h hm
      rcases List.mem_cons.mp hp with rfl | hp
      · exact q1
      · have := hr p hp
        omega
    have ih := apS_apply r hi (hi + 1) (f.filter fun h => decide (hi < h.start)) (Nat.le_succ _) a4 (Sep.of (sp.pw.filter _) (fun h hm => (sp.ge h (List.mem_filter.mp hm).1).2) 0 fun _ _ => Nat.zero_le _) fun h hm => by
      obtain ⟨m1, m2⟩ := List.mem_filter.mp hm
      obtain ⟨p, hp, q1, q2⟩ := hf h m1
      have m2 := of_decide_eq_true m2
      rcases List.mem_cons.mp hp with rfl | hp
      · have q2 : h.start + h.gone.length ≤ hi := q2
        omega
      · exact ⟨p, hp, q1, q2⟩
    have e : apS M f hi r = apS M (f.filter fun h => decide (hi < h.start)) hi r := apS_congr M r hi fun p hp => by
      have := hr p hp
      unfold withinF
      rw [List.filter_filter]
      refine List.filter_congr fun h _ => ?_
      by_cases c : p.1 ≤ h.start
      · rw [decide_eq_true (show hi < h.start by omega), Bool.and_true]
      · rw [decide_eq_false c]; rfl
    rw [apS, e, ih, List.append_assoc]
    have q := rew_apply (M := M) (lo := lo) a3 (hs := f) (q := lo) (Nat.le_refl _) a2 (Sep.of sp.pw (fun h hm => (sp.ge h hm).2) lo lo_le) fun h hm => by
      obtain ⟨p, hp, q1, q2⟩ := hf h hm
      rcases List.mem_cons.mp hp with rfl | hp
      · exact .inl q2
      · have := hr p hp
        exact .inr (by omega)
    rw [Nat.sub_self] at q
    show cutL M here lo ++ (rewF (cutL M lo hi) lo 0 (withinF f lo hi) ++ _) = _
    rw [q]
    exact (apply_lag (Nat.le_trans h1 a1) lo_le).symm
/-! ### what two patches of one row make of each other -/
def jbs (M : List Str) (f s : List Hunk) : Nat → List (Nat × Nat) → List Blk
  | _, [] => []
  | here, (lo, hi) :: r => ⟨cutL M here lo, sideF M f lo hi, sideF M s lo hi⟩ :: jbs M f s hi r
def jlast (M : List Str) : Nat → List (Nat × Nat) → List Str
  | here, [] => M.drop here
  | _, (_, hi) :: r => jlast M hi r
theorem jbs_old (M : List Str) (f s : List Hunk) : ∀ (S : List (Nat × Nat)) (here : Nat), oldR (jlast M here S) (jbs M f s here S) = apS M f here S
  | [], _ => rfl
  | (lo, hi) :: r, here => by rw [jbs, jlast, oldR, apS, jbs_old M f s r hi]
theorem jbs_swap (M : List Str) (f s : List Hunk) : ∀ (S : List (Nat × Nat)) (here : Nat), (jbs M f s here S).map swapB = jbs M s f here S
  | [], _ => rfl
  | (lo, hi) :: r, here => by rw [jbs, jbs, List.map_cons, jbs_swap M f s r hi]; rfl
theorem jbs_new (M : List Str) (f s : List Hunk) (S : List (Nat × Nat)) (here : Nat) : newR (jlast M here S) (jbs M f s here S) = apS M s here S := by
  rw [← oldR_swap, jbs_swap, jbs_old]
theorem jbs_gaps {M : List Str} {f s : List Hunk} : ∀ {S : List (Nat × Nat)} {here : Nat}, Asc M.length (here + 1) S → Gaps (jbs M f s here S)
  | [], _, _ => trivial
  | (lo, hi) :: r, here, ⟨a1, a2, a3, a4⟩ => by
    have a1 : here + 1 ≤ lo := a1
    have a2 : lo ≤ hi := a2
    have a3 : hi ≤ M.length := a3
    refine ⟨fun e => ?_, jbs_gaps a4⟩
    have e2 : (cutL M here lo).length = lo - here := cutL_length M (by omega)
    have e3 : (cutL M here lo).length = 0 := by
      show (Blk.gap ⟨cutL M here lo, sideF M f lo hi, sideF M s lo hi⟩).length = 0
      rw [e]; rfl
    omega
theorem jbs_gaps1 {M : List Str} {f s : List Hunk} {S : List (Nat × Nat)} {i here : Nat} (h : Asc M.length i S) : Gaps1 (jbs M f s here S) := by
  cases S with
  | nil => trivial
  | cons p r =>
    obtain ⟨lo, hi⟩ := p
    exact jbs_gaps h.2.2.2
def joinedF (M : List Str) (f s : List Hunk) : List Hunk := hunksJ 0 (jbs M f s 0 (spansF f s))
theorem joined_swap (M : List Str) (f s : List Hunk) : backF 0 0 (joinedF M f s) = joinedF M s f := by
  unfold joinedF
  rw [back_hunks, jbs_swap, spansF_swap]
section
variable {M : List Str} {f s : List Hunk}
theorem joined_ok (hf : PtOk M f) (hs : PtOk M s) : PtOk (applyF M 0 f) (joinedF M f s) ∧ applyF (applyF M 0 f) 0 (joinedF M f s) = applyF M 0 s := by
  have asc := spansF_asc (f := f) (s := s) (fun h hm => (hf.sep.ge h hm).2) fun h hm => (hs.sep.ge h hm).2
  have e1 : oldR (jlast M 0 (spansF f s)) (jbs M f s 0 (spansF f s)) = applyF M 0 f := by
    rw [jbs_old]
    exact apS_apply _ 0 0 f (Nat.le_refl _) asc hf.sep fun h hm => spans_cover h (List.mem_append_left _ hm)
  have e2 : newR (jlast M 0 (spansF f s)) (jbs M f s 0 (spansF f s)) = applyF M 0 s := by
    rw [jbs_new]
    exact apS_apply _ 0 0 s (Nat.le_refl _) asc hs.sep fun h hm => spans_cover h (List.mem_append_right _ hm)
  have q := ptOk_blocks (last := jlast M 0 (spansF f s)) (jbs_gaps1 (f := f) (s := s) (here := 0) asc)
  rw [e1, e2] at q
  exact q
theorem jbs_none (hs : PtOk M s) : ∀ (hs' : List Hunk) (here : Nat), (∀ h ∈ hs', h ∈ s) → jbs M [] s here (hs'.map hspan) = bsOf M here hs'
  | [], _, _ => rfl
  | h :: r, here, hm => by
    have m := hm h (List.mem_cons_self ..)
    rw [List.map_cons, bsOf]
    show jbs M [] s here ((h.start, h.start + h.gone.length) :: r.map hspan) = _
    rw [jbs, jbs_none hs r _ fun g hg => hm g (List.mem_cons_of_mem _ hg)]
    have e1 : sideF M s h.start (h.start + h.gone.length) = h.come := by
      unfold sideF
      rw [within_self hs.sep h m, side_one (hs.fit h m) (hs.sep.ge h m).2]
    have e2 : sideF M [] h.start (h.start + h.gone.length) = h.gone := hs.fit h m
    rw [e1, e2]
theorem joined_nil (hs : PtOk M s) : joinedF M [] s = s := by
  unfold joinedF
  rw [spansF_perm (bs := s) (.refl _) hs.sep.pw, jbs_none hs s 0 fun _ h => h]
  exact bs_hunks (Nat.le_refl 0) hs.sep hs.ne
theorem joined_back (hf : PtOk M f) : joinedF M f [] = backF 0 0 f := by
  rw [← joined_swap, joined_nil hf]
theorem jbs_self (M : List Str) (f : List Hunk) : ∀ (S : List (Nat × Nat)) (here i : Nat), hunksJ i (jbs M f f here S) = []
  | [], _, _ => rfl
  | (lo, hi) :: r, here, i => by
    rw [jbs, hunksJ, jbs_self M f r]
    rw [if_pos rfl]
    rfl
theorem joined_self (M : List Str) (f : List Hunk) : joinedF M f f = [] := jbs_self M f _ 0 0
end
end VK
end

section
set_option Elab.async false
set_option linter.all false
set_option pp.maxSteps 1500
set_option maxRecDepth 100000
set_option maxHeartbeats 4000000
namespace VK
open PySem
/-! ### where a place is behind a patch -/
def paF : Nat → Nat → List Hunk → Nat → Option Nat
  | i, j, [], p => some (j + (p - i))
  | i, j, h :: r, p => if p < h.start then some (j + (p - i)) else if p ≤ h.start + h.gone.length then none else paF (h.start + h.gone.length) (j + (h.start - i) + h.come.length) r p
theorem paF_ahead {i j p : Nat} {hs : List Hunk} (h : ∀ g ∈ hs, p < g.start) : paF i j hs p = some (j + (p - i)) := by
  cases hs with
  | nil => rfl
  | cons g r => rw [paF, if_pos (h g (List.mem_cons_self ..))]
/-- a patch behind another -/
def carryF (over : List Hunk) (hs : List Hunk) : List Hunk := hs.map fun h => ⟨(paF 0 0 over h.start).getD 0, h.gone, h.come⟩
def noTouch (f s : List Hunk) : Prop := ∀ a ∈ f, ∀ b ∈ s, ¬ touchH a b
theorem noTouch.symm {f s : List Hunk} (h : noTouch f s) : noTouch s f := fun a ha b hb q => h b hb a ha ⟨q.2, q.1⟩
/-! ### blocks of two sides -/
abbrev LB := Bool × Blk
/-- the blocks of side c; those of the other side are done (o) or not -/
def sel (c o : Bool) (x : LB) : Blk := if x.1 = c then x.2 else if o = true then ⟨x.2.gap, x.2.new, x.2.new⟩ else ⟨x.2.gap, x.2.old, x.2.old⟩
theorem sel_gap (c o : Bool) (x : LB) : (sel c o x).gap = x.2.gap := by
  unfold sel
  split
  · rfl
  · split <;> rfl
theorem gaps_sel (c o : Bool) : ∀ {W : List LB}, Gaps (W.map (·.2)) → Gaps (W.map (sel c o))
  | [], _ => trivial
  | x :: r, ⟨a, b⟩ => ⟨by rw [sel_gap]; exact a, gaps_sel c o b⟩
theorem gaps1_sel (c o : Bool) {W : List LB} (h : Gaps1 (W.map (·.2))) : Gaps1 (W.map (sel c o)) := by
  cases W with
  | nil => trivial
  | cons x r => exact gaps_sel c o h
/-- how far a side has come behind blocks -/
def posW (c o : Bool) : Nat → List LB → Nat
  | i, [] => i
  | i, x :: r => posW c o (i + (sel c o x).gap.length + (sel c o x).old.length) r
theorem posW_snoc (c o : Bool) : ∀ (pre : List LB) (i : Nat) (x : LB), posW c o i (pre ++ [x]) = posW c o i pre + (sel c o x).gap.length + (sel c o x).old.length
  | [], _, _ => rfl
  | y :: r, i, x => posW_snoc c o r _ x
theorem posW_le (c o : Bool) : ∀ (pre : List LB) (i : Nat), i ≤ posW c o i pre
  | [], _ => Nat.le_refl _
  | y :: r, i => Nat.le_trans (by omega) (posW_le c o r _)
theorem hunksJ_gt {bs : List Blk} {i : Nat} (g : Gaps bs) : ∀ h ∈ hunksJ i bs, i + 1 ≤ h.start := by
  cases bs with
  | nil => intro h hm; cases hm
  | cons b r =>
    intro h hm
    have lg : 1 ≤ b.gap.length := List.length_pos_iff.mpr g.1
    rw [hunksJ] at hm
    rcases List.mem_append.mp hm with hm | hm
    · split at hm
      · cases hm
      · rw [List.mem_singleton.mp hm]
        show i + 1 ≤ i + b.gap.length
        omega
    · have := hunksJ_ge h hm
      omega
/-- a place where the one side changes something, behind the other side -/
theorem pa_at (b : Blk) (post : List LB) (hg : Gaps (post.map (·.2))) : ∀ (pre : List LB) (i I J d : Nat), i = I + d → (pre ≠ [] → b.gap ≠ []) → Gaps1 (pre.map (·.2)) →
    paF I J (hunksJ i ((pre ++ (true, b) :: post).map (sel false false))) (posW true false i pre + b.gap.length) = some (posW true true (J + d) pre + b.gap.length)
  | [], i, I, J, d, hd, _, _ => by
    have e : hunksJ i (([] ++ (true, b) :: post).map (sel false false)) = hunksJ (i + b.gap.length + b.old.length) (post.map (sel false false)) := by
      rw [List.nil_append, List.map_cons, hunksJ]
      show (if b.old = b.old then [] else _) ++ _ = _
      rw [if_pos rfl]
      rfl
    rw [e, paF_ahead fun g hm => by
      have q := hunksJ_gt (gaps_sel false false hg) g hm
      show i + b.gap.length < g.start
      omega]
    show some (J + (i + b.gap.length - I)) = some (J + d + b.gap.length)
    congr 1
    omega
  | (true, x) :: r, i, I, J, d, hd, hb, g => by
    have q := pa_at b post hg r (i + x.gap.length + x.old.length) I J (d + x.gap.length + x.old.length) (by omega) (fun _ => hb (by simp)) (Gaps.one g)
    have e : hunksJ i (((true, x) :: r ++ (true, b) :: post).map (sel false false)) = hunksJ (i + x.gap.length + x.old.length) ((r ++ (true, b) :: post).map (sel false false)) := by
      rw [List.cons_append, List.map_cons, hunksJ]
      show (if x.old = x.old then [] else _) ++ _ = _
      rw [if_pos rfl]
      rfl
    rw [e]
    show paF I J _ (posW true false (i + x.gap.length + x.old.length) r + b.gap.length) = some (posW true true (J + d + x.gap.length + x.old.length) r + b.gap.length)
    rw [q]
    congr 3
    omega
  | (false, x) :: r, i, I, J, d, hd, hb, g => by
    have hb' := hb (by simp)
    have lb : 1 ≤ b.gap.length := List.length_pos_iff.mpr hb'
    have q := pa_at b post hg r (i + x.gap.length + x.old.length) (i + x.gap.length + x.old.length) (J + d + x.gap.length + x.new.length) 0 rfl (fun _ => hb') (Gaps.one g)
    show paF I J (hunksJ i (((false, x) :: r ++ (true, b) :: post).map (sel false false))) (posW true false (i + x.gap.length + x.old.length) r + b.gap.length) = some (posW true true (J + d + x.gap.length + x.new.length) r + b.gap.length)
    have pl := posW_le true false r (i + x.gap.length + x.old.length)
    rw [List.cons_append, List.map_cons, hunksJ]
    show paF I J ((if x.old = x.new then [] else [(⟨i + x.gap.length, x.old, x.new⟩ : Hunk)]) ++ hunksJ (i + x.gap.length + x.old.length) _) _ = _
    by_cases e : x.old = x.new
    · have q2 := pa_at b post hg r (i + x.gap.length + x.old.length) I J (d + x.gap.length + x.old.length) (by omega) (fun _ => hb') (Gaps.one g)
      rw [if_pos e, List.nil_append, q2, ← e]
      congr 3
      omega
    · rw [if_neg e, List.singleton_append, paF]
      show (if posW true false _ r + b.gap.length < i + x.gap.length then _ else if posW true false _ r + b.gap.length ≤ i + x.gap.length + x.old.length then none else paF (i + x.gap.length + x.old.length) (J + (i + x.gap.length - I) + x.new.length) _ _) = _
      rw [if_neg (by omega), if_neg (by omega), show J + (i + x.gap.length - I) + x.new.length = J + d + x.gap.length + x.new.length by omega, q]
      rfl
/-- the one side carried over the other -/
theorem carry_blocks (W : List LB) (g : Gaps1 (W.map (·.2))) : ∀ (post pre : List LB), W = pre ++ post → carryF (hunksJ 0 (W.map (sel false false))) (hunksJ (posW true false 0 pre) (post.map (sel true false))) = hunksJ (posW true true 0 pre) (post.map (sel true true))
  | [], _, _ => rfl
  | (l, b) :: r, pre, e => by
    have ih := carry_blocks W g r (pre ++ [(l, b)]) (by rw [e]; simp)
    rw [posW_snoc, posW_snoc] at ih
    rw [List.map_cons, List.map_cons, hunksJ, hunksJ]
    unfold carryF at ih ⊢
    rw [List.map_append, ih]
    congr 1
    cases l with
    | false =>
      show List.map _ (if b.old = b.old then [] else _) = if b.new = b.new then [] else _
      rw [if_pos rfl, if_pos rfl]
      rfl
    | true =>
      show List.map _ (if b.old = b.new then [] else [(⟨posW true false 0 pre + b.gap.length, b.old, b.new⟩ : Hunk)]) = if b.old = b.new then [] else [(⟨posW true true 0 pre + b.gap.length, b.old, b.new⟩ : Hunk)]
      by_cases n : b.old = b.new
      · rw [if_pos n, if_pos n]; rfl
      · rw [if_neg n, if_neg n, List.map_singleton]
        have hp : Gaps1 (pre.map (·.2)) ∧ Gaps (r.map (·.2)) ∧ (pre ≠ [] → b.gap ≠ []) := by
          have gg : ∀ (pre : List LB), Gaps ((pre ++ (true, b) :: r).map (·.2)) → Gaps (pre.map (·.2)) ∧ b.gap ≠ [] ∧ Gaps (r.map (·.2)) := by
            intro pre
            induction pre with
            | nil => exact fun h => ⟨trivial, h.1, h.2⟩
            | cons y t ih => exact fun h => ⟨⟨h.1, (ih h.2).1⟩, (ih h.2).2⟩
          rw [e] at g
          cases pre with
          | nil => exact ⟨trivial, g, fun h => absurd rfl h⟩
          | cons y t =>
            have q := gg t g
            exact ⟨q.1, q.2.2, fun _ => q.2.1⟩
        have q := pa_at b r hp.2.1 pre 0 0 0 0 rfl hp.2.2 hp.1
        have q2 : paF 0 0 (hunksJ 0 (W.map (sel false false))) (posW true false 0 pre + b.gap.length) = some (posW true true 0 pre + b.gap.length) := by rw [e]; exact q
        show [(⟨(paF 0 0 (hunksJ 0 (W.map (sel false false))) (posW true false 0 pre + b.gap.length)).getD 0, b.old, b.new⟩ : Hunk)] = _
        rw [q2]
        rfl
theorem carry_sel {W : List LB} (g : Gaps1 (W.map (·.2))) : carryF (hunksJ 0 (W.map (sel false false))) (hunksJ 0 (W.map (sel true false))) = hunksJ 0 (W.map (sel true true)) := carry_blocks W g W [] rfl
/-! the sides exchanged; the other side turned back -/
def flipL (x : LB) : LB := (!x.1, x.2)
theorem sel_flip (c o : Bool) (x : LB) : sel (!c) o (flipL x) = sel c o x := by
  obtain ⟨l, b⟩ := x
  unfold sel flipL
  cases l <;> cases c <;> rfl
theorem map_flip (c o : Bool) (W : List LB) : (W.map flipL).map (sel (!c) o) = W.map (sel c o) := by
  rw [List.map_map]
  exact List.map_congr_left fun x _ => sel_flip c o x
theorem flip_snd (W : List LB) : (W.map flipL).map (·.2) = W.map (·.2) := by
  rw [List.map_map]
  exact List.map_congr_left fun x _ => rfl
theorem carry_sel' {W : List LB} (g : Gaps1 (W.map (·.2))) : carryF (hunksJ 0 (W.map (sel true false))) (hunksJ 0 (W.map (sel false false))) = hunksJ 0 (W.map (sel false true)) := by
  have q := carry_sel (W := W.map flipL) (by rw [flip_snd]; exact g)
  have f1 : (W.map flipL).map (sel false false) = W.map (sel true false) := map_flip true false W
  have f2 : (W.map flipL).map (sel true false) = W.map (sel false false) := map_flip false false W
  have f3 : (W.map flipL).map (sel true true) = W.map (sel false true) := map_flip false true W
  rw [f1, f2, f3] at q
  exact q
def turnL (x : LB) : LB := if x.1 = true then x else (x.1, swapB x.2)
theorem turn_gaps : ∀ {W : List LB}, Gaps (W.map (·.2)) → Gaps ((W.map turnL).map (·.2))
  | [], _ => trivial
  | (l, b) :: r, ⟨h1, h2⟩ => ⟨by cases l <;> exact h1, turn_gaps h2⟩
theorem turn_gaps1 {W : List LB} (h : Gaps1 (W.map (·.2))) : Gaps1 ((W.map turnL).map (·.2)) := by
  cases W with
  | nil => trivial
  | cons x r => exact turn_gaps h
theorem turn_sel (W : List LB) : (W.map turnL).map (sel false false) = (W.map (sel false false)).map swapB ∧ (W.map turnL).map (sel true false) = W.map (sel true true) ∧ (W.map turnL).map (sel true true) = W.map (sel true false) := by
  rw [List.map_map, List.map_map, List.map_map, List.map_map]
  refine ⟨?_, ?_, ?_⟩ <;> exact List.map_congr_left fun x _ => by obtain ⟨l, b⟩ := x; cases l <;> rfl
/-! the sides do not touch -/
theorem sel_apart (o : Bool) : ∀ (W : List LB) (i : Nat), Gaps1 (W.map (·.2)) → o = false → noTouch (hunksJ i (W.map (sel true o))) (hunksJ i (W.map (sel false o)))
  | [], i, _, _ => fun _ h => nomatch h
  | (l, b) :: r, i, g, ho => by
    subst ho
    have g : Gaps (r.map (·.2)) := g
    have ih := sel_apart false r (i + b.gap.length + b.old.length) g.one rfl
    have e1 := hunksJ_gt (i := i + b.gap.length + b.old.length) (gaps_sel true false g)
    have e2 := hunksJ_gt (i := i + b.gap.length + b.old.length) (gaps_sel false false g)
    cases l with
    | true =>
      intro a ha c hc
      have hc : c ∈ hunksJ (i + b.gap.length + b.old.length) (r.map (sel false false)) := by
        rw [List.map_cons, hunksJ] at hc
        have hc : c ∈ (if b.old = b.old then [] else [(⟨i + b.gap.length, b.old, b.old⟩ : Hunk)]) ++ hunksJ (i + b.gap.length + b.old.length) (r.map (sel false false)) := hc
        rw [if_pos rfl] at hc
        exact hc
      rw [List.map_cons, hunksJ] at ha
      rcases List.mem_append.mp ha with ha | ha
      · have ha : a ∈ (if b.old = b.new then [] else [(⟨i + b.gap.length, b.old, b.new⟩ : Hunk)]) := ha
        split at ha
        · cases ha
        · rw [List.mem_singleton.mp ha]
          have q := e2 c hc
          intro t
          have t2 : c.start ≤ i + b.gap.length + b.old.length := t.2
          omega
      · exact ih a ha c hc
    | false =>
      intro a ha c hc
      have ha : a ∈ hunksJ (i + b.gap.length + b.old.length) (r.map (sel true false)) := by
        rw [List.map_cons, hunksJ] at ha
        have ha : a ∈ (if b.old = b.old then [] else [(⟨i + b.gap.length, b.old, b.old⟩ : Hunk)]) ++ hunksJ (i + b.gap.length + b.old.length) (r.map (sel true false)) := ha
        rw [if_pos rfl] at ha
        exact ha
      rw [List.map_cons, hunksJ] at hc
      rcases List.mem_append.mp hc with hc | hc
      · have hc : c ∈ (if b.old = b.new then [] else [(⟨i + b.gap.length, b.old, b.new⟩ : Hunk)]) := hc
        split at hc
        · cases hc
        · rw [List.mem_singleton.mp hc]
          have q := e1 a ha
          intro t
          have t1 : a.start ≤ i + b.gap.length + b.old.length := t.1
          omega
      · exact ih a ha c hc
end VK
end

section
set_option Elab.async false
set_option linter.all false
set_option pp.maxSteps 1500
set_option maxRecDepth 100000
set_option maxHeartbeats 4000000
namespace VK
open PySem
/-! ### two patches of one row that do not touch -/
def mrg : List Hunk → List Hunk → List (Bool × Hunk)
  | [], bs => bs.map fun b => (false, b)
  | a :: as, [] => (true, a) :: as.map fun a => (true, a)
  | a :: as, b :: bs => if a.start < b.start then (true, a) :: mrg as (b :: bs) else (false, b) :: mrg (a :: as) bs
termination_by a b => a.length + b.length
theorem map_lab (l : Bool) (bs : List Hunk) : (bs.map fun b => (l, b)).map (·.2) = bs := by
  rw [List.map_map]
  conv => rhs; rw [← List.map_id bs]
  rfl
theorem mrg_sep {n : Nat} : ∀ (T B : List Hunk) (k : Nat), Sep n k T → Sep n k B → noTouch T B → Sep n k ((mrg T B).map (·.2))
  | [], bs, k, _, h, _ => by rw [mrg, map_lab]; exact h
  | a :: as, [], k, h, _, _ => by
    rw [mrg, List.map_cons, map_lab]; exact h
  | a :: as, b :: bs, k, ⟨a1, a2, a3⟩, ⟨b1, b2, b3⟩, nt => by
    have q := nt a (List.mem_cons_self ..) b (List.mem_cons_self ..)
    rw [mrg]
    split
    · next c =>
      rw [List.map_cons]
      have z : a.start + a.gone.length + 1 ≤ b.start := by
        by_cases z : b.start ≤ a.start + a.gone.length
        · exact absurd ⟨by omega, z⟩ q
        · omega
      exact ⟨a1, a2, mrg_sep as (b :: bs) _ a3 ⟨z, b2, b3⟩ fun x hx y hy => nt x (List.mem_cons_of_mem _ hx) y hy⟩
    · next c =>
      rw [List.map_cons]
      have z : b.start + b.gone.length + 1 ≤ a.start := by
        by_cases z : a.start ≤ b.start + b.gone.length
        · exact absurd ⟨z, by omega⟩ q
        · omega
      exact ⟨b1, b2, mrg_sep (a :: as) bs _ ⟨z, a2, a3⟩ b3 fun x hx y hy => nt x hx y (List.mem_cons_of_mem _ hy)⟩
termination_by T B => T.length + B.length
theorem fil_lab (l c : Bool) (bs : List Hunk) : ((bs.map fun b => (l, b)).filter fun x => x.1 == c).map (·.2) = if l = c then bs else [] := by
  split
  · next e =>
    rw [List.filter_eq_self.mpr fun x hx => by obtain ⟨b, _, rfl⟩ := List.mem_map.mp hx; simp [e], map_lab]
  · next e =>
    rw [List.filter_eq_nil_iff.mpr fun x hx => by obtain ⟨b, _, rfl⟩ := List.mem_map.mp hx; simp [e]]
    rfl
theorem mrg_sel : ∀ (T B : List Hunk), ((mrg T B).filter fun x => x.1 == true).map (·.2) = T ∧ ((mrg T B).filter fun x => x.1 == false).map (·.2) = B
  | [], bs => by rw [mrg]; exact ⟨fil_lab false true bs, fil_lab false false bs⟩
  | a :: as, [] => by
    rw [mrg]
    have q1 := fil_lab true true as
    have q2 := fil_lab true false as
    refine ⟨?_, ?_⟩
    · rw [List.filter_cons_of_pos (by rfl), List.map_cons, q1]; rfl
    · rw [List.filter_cons_of_neg (by simp), q2]; rfl
  | a :: as, b :: bs => by
    rw [mrg]
    split
    · obtain ⟨q1, q2⟩ := mrg_sel as (b :: bs)
      refine ⟨?_, ?_⟩
      · rw [List.filter_cons_of_pos (by rfl), List.map_cons, q1]
      · rw [List.filter_cons_of_neg (by simp), q2]
    · obtain ⟨q1, q2⟩ := mrg_sel (a :: as) bs
      refine ⟨?_, ?_⟩
      · rw [List.filter_cons_of_neg (by simp), q1]
      · rw [List.filter_cons_of_pos (by rfl), List.map_cons, q2]
termination_by T B => T.length + B.length
theorem mrg_perm : ∀ (T B : List Hunk), ((mrg T B).map (·.2)).Perm (T ++ B)
  | [], bs => by rw [mrg, map_lab]; exact .refl _
  | a :: as, [] => by rw [mrg, List.map_cons, map_lab, List.append_nil]
  | a :: as, b :: bs => by
    rw [mrg]
    split
    · rw [List.map_cons, List.cons_append]
      exact (mrg_perm as (b :: bs)).cons a
    · rw [List.map_cons]
      exact ((mrg_perm (a :: as) bs).cons b).trans List.perm_middle.symm
termination_by T B => T.length + B.length
def lblk (M : List Str) : Nat → List (Bool × Hunk) → List LB
  | _, [] => []
  | i, x :: r => (x.1, ⟨cutL M i x.2.start, x.2.gone, x.2.come⟩) :: lblk M (x.2.start + x.2.gone.length) r
theorem lblk_snd (M : List Str) : ∀ (W : List (Bool × Hunk)) (i : Nat), (lblk M i W).map (·.2) = bsOf M i (W.map (·.2))
  | [], _ => rfl
  | x :: r, i => by rw [lblk, List.map_cons, List.map_cons, bsOf, lblk_snd M r]
theorem lblk_sel {M : List Str} (c : Bool) : ∀ (W : List (Bool × Hunk)) (i k : Nat), i ≤ k → Sep M.length k (W.map (·.2)) → (∀ x ∈ W, x.2.gone ≠ x.2.come) → hunksJ i ((lblk M i W).map (sel c false)) = (W.filter fun x => x.1 == c).map (·.2)
  | [], _, _, _, _, _ => rfl
  | (l, h) :: r, i, k, hk, ⟨s1, s2, s3⟩, n => by
    have s1 : k ≤ h.start := s1
    have s2 : h.start + h.gone.length ≤ M.length := s2
    have e : (cutL M i h.start).length = h.start - i := cutL_length M (by omega)
    have e2 : i + (h.start - i) = h.start := by omega
    have ih := lblk_sel c r (h.start + h.gone.length) (h.start + h.gone.length + 1) (Nat.le_succ _) s3 fun x hx => n x (List.mem_cons_of_mem _ hx)
    have hn : h.gone ≠ h.come := n (l, h) (List.mem_cons_self ..)
    rw [lblk, List.map_cons, hunksJ]
    by_cases el : l = c
    · subst el
      have es : sel l false (l, ⟨cutL M i h.start, h.gone, h.come⟩) = ⟨cutL M i h.start, h.gone, h.come⟩ := by unfold sel; rw [if_pos rfl]
      rw [List.filter_cons_of_pos (by simp), List.map_cons, es]
      show (if h.gone = h.come then [] else [(⟨i + (cutL M i h.start).length, h.gone, h.come⟩ : Hunk)]) ++ hunksJ (i + (cutL M i h.start).length + h.gone.length) _ = _
      rw [if_neg hn, e, e2, ih]
      rfl
    · have es : sel c false (l, ⟨cutL M i h.start, h.gone, h.come⟩) = ⟨cutL M i h.start, h.gone, h.gone⟩ := by
        unfold sel
        rw [if_neg (show ¬ (l = c) from el), if_neg (by decide)]
      rw [List.filter_cons_of_neg (by simp [el]), es]
      show (if h.gone = h.gone then [] else _) ++ hunksJ (i + (cutL M i h.start).length + h.gone.length) _ = _
      rw [if_pos rfl, e, e2, ih]
      rfl
theorem rows_old (last : List Str) (c : Bool) : ∀ W : List LB, oldR last (W.map (sel c false)) = oldR last (W.map (·.2))
  | [] => rfl
  | (l, b) :: r => by
    rw [List.map_cons, List.map_cons, oldR, oldR, rows_old last c r]
    cases l <;> cases c <;> rfl
theorem rows_mid (last : List Str) (c : Bool) : ∀ W : List LB, newR last (W.map (sel c false)) = oldR last (W.map (sel (!c) true))
  | [] => rfl
  | (l, b) :: r => by
    rw [List.map_cons, List.map_cons, newR, oldR, rows_mid last c r]
    cases l <;> cases c <;> rfl
theorem rows_new (last : List Str) (c : Bool) : ∀ W : List LB, newR last (W.map (sel c true)) = newR last (W.map (·.2))
  | [] => rfl
  | (l, b) :: r => by
    rw [List.map_cons, List.map_cons, newR, newR, rows_new last c r]
    cases l <;> cases c <;> rfl
theorem sep_uniq : ∀ {a b : List Hunk}, a.Perm b → (a.Pairwise fun x y => x.start + x.gone.length < y.start) → (b.Pairwise fun x y => x.start + x.gone.length < y.start) → a = b
  | [], b, p, _, _ => (List.nil_perm.mp p).symm ▸ rfl
  | x :: r, [], p, _, _ => absurd p.length_eq (by simp)
  | x :: r, y :: t, p, h1, h2 => by
    obtain ⟨a1, a2⟩ := List.pairwise_cons.mp h1
    obtain ⟨b1, b2⟩ := List.pairwise_cons.mp h2
    have e : x = y := by
      rcases List.mem_cons.mp (p.mem_iff.mp (List.mem_cons_self (a := x) (l := r))) with e | m1
      · exact e
      · rcases List.mem_cons.mp (p.mem_iff.mpr (List.mem_cons_self (a := y) (l := t))) with e | m2
        · exact e.symm
        · have q1 := b1 x m1
          have q2 := a1 y m2
          omega
    subst e
    rw [sep_uniq p.cons_inv a2 b2]
theorem paF_some {p : Nat} : ∀ {hs : List Hunk} {i j : Nat}, (∀ g ∈ hs, ¬ (g.start ≤ p ∧ p ≤ g.start + g.gone.length)) → ∃ q, paF i j hs p = some q
  | [], i, j, _ => ⟨_, rfl⟩
  | g :: r, i, j, h => by
    have q := h g (List.mem_cons_self ..)
    rw [paF]
    split
    · exact ⟨_, rfl⟩
    · rw [if_neg (fun z => q ⟨by omega, z⟩)]
      exact paF_some fun x hx => h x (List.mem_cons_of_mem _ hx)
/-- what is told of T over B -/
theorem two_one {M T B : List Hunk} {L : List Str} (hT : PtOk L T) (hB : PtOk L B) (nt : noTouch T B) :
    ∃ U bs, bs.Perm (T ++ B) ∧ PtOk L bs ∧ applyF L 0 bs = U ∧ PtOk (applyF L 0 B) (carryF B T) ∧ applyF (applyF L 0 B) 0 (carryF B T) = U ∧ noTouch (carryF B T) (backF 0 0 B) ∧ carryF (backF 0 0 B) (carryF B T) = T ∧
      (∀ h ∈ T, ∃ p, paF 0 0 B h.start = some p) := by
  have sp := mrg_sep T B 0 hT.sep hB.sep nt
  have pm := mrg_perm T B
  obtain ⟨e1, e2⟩ := mrg_sel T B
  have mem : ∀ x ∈ mrg T B, x.2 ∈ T ++ B := fun x hx => pm.mem_iff.mp (List.mem_map.mpr ⟨x, hx, rfl⟩)
  have ne : ∀ x ∈ mrg T B, x.2.gone ≠ x.2.come := fun x hx => by
    rcases List.mem_append.mp (mem x hx) with h | h
    · exact hT.ne _ h
    · exact hB.ne _ h
  have fit : ∀ h ∈ (mrg T B).map (·.2), FitL L h := fun h hm => by
    rcases List.mem_append.mp (pm.mem_iff.mp hm) with h' | h'
    · exact hT.fit _ h'
    · exact hB.fit _ h'
  obtain ⟨W, eW⟩ : ∃ W, W = lblk L 0 (mrg T B) := ⟨_, rfl⟩
  obtain ⟨last, el⟩ : ∃ last, last = lastOf L 0 ((mrg T B).map (·.2)) := ⟨_, rfl⟩
  have eT : hunksJ 0 (W.map (sel true false)) = T := by rw [eW, lblk_sel true _ 0 0 (Nat.le_refl _) sp ne, e1]
  have eB : hunksJ 0 (W.map (sel false false)) = B := by rw [eW, lblk_sel false _ 0 0 (Nat.le_refl _) sp ne, e2]
  have es : W.map (·.2) = bsOf L 0 ((mrg T B).map (·.2)) := by rw [eW, lblk_snd]
  have g : Gaps1 (W.map (·.2)) := by rw [es]; exact bs_gaps1 sp
  have eL : oldR last (W.map (·.2)) = L := by rw [es, el]; exact bs_old (Nat.le_refl 0) sp fit
  have ea : hunksJ 0 (W.map (·.2)) = (mrg T B).map (·.2) := by
    rw [es]
    exact bs_hunks (Nat.le_refl 0) sp fun h hm => by
      obtain ⟨x, hx, rfl⟩ := List.mem_map.mp hm
      exact ne x hx
  have eN : oldR last (W.map (sel true true)) = applyF L 0 B := by
    have q := (ptOk_blocks (last := last) (gaps1_sel false false g)).2
    rw [rows_old, rows_mid, eL, eB] at q
    exact q.symm
  have qw := ptOk_blocks (last := last) g
  have qx := ptOk_blocks (last := last) (gaps1_sel true true g)
  have ec : carryF B T = hunksJ 0 (W.map (sel true true)) := by rw [← eT, ← eB]; exact carry_sel g
  obtain ⟨t1, t2, t3⟩ := turn_sel W
  have eb : backF 0 0 B = hunksJ 0 ((W.map turnL).map (sel false false)) := by rw [t1, ← back_hunks, eB]
  refine ⟨newR last (W.map (·.2)), hunksJ 0 (W.map (·.2)), by rw [ea]; exact pm, ?_, ?_, ?_, ?_, ?_, ?_, ?_⟩
  · rw [← eL]; exact qw.1
  · rw [← eL]
    have q := qw.2
    rw [eL] at q ⊢
    exact q
  · rw [ec, ← eN]; exact qx.1
  · rw [ec, ← eN, qx.2, rows_new]
  · rw [ec, eb, ← t2]
    exact sel_apart false (W.map turnL) 0 (turn_gaps1 g) rfl
  · rw [ec, eb, ← t2, carry_sel (turn_gaps1 g), t3, eT]
  · exact fun h hm => paF_some fun g hg q => nt h hm g hg ⟨q.2, Nat.le_trans q.1 (Nat.le_add_right _ _)⟩
end VK
end

section
set_option Elab.async false
set_option linter.all false
set_option pp.maxSteps 1500
set_option maxRecDepth 100000
set_option maxHeartbeats 4000000
namespace VK
open PySem
/-- how many more lines go than come -/
def sumD (hs : List Hunk) : Int := (hs.map fun h => (h.gone.length : Int) - (h.come.length : Int)).sum
theorem sumD_cons (h : Hunk) (r : List Hunk) : sumD (h :: r) = ((h.gone.length : Int) - (h.come.length : Int)) + sumD r := by
  unfold sumD
  rw [List.map_cons, List.sum_cons]
theorem apply_len {L : List Str} : ∀ {hs : List Hunk} {i k : Nat}, i ≤ k → i ≤ L.length → Sep L.length k hs → ((applyF L i hs).length : Int) = (L.length : Int) - (i : Int) - sumD hs
  | [], i, k, _, h, _ => by
    show ((L.drop i).length : Int) = (L.length : Int) - (i : Int) - 0
    rw [List.length_drop]
    omega
  | h :: r, i, k, hk, hi, ⟨s1, s2, s3⟩ => by
    have ih := apply_len (hs := r) (i := h.start + h.gone.length) (Nat.le_succ _) s2 s3
    have e : (cutL L i h.start).length = h.start - i := cutL_length L (by omega)
    rw [applyF, List.length_append, List.length_append, e, sumD_cons]
    omega
theorem Sep.filter' {n : Nat} {B : List Hunk} {k : Nat} (sp : Sep n k B) (p : Hunk → Bool) (lo : Nat) (h : ∀ x ∈ B, p x = true → lo ≤ x.start) : Sep n lo (B.filter p) :=
  Sep.of (sp.pw.filter _) (fun x hx => (sp.ge x (List.mem_filter.mp hx).1).2) lo fun x hx => h x (List.mem_filter.mp hx).1 (List.mem_filter.mp hx).2
theorem within_mem {B : List Hunk} {lo hi : Nat} {h : Hunk} (hm : h ∈ withinF B lo hi) : h ∈ B ∧ lo ≤ h.start ∧ h.start + h.gone.length ≤ hi := by
  obtain ⟨h1, h2⟩ := List.mem_filter.mp hm
  rw [Bool.and_eq_true, decide_eq_true_eq, decide_eq_true_eq] at h2
  exact ⟨h1, h2⟩
theorem side_apply {M : List Str} {B : List Hunk} {lo hi : Nat} (sp : Sep M.length 0 B) (h1 : lo ≤ hi) (h2 : hi ≤ M.length) : sideF M B lo hi ++ M.drop hi = applyF M lo (withinF B lo hi) ∧ Sep M.length lo (withinF B lo hi) := by
  have sw : Sep M.length lo (withinF B lo hi) := sp.filter' _ lo fun x hx q => by
    rw [Bool.and_eq_true, decide_eq_true_eq, decide_eq_true_eq] at q
    exact q.1
  have q := rew_apply (M := M) (lo := lo) (hi := hi) h2 (hs := withinF B lo hi) (q := lo) (Nat.le_refl _) h1 sw fun h hm => .inl (within_mem hm).2.2
  have e1 : withinF (withinF B lo hi) lo hi = withinF B lo hi := List.filter_eq_self.mpr fun h hm => by
    have := within_mem hm
    rw [Bool.and_eq_true, decide_eq_true_eq, decide_eq_true_eq]
    exact this.2
  have e2 : (withinF B lo hi).filter (fun h => decide (hi < h.start)) = [] := List.filter_eq_nil_iff.mpr fun h hm => by
    have := (within_mem hm).2.2
    rw [decide_eq_true_eq]
    omega
  rw [e1, e2, Nat.sub_self] at q
  exact ⟨q, sw⟩
theorem side_len' {M : List Str} {B : List Hunk} {lo hi : Nat} (sp : Sep M.length 0 B) (h1 : lo ≤ hi) (h2 : hi ≤ M.length) : ((sideF M B lo hi).length : Int) = (hi : Int) - (lo : Int) - sumD (withinF B lo hi) := by
  obtain ⟨q, sw⟩ := side_apply sp h1 h2
  have l1 := apply_len (i := lo) (Nat.le_refl _) (Nat.le_trans h1 h2) sw
  have l2 := congrArg List.length q
  rw [List.length_append, List.length_drop] at l2
  omega
def mvF (B : List Hunk) (lo : Nat) : Int := sumD (B.filter fun h => decide (h.start < lo))
theorem sumD_split (p q r : Hunk → Bool) : ∀ B : List Hunk, (∀ h ∈ B, p h = (q h || r h)) → (∀ h ∈ B, ¬ (q h = true ∧ r h = true)) → sumD (B.filter p) = sumD (B.filter q) + sumD (B.filter r)
  | [], _, _ => rfl
  | h :: t, e, d => by
    have ih := sumD_split p q r t (fun x hx => e x (List.mem_cons_of_mem _ hx)) fun x hx => d x (List.mem_cons_of_mem _ hx)
    have e1 := e h (List.mem_cons_self ..)
    have d1 := d h (List.mem_cons_self ..)
    cases hq : q h with
    | true =>
      cases hr : r h with
      | true => exact absurd ⟨hq, hr⟩ d1
      | false =>
        rw [hq, hr] at e1
        rw [List.filter_cons_of_pos e1, List.filter_cons_of_pos hq, List.filter_cons_of_neg (by rw [hr]; decide), sumD_cons, sumD_cons, ih]
        omega
    | false =>
      cases hr : r h with
      | true =>
        rw [hq, hr] at e1
        rw [List.filter_cons_of_pos e1, List.filter_cons_of_neg (by rw [hq]; decide), List.filter_cons_of_pos hr, sumD_cons, sumD_cons, ih]
        omega
      | false =>
        rw [hq, hr] at e1
        rw [List.filter_cons_of_neg (by rw [e1]; decide), List.filter_cons_of_neg (by rw [hq]; decide), List.filter_cons_of_neg (by rw [hr]; decide), ih]
/-- joined, span by span -/
def jnF (M : List Str) (B s : List Hunk) : List (Nat × Nat) → List Hunk
  | [] => []
  | (lo, hi) :: r => (if sideF M B lo hi = sideF M s lo hi then [] else [⟨((lo : Int) - mvF B lo).toNat, sideF M B lo hi, sideF M s lo hi⟩]) ++ jnF M B s r
theorem jbs_jn {M : List Str} {B s : List Hunk} (sp : Sep M.length 0 B) : ∀ (S : List (Nat × Nat)) (here i k : Nat), Asc M.length k S → here ≤ k → (∀ h ∈ B, h.start < k ∨ ∃ p ∈ S, p.1 ≤ h.start ∧ h.start + h.gone.length ≤ p.2) → (here : Int) - (i : Int) = mvF B k →
    hunksJ i (jbs M B s here S) = jnF M B s S ∧ ∀ p ∈ S, 0 ≤ (p.1 : Int) - mvF B p.1
  | [], _, _, _, _, _, _, _ => ⟨rfl, fun _ h => nomatch h⟩
  | (lo, hi) :: r, here, i, k, ⟨a1, a2, a3, a4⟩, hk, hc, he => by
    have a1 : k ≤ lo := a1
    have a2 : lo ≤ hi := a2
    have a3 : hi ≤ M.length := a3
    have a4 : Asc M.length (hi + 1) r := a4
    have e1 : mvF B lo = mvF B k := by
      unfold mvF
      congr 1
      refine List.filter_congr fun h hm => ?_
      rcases hc h hm with q | ⟨p, hp, q1, q2⟩
      · rw [decide_eq_true q, decide_eq_true (show h.start < lo by omega)]
      · have : lo ≤ p.1 := by
          rcases List.mem_cons.mp hp with rfl | hp
          · exact Nat.le_refl _
          · have := (a4.ge p hp).1
            omega
        rw [decide_eq_false (show ¬ h.start < lo by omega), decide_eq_false (show ¬ h.start < k by omega)]
    have e2 : mvF B (hi + 1) = mvF B lo + sumD (withinF B lo hi) := by
      unfold mvF withinF
      refine sumD_split _ _ _ B (fun h hm => ?_) fun h hm q => ?_
      · by_cases c : h.start < lo
        · rw [decide_eq_true c, decide_eq_true (show h.start < hi + 1 by omega)]; rfl
        · rw [decide_eq_false c, Bool.false_or]
          by_cases c2 : h.start < hi + 1
          · rw [decide_eq_true c2]
            rcases hc h hm with q | ⟨p, hp, q1, q2⟩
            · omega
            · rcases List.mem_cons.mp hp with rfl | hp
              · rw [decide_eq_true (show lo ≤ h.start from q1), decide_eq_true (show h.start + h.gone.length ≤ hi from q2)]; rfl
              · have := (a4.ge p hp).1
                omega
          · rw [decide_eq_false c2, decide_eq_false (show ¬ h.start + h.gone.length ≤ hi by omega), Bool.and_false]
      · rw [Bool.and_eq_true, decide_eq_true_eq, decide_eq_true_eq, decide_eq_true_eq] at q
        omega
    have e3 := side_len' (M := M) (B := B) sp a2 a3
    have e4 : (cutL M here lo).length = lo - here := cutL_length M (by omega)
    have pos : (lo : Int) - mvF B lo = ((i + (lo - here) : Nat) : Int) := by
      rw [e1, ← he]
      omega
    obtain ⟨ih1, ih2⟩ := jbs_jn (s := s) sp r hi (i + (lo - here) + (sideF M B lo hi).length) (hi + 1) a4 (Nat.le_succ _) (fun h hm => by
      rcases hc h hm with q | ⟨p, hp, q1, q2⟩
      · exact .inl (by omega)
      · rcases List.mem_cons.mp hp with rfl | hp
        · have q2 : h.start + h.gone.length ≤ hi := q2
          exact .inl (by omega)
        · exact .inr ⟨p, hp, q1, q2⟩) (by rw [e2]; omega)
    refine ⟨?_, fun p hp => ?_⟩
    · rw [jbs, hunksJ, jnF]
      show (if sideF M B lo hi = sideF M s lo hi then [] else [(⟨i + (cutL M here lo).length, sideF M B lo hi, sideF M s lo hi⟩ : Hunk)]) ++ hunksJ (i + (cutL M here lo).length + (sideF M B lo hi).length) _ = _
      rw [e4, ih1, pos, Int.toNat_natCast]
    · rcases List.mem_cons.mp hp with rfl | hp
      · show 0 ≤ (lo : Int) - mvF B lo
        rw [pos]
        omega
      · exact ih2 p hp
theorem joined_jn {M : List Str} {B s : List Hunk} (sp : Sep M.length 0 B) (ss : Sep M.length 0 s) : joinedF M B s = jnF M B s (spansF B s) ∧ ∀ p ∈ spansF B s, 0 ≤ (p.1 : Int) - mvF B p.1 := by
  have asc := spansF_asc (f := B) (s := s) (fun h hm => (sp.ge h hm).2) fun h hm => (ss.ge h hm).2
  have e0 : mvF B 0 = 0 := by
    unfold mvF
    rw [List.filter_eq_nil_iff.mpr fun h _ => by simp]
    rfl
  exact jbs_jn sp _ 0 0 0 asc (Nat.le_refl _) (fun h hm => .inr (spans_cover h (List.mem_append_left _ hm))) (by rw [e0]; rfl)
/-- the changes ahead of a place come first -/
theorem take_filter {B : List Hunk} (pw : B.Pairwise fun a b => a.start + a.gone.length < b.start) {t lo : Nat} (h1 : ∀ h ∈ B.take t, h.start < lo) (h2 : ∀ h, B[t]? = some h → lo ≤ h.start) : B.filter (fun h => decide (h.start < lo)) = B.take t := by
  conv => lhs; rw [← List.take_append_drop t B]
  rw [List.filter_append, List.filter_eq_self.mpr fun h hm => decide_eq_true (h1 h hm)]
  have e : (B.drop t).filter (fun h => decide (h.start < lo)) = [] := by
    refine List.filter_eq_nil_iff.mpr fun h hm => ?_
    rw [decide_eq_true_eq]
    cases hd : B.drop t with
    | nil => rw [hd] at hm; cases hm
    | cons g r =>
      have hg : B[t]? = some g := by
        have q := congrArg (·[0]?) hd
        simp only [List.getElem?_drop, Nat.add_zero, List.getElem?_cons_zero] at q
        exact q
      have q1 := h2 g hg
      rw [hd] at hm
      have pw2 : (g :: r).Pairwise fun a b => a.start + a.gone.length < b.start := by rw [← hd]; exact pw.sublist (List.drop_sublist t B)
      rcases List.mem_cons.mp hm with rfl | hm
      · omega
      · have := (List.pairwise_cons.mp pw2).1 h hm
        omega
  rw [e, List.append_nil]
theorem back_get : ∀ (hs : List Hunk) (i j k : Nat) (g : Hunk), (backF i j hs)[k]? = some g → ∃ h, hs[k]? = some h ∧ g.gone = h.come ∧ g.come = h.gone
  | [], _, _, _, _, h => by cases h
  | h :: r, i, j, 0, g, e => by
    have e := Option.some.inj e
    subst e
    exact ⟨h, rfl, rfl, rfl⟩
  | h :: r, i, j, k + 1, g, e => back_get r _ _ k g e
theorem sumD_take {B : List Hunk} {t : Nat} {h : Hunk} (e : B[t]? = some h) : sumD (B.take (t + 1)) = sumD (B.take t) + ((h.gone.length : Int) - (h.come.length : Int)) := by
  rw [List.take_succ, e]
  unfold sumD
  rw [List.map_append, List.sum_append]
  simp
end VK
end

section
set_option Elab.async false
set_option linter.all false
set_option pp.maxSteps 1500
set_option maxRecDepth 100000
set_option maxHeartbeats 4000000
namespace VK
open PySem L2
abbrev s_turned_back : Stmt := topS 14
theorem sc_turned_back : FnScope ["patch", "found", "moved", "start", "gone", "come"] ["patch"] (defScope s_turned_back) := ⟨rfl, rfl, rfl, by decide +kernel, rfl, by decide +kernel, by decide +kernel⟩
def spBack (K : PySem.W.Frag) : Sp := fun vs H Q _ => ∃ (a : Addr) (hs : List Hunk) (n : Nat), vs = [.ref a] ∧ Dp K H (.ref a) (hunksD hs) ∧ hs.length ≤ 1000 ∧ Sep n 0 hs ∧
  ∀ (H' : Hp) (v : V), Same H H' → Dp K H' v (hunksD (backF 0 0 hs)) → Q v H'
section
variable {P : Program} {w : World} {K : PySem.W.Frag} {mg : Str → Option Value} {base : Heap}
theorem ok_back {f : Addr} {fd : FuncData} (F : Fun K "turned_back" "turned_back" s_turned_back f fd) (T0 : Txt0 mg) : FnOk P w K mg base CX0 1 f fd ["patch"] (spBack K) := by
  refine F.ok sc_turned_back (fun vs H Q E h => ?_) (fun cdv A outer s H vs Q E hr h => ?_)
  · obtain ⟨a, hs, n, rfl, _⟩ := h
    rfl
  · obtain ⟨a, hs, n, rfl, hA, hl, sp, k⟩ := h
    refine ⟨_, (pss_cons (ps_par (i := 1) (j := 2) (by rfl) sc_turned_back.nd rfl rfl (by decide) rfl rfl (pa_cons (pe_lst pa_nil) (pa_cons pe_int pa_nil)) (by rfl))
      (pss_cons (ps_for PassesOwn.never rfl (pi_tup (pv 0)) (pg_tup rfl (pgs_cons (pg_name (i := 3) sc_turned_back.nd rfl (Or.inl rfl)) (pgs_cons (pg_name (i := 4) sc_turned_back.nd rfl (Or.inl rfl)) (pgs_cons (pg_name (i := 5) sc_turned_back.nd rfl (Or.inl rfl)) pgs_nil))))
        (pss_cons (ps_expr (pe_bm PySem.F.plainAttrs_list PySem.F.slot_list_append PySem.F.type_list_append mt_append (pv 1) (pa_cons (pe_tup (pa_cons (pe_op op_add (pv 3) (pv 2)) (pa_cons (pv 5) (pa_cons (pv 4) pa_nil)))) pa_nil)))
        (pss_one (ps_aug (i := 2) sc_turned_back.nd rfl (Or.inl rfl) (pe_op op_sub (pe_callB call_len_seq (by rfl) T0.z_len PySem.boot_len (pa_cons (pv 5) pa_nil)) (pe_callB call_len_seq (by rfl) T0.z_len PySem.boot_len (pa_cons (pv 4) pa_nil))) ip_add))))
      (pss_one (ps_ret (pe_callTy call_tuple_of (by rfl) T0.z_tuple (by decide +kernel) (pa_cons (pv 1) pa_nil)))))), ?_⟩
    obtain ⟨a', ws, ea, ha, hd⟩ := of_tupD hA
    cases ea
    have lw : ws.length = hs.length := by rw [dpAll_len hd, List.length_map]
    refine ⟨by show 0 ≤ sizeLine; decide, fun fo hfo => ⟨_, _, rfl, ?_⟩⟩
    have s0 : Same H (upd H fo (.lst [])) := same_new hfo
    have hfo0 : (upd H fo (.lst [])) fo = some (.lst []) := upd_same
    refine ⟨_, rfl, a, rfl, ⟨_, s0.seqT ha⟩, ?_⟩
    refine for_it (walk_tup (xs := ws)) (fun c σ H' => ∃ (i j kk : Nat) (vs : List V) (dn : List Hunk) (x3 x4 x5 : Option V), σ = [some (.ref a), some (.ref fo), some (.int ((j : Int) - (i : Int))), x3, x4, x5] ∧ Same H H' ∧ H' fo = some (.lst vs) ∧ DpAll K H' vs (dn.map hunkD) ∧ dn ++ backF i j (hs.drop c) = backF 0 0 hs ∧ Sep n kk (hs.drop c) ∧ i ≤ kk ∧ dn.length ≤ c) ?_ (fun c σ H' _ h => ?_) ?_ ?_
    · exact ⟨0, 0, 0, [], [], none, none, none, rfl, s0, hfo0, .nil, rfl, sp, Nat.le_refl _, Nat.le_refl _⟩
    · obtain ⟨i, j, kk, vs, dn, x3, x4, x5, rfl, h1, _⟩ := h
      exact h1.seqT ha
    · rintro c x σ H5o H5 hc ⟨i, j, kk, vs, dn, x3, x4, x5, rfl, sm, hv, hdd, hp, sk, ik, dl⟩ ⟨rfl, hx⟩
      have hcf : c < hs.length := by rw [← lw]; exact hc
      obtain ⟨h, ht⟩ : ∃ h, h = hs[c] := ⟨_, rfl⟩
      have hf : hs[c]? = some h := by rw [List.getElem?_eq_getElem hcf, ht]
      obtain ⟨v, hv1, hv2⟩ := dpAll_at (hunks_keep (TK.same sm) hd) (k := c) (d := hunkD h) (by rw [List.getElem?_map, hf]; rfl)
      obtain rfl : v = x := Option.some.inj (hv1.symm.trans hx)
      obtain ⟨z, g, m, rfl, hz, hg, hm⟩ := of_hunk hv2
      have ed : hs.drop c = h :: hs.drop (c + 1) := by rw [List.drop_eq_getElem_cons hcf, ← ht]
      rw [ed, backF] at hp
      rw [ed] at sk
      obtain ⟨sk1, sk2, sk3⟩ := sk
      refine ⟨z, _, rfl, hz, rfl, _, _, rfl, _, _, rfl, _, _, rfl, rfl, ?_⟩
      have es : (h.start : Int) + ((j : Int) - (i : Int)) = ((j + (h.start - i) : Nat) : Int) := by omega
      have lvs : vs.length < sizeLine := by
        rw [dpAll_len hdd, List.length_map]
        exact Nat.lt_of_le_of_lt (show dn.length ≤ 1000 by omega) (by decide)
      refine ⟨_, rfl, .inl ⟨rfl, _, SqL.of hv⟩, _, rfl, _, rfl, _, _, rfl, rfl, _, rfl, _, rfl, by show 3 ≤ sizeLine; decide, fun q hq => ?_⟩
      have eo : ([.int ((j + (h.start - i) : Nat) : Int), .ref m, .ref g] : List V) = [.int ((h.start : Int) + ((j : Int) - (i : Int))), .ref m, .ref g] := by rw [es]
      have h2 : upd H5 q (.tup [.int ((h.start : Int) + ((j : Int) - (i : Int))), .ref m, .ref g]) fo = some (.lst vs) := by rw [upd_ne (ne_of_none hv hq)]; exact hv
      refine ⟨fo, vs, _, rfl, rfl, h2, lvs, ?_⟩
      have tk := (TK.new (K := K) (o := .tup [.int ((h.start : Int) + ((j : Int) - (i : Int))), .ref m, .ref g]) hq).trans (TK.lst (o := .lst (vs ++ [.ref q])) h2)
      refine ⟨_, rfl, _, rfl, m, _, rfl, .inr (tk _ _ hm), _, rfl, g, _, rfl, .inr (tk _ _ hg), _, _, rfl, rfl, ?_⟩
      refine ⟨_, _, rfl, rfl, ?_⟩
      refine ⟨h.start + h.gone.length, j + (h.start - i) + h.come.length, _, vs ++ [.ref q], dn ++ [⟨j + (h.start - i), h.come, h.gone⟩], some (.int (h.start : Int)), some (.ref g), some (.ref m), ?_, same_mut (sm.trans (same_new hq)) hfo, upd_same, ?_, ?_, sk3, Nat.le_succ _, ?_⟩
      · show [_, _, some (V.int ((j : Int) - (i : Int) + (((h.come.map V.str).length : Int) - ((h.gone.map V.str).length : Int)))), _, _, _] = _
        rw [List.length_map, List.length_map]
        have e : (j : Int) - (i : Int) + ((h.come.length : Int) - (h.gone.length : Int)) = ((j + (h.start - i) + h.come.length : Nat) : Int) - ((h.start + h.gone.length : Nat) : Int) := by omega
        rw [e]
      · rw [List.map_append]
        exact dpAll_app (hunks_keep tk hdd) (dpAll_one (dp_hunk (h := ⟨j + (h.start - i), h.come, h.gone⟩) (b := m) (c := g) (by show SqT K _ _ [.int ((j + (h.start - i) : Nat) : Int), .ref m, .ref g]; rw [eo]; exact TK.lst h2 _ _ (.inl (.inl upd_same))) (tk _ _ hm) (tk _ _ hg)))
      · rw [← hp]; simp
      · rw [List.length_append]; exact Nat.succ_le_succ dl
    · rintro σ H5 ⟨i, j, kk, vs, dn, x3, x4, x5, rfl, sm, hv, hdd, hp, sk, ik, dl⟩
      rw [lw, List.drop_length, backF, List.append_nil] at hp
      subst hp
      refine ⟨_, rfl, fo, _, rfl, .inl ⟨SqL.of hv, fun l hl' => ?_⟩⟩
      exact k _ _ (sm.trans (same_new hl')) (.tup (.inl (.inl upd_same)) (hunks_keep (TK.new hl') hdd))
end
end VK
end

section
set_option Elab.async false
set_option linter.all false
set_option pp.maxSteps 1500
set_option maxRecDepth 100000
set_option maxHeartbeats 4000000
namespace VK
open PySem L2
abbrev s_growth : Stmt := topS 15
theorem sc_growth : FnScope ["patch", "_", "gone", "come"] ["patch"] (defScope s_growth) := ⟨rfl, rfl, rfl, by decide +kernel, rfl, by decide +kernel, by decide +kernel⟩
def growF (hs : List Hunk) : Int := (hs.map fun h => (h.come.length : Int) - (h.gone.length : Int)).sum
def spGrow (K : PySem.W.Frag) : Sp := fun vs H Q _ => ∃ (a : Addr) (hs : List Hunk), vs = [.ref a] ∧ Dp K H (.ref a) (hunksD hs) ∧ hs.length ≤ 1000 ∧ ∀ H' : Hp, Same H H' → Q (.int (growF hs)) H'
section
variable {P : Program} {w : World} {K : PySem.W.Frag} {mg : Str → Option Value} {base : Heap}
theorem ok_growth {f : Addr} {fd : FuncData} (F : Fun K "growth" "growth" s_growth f fd) (T0 : Txt0 mg) (z_sum : mg "sum" = none) : FnOk P w K mg base CX0 1 f fd ["patch"] (spGrow K) := by
  refine F.ok sc_growth (fun vs H Q E h => ?_) (fun cdv A outer s H vs Q E hr h => ?_)
  · obtain ⟨a, hs, rfl, _⟩ := h
    rfl
  · obtain ⟨a, hs, rfl, hA, hl, k⟩ := h
    refine ⟨_, (pss_one (ps_ret (pe_callB (cr_sum rfl) (by rfl) z_sum (by decide +kernel) (pa_cons (pe_lc (own := [("_", 1), ("gone", 2), ("come", 3)]) (g := _) (tt := tYes) rfl sc_growth.nd (pi_tup (pv 0)) (blkOk_by (own := [("_", 1), ("gone", 2), ("come", 3)]) (N := ["patch", "_", "gone", "come"]) (sc := defScope s_growth) (by decide +kernel)) (fun _ _ _ _ _ => (pg_tupQ (K := K) (n := 3) rfl rfl (pgs_cons (pg_name (i := 1) sc_growth.nd rfl (Or.inl rfl)) (pgs_cons (pg_name (i := 2) sc_growth.nd rfl (Or.inl rfl)) (pgs_cons (pg_name (i := 3) sc_growth.nd rfl (Or.inl rfl)) pgs_nil))))) (fun _ _ _ _ _ => pts_nil) (fun _ _ _ _ _ => (pe_op op_sub (pe_callB (call_lenQ (K := K) rfl) (by rfl) T0.z_len PySem.boot_len (pa_cons (pv 3) pa_nil)) (pe_callB (call_lenQ (K := K) rfl) (by rfl) T0.z_len PySem.boot_len (pa_cons (pv 2) pa_nil))))) pa_nil)))), ?_⟩
    obtain ⟨a', ws, ea, ha, hd⟩ := of_tupD hA
    cases ea
    have lw : ws.length = hs.length := by rw [dpAll_len hd, List.length_map]
    refine ⟨_, rfl, a, rfl, ⟨_, ha⟩, fun D hD => ?_⟩
    refine lc_tup (xs := ws) (fun t H' => H' D = some (.lst (((hs.take t).map fun h => (h.come.length : Int) - (h.gone.length : Int)).map V.int)) ∧ Same H H') ⟨upd_same, same_new hD⟩ (fun t H' _ h => h.2.seqT ha) ?_ ?_
    · rintro t x H3 hx ⟨hys, s3⟩
      have ht : t < hs.length := by rw [← lw]; exact (List.getElem?_eq_some_iff.mp hx).1
      have hrt : hs[t]? = some hs[t] := List.getElem?_eq_getElem ht
      obtain ⟨v, hv1, hv2⟩ := dpAll_at (hunks_keep (TK.same s3) hd) (k := t) (d := hunkD hs[t]) (by rw [List.getElem?_map, hrt]; rfl)
      obtain rfl : v = x := Option.some.inj (hv1.symm.trans hx)
      obtain ⟨z, g, m, rfl, hz, hg, hm⟩ := of_hunk hv2
      have etk : hs.take (t + 1) = hs.take t ++ [hs[t]] := by rw [List.take_succ, hrt]; rfl
      refine ⟨z, _, rfl, hz, rfl, _, _, rfl, _, _, rfl, _, _, rfl, rfl, rfl, ?_⟩
      refine ⟨_, rfl, m, _, rfl, .inr hm, _, rfl, g, _, rfl, .inr hg, _, _, rfl, rfl, _, hys, ?_, ?_, same_mut s3 hD⟩
      · rw [List.length_map, List.length_map, List.length_take]
        exact Nat.lt_of_le_of_lt (show min t hs.length ≤ 1000 by omega) (by decide)
      · rw [upd_same, etk, List.map_append, List.map_append, List.length_map, List.length_map]
        rfl
    · rintro H3 ⟨hys, s3⟩
      rw [lw, List.take_length] at hys
      exact ⟨D, _, rfl, SqL.of hys, k _ s3⟩
end
abbrev s_count_changed : Stmt := topS 28
theorem sc_count_changed : FnScope ["patch", "_", "gone", "come"] ["patch"] (defScope s_count_changed) := ⟨rfl, rfl, rfl, by decide +kernel, rfl, by decide +kernel, by decide +kernel⟩
def spCount (K : PySem.W.Frag) : Sp := fun vs H Q _ => ∃ (a : Addr) (hs : List Hunk), vs = [.ref a] ∧ Dp K H (.ref a) (hunksD hs) ∧ hs.length ≤ 1000 ∧
  ∀ (H' : Hp) (p : Addr), Same H H' → SqT K H' p [.int ((hs.map fun h => (h.gone.length : Int)).sum), .int ((hs.map fun h => (h.come.length : Int)).sum)] → Q (.ref p) H'
section
variable {P : Program} {w : World} {K : PySem.W.Frag} {mg : Str → Option Value} {base : Heap}
theorem ok_count {f : Addr} {fd : FuncData} (F : Fun K "count_changed" "count_changed" s_count_changed f fd) (T0 : Txt0 mg) (z_sum : mg "sum" = none) : FnOk P w K mg base CX0 1 f fd ["patch"] (spCount K) := by
  refine F.ok sc_count_changed (fun vs H Q E h => ?_) (fun cdv A outer s H vs Q E hr h => ?_)
  · obtain ⟨a, hs, rfl, _⟩ := h
    rfl
  · obtain ⟨a, hs, rfl, hA, hl, k⟩ := h
    refine ⟨_, (pss_one (ps_ret (pe_tup (pa_cons (pe_callB (cr_sum rfl) (by rfl) z_sum (by decide +kernel) (pa_cons (pe_lc (own := [("_", 1), ("gone", 2), ("_", 1)]) (g := _) (tt := tYes) rfl sc_count_changed.nd (pi_tup (pv 0)) (blkOk_by (own := [("_", 1), ("gone", 2), ("_", 1)]) (N := ["patch", "_", "gone", "come"]) (sc := defScope s_count_changed) (by decide +kernel)) (fun _ _ _ _ _ => (pg_tupQ (K := K) (n := 3) rfl rfl (pgs_cons (pg_name (i := 1) sc_count_changed.nd rfl (Or.inl rfl)) (pgs_cons (pg_name (i := 2) sc_count_changed.nd rfl (Or.inl rfl)) (pgs_cons (pg_name (i := 1) sc_count_changed.nd rfl (Or.inl rfl)) pgs_nil))))) (fun _ _ _ _ _ => pts_nil) (fun _ _ _ _ _ => (pe_callB (call_lenQ (K := K) rfl) (by rfl) T0.z_len PySem.boot_len (pa_cons (pv 2) pa_nil)))) pa_nil)) (pa_cons (pe_callB (cr_sum rfl) (by rfl) z_sum (by decide +kernel) (pa_cons (pe_lc (own := [("_", 1), ("_", 1), ("come", 3)]) (g := _) (tt := tYes) rfl sc_count_changed.nd (pi_tup (pv 0)) (blkOk_by (own := [("_", 1), ("_", 1), ("come", 3)]) (N := ["patch", "_", "gone", "come"]) (sc := defScope s_count_changed) (by decide +kernel)) (fun _ _ _ _ _ => (pg_tupQ (K := K) (n := 3) rfl rfl (pgs_cons (pg_name (i := 1) sc_count_changed.nd rfl (Or.inl rfl)) (pgs_cons (pg_name (i := 1) sc_count_changed.nd rfl (Or.inl rfl)) (pgs_cons (pg_name (i := 3) sc_count_changed.nd rfl (Or.inl rfl)) pgs_nil))))) (fun _ _ _ _ _ => pts_nil) (fun _ _ _ _ _ => (pe_callB (call_lenQ (K := K) rfl) (by rfl) T0.z_len PySem.boot_len (pa_cons (pv 3) pa_nil)))) pa_nil)) pa_nil))))), ?_⟩
    obtain ⟨a', ws, ea, ha, hd⟩ := of_tupD hA
    cases ea
    have lw : ws.length = hs.length := by rw [dpAll_len hd, List.length_map]
    refine ⟨_, rfl, a, rfl, ⟨_, ha⟩, fun D hD => ?_⟩
    refine lc_tup (xs := ws) (fun t H' => H' D = some (.lst (((hs.take t).map fun h => (h.gone.length : Int)).map V.int)) ∧ Same H H') ⟨upd_same, same_new hD⟩ (fun t H' _ h => h.2.seqT ha) ?_ ?_
    · rintro t x H3 hx ⟨hys, s3⟩
      have ht : t < hs.length := by rw [← lw]; exact (List.getElem?_eq_some_iff.mp hx).1
      have hrt : hs[t]? = some hs[t] := List.getElem?_eq_getElem ht
      obtain ⟨v, hv1, hv2⟩ := dpAll_at (hunks_keep (TK.same s3) hd) (k := t) (d := hunkD hs[t]) (by rw [List.getElem?_map, hrt]; rfl)
      obtain rfl : v = x := Option.some.inj (hv1.symm.trans hx)
      obtain ⟨z, g, m, rfl, hz, hg, hm⟩ := of_hunk hv2
      have etk : hs.take (t + 1) = hs.take t ++ [hs[t]] := by rw [List.take_succ, hrt]; rfl
      refine ⟨z, _, rfl, hz, rfl, _, _, rfl, _, _, rfl, _, _, rfl, rfl, rfl, ?_⟩
      refine ⟨_, rfl, g, _, rfl, .inr hg, _, hys, ?_, ?_, same_mut s3 hD⟩
      · rw [List.length_map, List.length_map, List.length_take]
        exact Nat.lt_of_le_of_lt (show min t hs.length ≤ 1000 by omega) (by decide)
      · rw [upd_same, etk, List.map_append, List.map_append, List.length_map]
        rfl
    · rintro H3 ⟨hys, s3⟩
      rw [lw, List.take_length] at hys
      refine ⟨D, _, rfl, SqL.of hys, ?_⟩
      refine ⟨_, rfl, a, rfl, ⟨_, s3.seqT ha⟩, fun D2 hD2 => ?_⟩
      refine lc_tup (xs := ws) (fun t H' => H' D2 = some (.lst (((hs.take t).map fun h => (h.come.length : Int)).map V.int)) ∧ Same H3 H') ⟨upd_same, same_new hD2⟩ (fun t H' _ h => h.2.seqT (s3.seqT ha)) ?_ ?_
      · rintro t x H4 hx ⟨hys, s4⟩
        have ht : t < hs.length := by rw [← lw]; exact (List.getElem?_eq_some_iff.mp hx).1
        have hrt : hs[t]? = some hs[t] := List.getElem?_eq_getElem ht
        obtain ⟨v, hv1, hv2⟩ := dpAll_at (hunks_keep (TK.same (s3.trans s4)) hd) (k := t) (d := hunkD hs[t]) (by rw [List.getElem?_map, hrt]; rfl)
        obtain rfl : v = x := Option.some.inj (hv1.symm.trans hx)
        obtain ⟨z, g, m, rfl, hz, hg, hm⟩ := of_hunk hv2
        have etk : hs.take (t + 1) = hs.take t ++ [hs[t]] := by rw [List.take_succ, hrt]; rfl
        refine ⟨z, _, rfl, hz, rfl, _, _, rfl, _, _, rfl, _, _, rfl, rfl, rfl, ?_⟩
        refine ⟨_, rfl, m, _, rfl, .inr hm, _, hys, ?_, ?_, same_mut s4 hD2⟩
        · rw [List.length_map, List.length_map, List.length_take]
          exact Nat.lt_of_le_of_lt (show min t hs.length ≤ 1000 by omega) (by decide)
        · rw [upd_same, etk, List.map_append, List.map_append, List.length_map]
          rfl
      · rintro H4 ⟨hys2, s4⟩
        rw [lw, List.take_length] at hys2
        refine ⟨D2, _, rfl, SqL.of hys2, by show 2 ≤ sizeLine; decide, fun p hp => ?_⟩
        exact k _ p (s3.trans (s4.trans (same_new hp))) (.inl (.inl upd_same))
end
end VK
end

section
set_option Elab.async false
set_option linter.all false
set_option pp.maxSteps 1500
set_option maxRecDepth 100000
set_option maxHeartbeats 4000000
namespace VK
open PySem L2
def optI : Option Nat → V
  | none => .non
  | some q => .int (q : Int)
abbrev s_place_after : Stmt := topS 16
theorem sc_place_after : FnScope ["patch", "place", "moved", "start", "gone", "come"] ["patch", "place"] (defScope s_place_after) := ⟨rfl, rfl, rfl, by decide +kernel, rfl, by decide +kernel, by decide +kernel⟩
def spPlaceA (K : PySem.W.Frag) : Sp := fun vs H Q _ => ∃ (a : Addr) (hs : List Hunk) (p n : Nat), vs = [.ref a, .int (p : Int)] ∧ Dp K H (.ref a) (hunksD hs) ∧ hs.length ≤ 1000 ∧ Sep n 0 hs ∧ Q (optI (paF 0 0 hs p)) H
section
variable {P : Program} {w : World} {K : PySem.W.Frag} {mg : Str → Option Value} {base : Heap}
theorem ok_place {f : Addr} {fd : FuncData} (F : Fun K "place_after" "place_after" s_place_after f fd) (T0 : Txt0 mg) : FnOk P w K mg base CX0 1 f fd ["patch", "place"] (spPlaceA K) := by
  refine F.ok sc_place_after (fun vs H Q E h => ?_) (fun cdv A outer s H vs Q E hr h => ?_)
  · obtain ⟨a, hs, p, n, rfl, _⟩ := h
    rfl
  · obtain ⟨a, hs, p, n, rfl, hA, hl, sp, k⟩ := h
    refine ⟨_, (pss_cons (ps_set (i := 2) sc_place_after.nd rfl (Or.inl rfl) pe_int)
      (pss_cons (ps_for PassesOwn.never rfl (pi_tup (pv 0)) (pg_tup rfl (pgs_cons (pg_name (i := 3) sc_place_after.nd rfl (Or.inl rfl)) (pgs_cons (pg_name (i := 4) sc_place_after.nd rfl (Or.inl rfl)) (pgs_cons (pg_name (i := 5) sc_place_after.nd rfl (Or.inl rfl)) pgs_nil))))
        (pss_cons (ps_if (pt_cmpR op_lt (pv 1) (pv 3) (nomark _))
          (pss_one (ps_ret (pe_op op_add (pv 1) (pv 2))))
          pss_nil)
        (pss_cons (ps_if (pt_cmpR op_le (pv 1) (pe_op op_add (pv 3) (pe_callB call_len_seq (by rfl) T0.z_len PySem.boot_len (pa_cons (pv 4) pa_nil))) (nomark _))
          (pss_one (ps_ret pe_non))
          pss_nil)
        (pss_one (ps_aug (i := 2) sc_place_after.nd rfl (Or.inl rfl) (pe_op op_sub (pe_callB call_len_seq (by rfl) T0.z_len PySem.boot_len (pa_cons (pv 5) pa_nil)) (pe_callB call_len_seq (by rfl) T0.z_len PySem.boot_len (pa_cons (pv 4) pa_nil))) ip_add)))))
      (pss_one (ps_ret (pe_op op_add (pv 1) (pv 2)))))), ?_⟩
    obtain ⟨a', ws, ea, ha, hd⟩ := of_tupD hA
    cases ea
    have lw : ws.length = hs.length := by rw [dpAll_len hd, List.length_map]
    refine ⟨_, rfl, a, rfl, ⟨_, ha⟩, ?_⟩
    refine for_it (walk_tup (xs := ws)) (fun c σ H' => ∃ (i j kk : Nat) (x3 x4 x5 : Option V), σ = [some (.ref a), some (.int (p : Int)), some (.int ((j : Int) - (i : Int))), x3, x4, x5] ∧ H' = H ∧ paF i j (hs.drop c) p = paF 0 0 hs p ∧ Sep n kk (hs.drop c) ∧ i ≤ kk ∧ i ≤ p) ?_ (fun c σ H' _ h => ?_) ?_ ?_
    · exact ⟨0, 0, 0, none, none, none, rfl, rfl, rfl, sp, Nat.le_refl _, Nat.zero_le _⟩
    · obtain ⟨i, j, kk, x3, x4, x5, rfl, rfl, _⟩ := h
      exact ha
    · rintro c x σ H5o H5 hc ⟨i, j, kk, x3, x4, x5, rfl, rfl, hp, sk, ik, ip⟩ ⟨rfl, hx⟩
      have hcf : c < hs.length := by rw [← lw]; exact hc
      obtain ⟨h, ht⟩ : ∃ h, h = hs[c] := ⟨_, rfl⟩
      have hf : hs[c]? = some h := by rw [List.getElem?_eq_getElem hcf, ht]
      obtain ⟨v, hv1, hv2⟩ := dpAll_at hd (k := c) (d := hunkD h) (by rw [List.getElem?_map, hf]; rfl)
      obtain rfl : v = x := Option.some.inj (hv1.symm.trans hx)
      obtain ⟨z, g, m, rfl, hz, hg, hm⟩ := of_hunk hv2
      have ed : hs.drop c = h :: hs.drop (c + 1) := by rw [List.drop_eq_getElem_cons hcf, ← ht]
      rw [ed, paF] at hp
      rw [ed] at sk
      obtain ⟨sk1, sk2, sk3⟩ := sk
      refine ⟨z, _, rfl, hz, rfl, _, _, rfl, _, _, rfl, _, _, rfl, rfl, ?_⟩
      refine ⟨_, rfl, _, rfl, _, _, rfl, rfl, _, rfl, ?_⟩
      refine ite2 (fun e => ?_) (fun e => ?_)
      · have e' : p < h.start := by
          have := of_decide_eq_true e
          omega
        rw [if_pos e'] at hp
        rw [← hp] at k
        have ev : (V.int ((j + (p - i) : Nat) : Int)) = V.int ((p : Int) + ((j : Int) - (i : Int))) := by congr 1; omega
        refine ⟨_, rfl, _, rfl, _, _, rfl, rfl, ?_⟩
        show Q (V.int ((p : Int) + ((j : Int) - (i : Int)))) H5
        rw [← ev]
        exact k
      · have e' : ¬ p < h.start := fun z => e (decide_eq_true (by omega))
        rw [if_neg e'] at hp
        refine ⟨_, rfl, _, rfl, _, rfl, g, _, rfl, .inr hg, _, _, rfl, rfl, _, _, rfl, rfl, _, rfl, ?_⟩
        refine ite2 (fun e => ?_) (fun e => ?_)
        · have e2 : p ≤ h.start + h.gone.length := by
            have := of_decide_eq_true e
            rw [List.length_map] at this
            omega
          rw [if_pos e2] at hp
          rw [← hp] at k
          exact k
        · have e2 : ¬ p ≤ h.start + h.gone.length := fun z => e (decide_eq_true (by rw [List.length_map]; omega))
          rw [if_neg e2] at hp
          refine ⟨_, rfl, _, rfl, m, _, rfl, .inr hm, _, rfl, g, _, rfl, .inr hg, _, _, rfl, rfl, ?_⟩
          refine ⟨_, _, rfl, rfl, ?_⟩
          refine ⟨h.start + h.gone.length, j + (h.start - i) + h.come.length, _, some (.int (h.start : Int)), some (.ref g), some (.ref m), ?_, rfl, hp, sk3, Nat.le_succ _, by omega⟩
          show [_, _, some (V.int ((j : Int) - (i : Int) + (((h.come.map V.str).length : Int) - ((h.gone.map V.str).length : Int)))), _, _, _] = _
          rw [List.length_map, List.length_map]
          have e : (j : Int) - (i : Int) + ((h.come.length : Int) - (h.gone.length : Int)) = ((j + (h.start - i) + h.come.length : Nat) : Int) - ((h.start + h.gone.length : Nat) : Int) := by omega
          rw [e]
    · rintro σ H5 ⟨i, j, kk, x3, x4, x5, rfl, rfl, hp, sk, ik, ip⟩
      rw [lw, List.drop_length, paF] at hp
      rw [← hp] at k
      have ev : (V.int ((j + (p - i) : Nat) : Int)) = V.int ((p : Int) + ((j : Int) - (i : Int))) := by congr 1; omega
      refine ⟨_, rfl, _, rfl, _, _, rfl, rfl, ?_⟩
      show Q (V.int ((p : Int) + ((j : Int) - (i : Int)))) H5
      rw [← ev]
      exact k
end
/-- where a line is behind a patch -/
def laF : Nat → Nat → List Hunk → Nat → Option Nat
  | i, j, [], p => some (j + (p - i))
  | i, j, h :: r, p => if p < h.start then some (j + (p - i)) else if p < h.start + h.gone.length then none else laF (h.start + h.gone.length) (j + (h.start - i) + h.come.length) r p
abbrev s_line_after : Stmt := topS 17
theorem sc_line_after : FnScope ["patch", "place", "moved", "start", "gone", "come"] ["patch", "place"] (defScope s_line_after) := ⟨rfl, rfl, rfl, by decide +kernel, rfl, by decide +kernel, by decide +kernel⟩
def spLineA (K : PySem.W.Frag) : Sp := fun vs H Q _ => ∃ (a : Addr) (hs : List Hunk) (p n : Nat), vs = [.ref a, .int (p : Int)] ∧ Dp K H (.ref a) (hunksD hs) ∧ hs.length ≤ 1000 ∧ Sep n 0 hs ∧ Q (optI (laF 0 0 hs p)) H
section
variable {P : Program} {w : World} {K : PySem.W.Frag} {mg : Str → Option Value} {base : Heap}
theorem ok_line {f : Addr} {fd : FuncData} (F : Fun K "line_after" "line_after" s_line_after f fd) (T0 : Txt0 mg) : FnOk P w K mg base CX0 1 f fd ["patch", "place"] (spLineA K) := by
  refine F.ok sc_line_after (fun vs H Q E h => ?_) (fun cdv A outer s H vs Q E hr h => ?_)
  · obtain ⟨a, hs, p, n, rfl, _⟩ := h
    rfl
  · obtain ⟨a, hs, p, n, rfl, hA, hl, sp, k⟩ := h
    refine ⟨_, (pss_cons (ps_set (i := 2) sc_line_after.nd rfl (Or.inl rfl) pe_int)
      (pss_cons (ps_for PassesOwn.never rfl (pi_tup (pv 0)) (pg_tup rfl (pgs_cons (pg_name (i := 3) sc_line_after.nd rfl (Or.inl rfl)) (pgs_cons (pg_name (i := 4) sc_line_after.nd rfl (Or.inl rfl)) (pgs_cons (pg_name (i := 5) sc_line_after.nd rfl (Or.inl rfl)) pgs_nil))))
        (pss_cons (ps_if (pt_cmpR op_lt (pv 1) (pv 3) (nomark _))
          (pss_one (ps_ret (pe_op op_add (pv 1) (pv 2))))
          pss_nil)
        (pss_cons (ps_if (pt_cmpR op_lt (pv 1) (pe_op op_add (pv 3) (pe_callB call_len_seq (by rfl) T0.z_len PySem.boot_len (pa_cons (pv 4) pa_nil))) (nomark _))
          (pss_one (ps_ret pe_non))
          pss_nil)
        (pss_one (ps_aug (i := 2) sc_line_after.nd rfl (Or.inl rfl) (pe_op op_sub (pe_callB call_len_seq (by rfl) T0.z_len PySem.boot_len (pa_cons (pv 5) pa_nil)) (pe_callB call_len_seq (by rfl) T0.z_len PySem.boot_len (pa_cons (pv 4) pa_nil))) ip_add)))))
      (pss_one (ps_ret (pe_op op_add (pv 1) (pv 2)))))), ?_⟩
    obtain ⟨a', ws, ea, ha, hd⟩ := of_tupD hA
    cases ea
    have lw : ws.length = hs.length := by rw [dpAll_len hd, List.length_map]
    refine ⟨_, rfl, a, rfl, ⟨_, ha⟩, ?_⟩
    refine for_it (walk_tup (xs := ws)) (fun c σ H' => ∃ (i j kk : Nat) (x3 x4 x5 : Option V), σ = [some (.ref a), some (.int (p : Int)), some (.int ((j : Int) - (i : Int))), x3, x4, x5] ∧ H' = H ∧ laF i j (hs.drop c) p = laF 0 0 hs p ∧ Sep n kk (hs.drop c) ∧ i ≤ kk ∧ i ≤ p) ?_ (fun c σ H' _ h => ?_) ?_ ?_
    · exact ⟨0, 0, 0, none, none, none, rfl, rfl, rfl, sp, Nat.le_refl _, Nat.zero_le _⟩
    · obtain ⟨i, j, kk, x3, x4, x5, rfl, rfl, _⟩ := h
      exact ha
    · rintro c x σ H5o H5 hc ⟨i, j, kk, x3, x4, x5, rfl, rfl, hp, sk, ik, ip⟩ ⟨rfl, hx⟩
      have hcf : c < hs.length := by rw [← lw]; exact hc
      obtain ⟨h, ht⟩ : ∃ h, h = hs[c] := ⟨_, rfl⟩
      have hf : hs[c]? = some h := by rw [List.getElem?_eq_getElem hcf, ht]
      obtain ⟨v, hv1, hv2⟩ := dpAll_at hd (k := c) (d := hunkD h) (by rw [List.getElem?_map, hf]; rfl)
      obtain rfl : v = x := Option.some.inj (hv1.symm.trans hx)
      obtain ⟨z, g, m, rfl, hz, hg, hm⟩ := of_hunk hv2
      have ed : hs.drop c = h :: hs.drop (c + 1) := by rw [List.drop_eq_getElem_cons hcf, ← ht]
      rw [ed, laF] at hp
      rw [ed] at sk
      obtain ⟨sk1, sk2, sk3⟩ := sk
      refine ⟨z, _, rfl, hz, rfl, _, _, rfl, _, _, rfl, _, _, rfl, rfl, ?_⟩
      refine ⟨_, rfl, _, rfl, _, _, rfl, rfl, _, rfl, ?_⟩
      refine ite2 (fun e => ?_) (fun e => ?_)
      · have e' : p < h.start := by
          have := of_decide_eq_true e
          omega
        rw [if_pos e'] at hp
        rw [← hp] at k
        have ev : (V.int ((j + (p - i) : Nat) : Int)) = V.int ((p : Int) + ((j : Int) - (i : Int))) := by congr 1; omega
        refine ⟨_, rfl, _, rfl, _, _, rfl, rfl, ?_⟩
        show Q (V.int ((p : Int) + ((j : Int) - (i : Int)))) H5
        rw [← ev]
        exact k
      · have e' : ¬ p < h.start := fun z => e (decide_eq_true (by omega))
        rw [if_neg e'] at hp
        refine ⟨_, rfl, _, rfl, _, rfl, g, _, rfl, .inr hg, _, _, rfl, rfl, _, _, rfl, rfl, _, rfl, ?_⟩
        refine ite2 (fun e => ?_) (fun e => ?_)
        · have e2 : p < h.start + h.gone.length := by
            have := of_decide_eq_true e
            rw [List.length_map] at this
            omega
          rw [if_pos e2] at hp
          rw [← hp] at k
          exact k
        · have e2 : ¬ p < h.start + h.gone.length := fun z => e (decide_eq_true (by rw [List.length_map]; omega))
          rw [if_neg e2] at hp
          refine ⟨_, rfl, _, rfl, m, _, rfl, .inr hm, _, rfl, g, _, rfl, .inr hg, _, _, rfl, rfl, ?_⟩
          refine ⟨_, _, rfl, rfl, ?_⟩
          refine ⟨h.start + h.gone.length, j + (h.start - i) + h.come.length, _, some (.int (h.start : Int)), some (.ref g), some (.ref m), ?_, rfl, hp, sk3, Nat.le_succ _, by omega⟩
          show [_, _, some (V.int ((j : Int) - (i : Int) + (((h.come.map V.str).length : Int) - ((h.gone.map V.str).length : Int)))), _, _, _] = _
          rw [List.length_map, List.length_map]
          have e : (j : Int) - (i : Int) + ((h.come.length : Int) - (h.gone.length : Int)) = ((j + (h.start - i) + h.come.length : Nat) : Int) - ((h.start + h.gone.length : Nat) : Int) := by omega
          rw [e]
    · rintro σ H5 ⟨i, j, kk, x3, x4, x5, rfl, rfl, hp, sk, ik, ip⟩
      rw [lw, List.drop_length, laF] at hp
      rw [← hp] at k
      have ev : (V.int ((j + (p - i) : Nat) : Int)) = V.int ((p : Int) + ((j : Int) - (i : Int))) := by congr 1; omega
      refine ⟨_, rfl, _, rfl, _, _, rfl, rfl, ?_⟩
      show Q (V.int ((p : Int) + ((j : Int) - (i : Int)))) H5
      rw [← ev]
      exact k
end
end VK
end

section
set_option Elab.async false
set_option linter.all false
set_option pp.maxSteps 1500
set_option maxRecDepth 100000
set_option maxHeartbeats 4000000
namespace VK
open PySem L2
abbrev s_carried : Stmt := topS 19
theorem sc_carried : FnScope ["patch", "over", "start", "gone", "come"] ["patch", "over"] (defScope s_carried) := ⟨rfl, rfl, rfl, by decide +kernel, rfl, by decide +kernel, by decide +kernel⟩
def touchSome (f s : List Hunk) : Prop := ∃ x ∈ f, ∃ y ∈ s, touchH x y
def spCarried (K : PySem.W.Frag) : Sp := fun vs H Q _ => ∃ (a b : Addr) (f s : List Hunk) (n : Nat), vs = [.ref a, .ref b] ∧ Dp K H (.ref a) (hunksD f) ∧ Dp K H (.ref b) (hunksD s) ∧ f.length ≤ 1000 ∧ s.length ≤ 1000 ∧ Sep n 0 s ∧
  ∀ (H' : Hp) (v : V), Same H H' → ((v = .non ∧ touchSome f s) ∨ (noTouch f s ∧ ∃ p, v = .ref p ∧ Dp K H' v (hunksD (carryF s f)))) → Q v H'
section
variable {P : Program} {w : World} {K : PySem.W.Frag} {mg : Str → Option Value} {base : Heap}
theorem ok_carried {f fT fP : Addr} {fd fdT fdP : FuncData} (F : Fun K "carried" "carried" s_carried f fd) (T0 : Txt0 mg) (D_do_touch : Df K mg "do_touch" s_do_touch ["one", "two"] fT fdT) (D_place_after : Df K mg "place_after" s_place_after ["patch", "place"] fP fdP) : FnOk P w K mg base CX0 2 f fd ["patch", "over"] (spCarried K) := by
  have G_do_touch : FnOk P w K mg base CX0 1 fT fdT ["one", "two"] (spTouch K) := ok_touch D_do_touch.F T0
  have G_place_after : FnOk P w K mg base CX0 1 fP fdP ["patch", "place"] (spPlaceA K) := ok_place D_place_after.F T0
  refine F.ok sc_carried (fun vs H Q E h => ?_) (fun cdv A outer s H vs Q E hr h => ?_)
  · obtain ⟨a, b, f, s, n, rfl, _⟩ := h
    rfl
  · obtain ⟨a, b, f, s, n, rfl, hA, hB, hf, hs, sp, k⟩ := h
    refine ⟨_, (pss_cons (ps_if (pt_cmpR op_notN (pe_call G_do_touch (hr.mono (by decide)) rfl D_do_touch.m D_do_touch.F.kp D_do_touch.b .nil pass0 (pa_cons (pv 0) (pa_cons (pv 1) pa_nil))) pe_non (nomark _))
        (pss_one (ps_ret pe_non))
        pss_nil)
      (pss_one (ps_ret (pe_callTy call_tuple_of (by rfl) T0.z_tuple (by decide +kernel) (pa_cons (pe_lc (own := [("start", 2), ("gone", 3), ("come", 4)]) (g := _) (tt := tYes) rfl sc_carried.nd (pi_tup (pv 0)) (blkOk_by (own := [("start", 2), ("gone", 3), ("come", 4)]) (N := ["patch", "over", "start", "gone", "come"]) (sc := defScope s_carried) (by decide +kernel)) (fun _ _ _ _ _ => (pg_tupQ (K := K) (n := 3) rfl rfl (pgs_cons (pg_name (i := 2) sc_carried.nd rfl (Or.inl rfl)) (pgs_cons (pg_name (i := 3) sc_carried.nd rfl (Or.inl rfl)) (pgs_cons (pg_name (i := 4) sc_carried.nd rfl (Or.inl rfl)) pgs_nil))))) (fun _ _ _ _ _ => pts_nil) (fun _ _ _ _ _ => (pe_tup (pa_cons (pe_call G_place_after (hr.mono (by decide)) rfl D_place_after.m D_place_after.F.kp D_place_after.b .nil pass0 (pa_cons (pv 1) (pa_cons (pv 2) pa_nil))) (pa_cons (pv 3) (pa_cons (pv 4) pa_nil)))))) pa_nil))))), ?_⟩
    refine ⟨_, rfl, _, rfl, a, b, f, s, rfl, hA, hB, hf, hs, fun H1 v s1 hv => ?_⟩
    rcases hv with ⟨rfl, nt⟩ | ⟨p, rfl, tch⟩
    rotate_left
    · refine ⟨rfl, _, rfl, ?_⟩
      refine iteT ?_
      exact k _ _ s1 (.inl ⟨rfl, tch⟩)
    refine ⟨rfl, _, rfl, ?_⟩
    refine iteF ?_
    obtain ⟨a', ws, ea, ha, hd⟩ := of_tupD hA
    cases ea
    have lw : ws.length = f.length := by rw [dpAll_len hd, List.length_map]
    have ha1 := s1.seqT ha
    refine ⟨_, rfl, a, rfl, ⟨_, ha1⟩, fun D hD => ?_⟩
    refine lc_tup (xs := ws) (fun t H' => ∃ ys, H' D = some (.lst ys) ∧ Same H1 H' ∧ DpAll K H' ys ((carryF s (f.take t)).map hunkD)) ⟨[], upd_same, same_new hD, .nil⟩ (fun t H' _ h => by obtain ⟨ys, h1, h2, h3⟩ := h; exact h2.seqT ha1) ?_ ?_
    · rintro t x H3 hx ⟨ys, hys, s3, hdy⟩
      have ht : t < f.length := by rw [← lw]; exact (List.getElem?_eq_some_iff.mp hx).1
      obtain ⟨h, eh⟩ : ∃ h, h = f[t] := ⟨_, rfl⟩
      have hrt : f[t]? = some h := by rw [List.getElem?_eq_getElem ht, eh]
      obtain ⟨v, hv1, hv2⟩ := dpAll_at (hunks_keep (TK.same (s1.trans s3)) hd) (k := t) (d := hunkD h) (by rw [List.getElem?_map, hrt]; rfl)
      obtain rfl : v = x := Option.some.inj (hv1.symm.trans hx)
      obtain ⟨z, g, m, rfl, hz, hg, hm⟩ := of_hunk hv2
      have hhm := List.mem_of_getElem? hrt
      have etk : f.take (t + 1) = f.take t ++ [h] := by rw [List.take_succ, hrt]; rfl
      obtain ⟨q, eq⟩ : ∃ q, paF 0 0 s h.start = some q := paF_some fun y hy z => nt h hhm y hy ⟨z.2, Nat.le_trans z.1 (Nat.le_add_right _ _)⟩
      have lys : ys.length < sizeLine := by
        rw [dpAll_len hdy, List.length_map]
        unfold carryF
        rw [List.length_map, List.length_take]
        exact Nat.lt_of_le_of_lt (show min t f.length ≤ 1000 by omega) (by decide)
      refine ⟨z, _, rfl, hz, rfl, _, _, rfl, _, _, rfl, _, _, rfl, rfl, rfl, ?_⟩
      refine ⟨_, rfl, _, rfl, b, s, h.start, n, rfl, dp_keep (TK.same (s1.trans s3)) _ _ (imm_hunks s) hB, hs, sp, ?_⟩
      rw [eq]
      refine ⟨_, rfl, _, rfl, by show 3 ≤ sizeLine; decide, fun r hr => ?_⟩
      have ys2 : upd H3 r (.tup [.int (q : Int), .ref g, .ref m]) D = some (.lst ys) := by rw [upd_ne (ne_of_none hys hr)]; exact hys
      refine ⟨ys, ys2, lys, ys ++ [.ref r], upd_same, same_mut (s3.trans (same_new hr)) hD, ?_⟩
      have tk := (TK.new (K := K) (o := .tup [.int (q : Int), .ref g, .ref m]) hr).trans (TK.lst (o := .lst (ys ++ [.ref r])) ys2)
      have ec : carryF s (f.take (t + 1)) = carryF s (f.take t) ++ [⟨q, h.gone, h.come⟩] := by
        unfold carryF
        rw [etk, List.map_append]
        show _ ++ [(⟨(paF 0 0 s h.start).getD 0, h.gone, h.come⟩ : Hunk)] = _
        rw [eq]
        rfl
      rw [ec, List.map_append]
      exact dpAll_app (hunks_keep tk hdy) (dpAll_one (dp_hunk (h := ⟨q, h.gone, h.come⟩) (b := g) (c := m) (TK.lst ys2 _ _ (.inl (.inl upd_same))) (tk _ _ hg) (tk _ _ hm)))
    · rintro H3 ⟨ys, hys, s3, hdy⟩
      rw [lw, List.take_length] at hdy
      refine ⟨D, _, rfl, .inl ⟨SqL.of hys, fun l hl' => ?_⟩⟩
      exact k _ _ (s1.trans (s3.trans (same_new hl'))) (.inr ⟨nt, l, rfl, .tup (.inl (.inl upd_same)) (hunks_keep (TK.new hl') hdy)⟩)
end
abbrev s_commuted : Stmt := topS 21
theorem sc_commuted : FnScope ["first", "second", "back", "ahead"] ["first", "second"] (defScope s_commuted) := ⟨rfl, rfl, rfl, by decide +kernel, rfl, by decide +kernel, by decide +kernel⟩
def spCommuted (K : PySem.W.Frag) : Sp := fun vs H Q _ => ∃ (a b : Addr) (f s : List Hunk) (n1 n2 n3 : Nat), vs = [.ref a, .ref b] ∧ Dp K H (.ref a) (hunksD f) ∧ Dp K H (.ref b) (hunksD s) ∧ f.length ≤ 1000 ∧ s.length ≤ 1000 ∧ Sep n1 0 f ∧ Sep n2 0 (backF 0 0 f) ∧ (noTouch s (backF 0 0 f) → Sep n3 0 (carryF (backF 0 0 f) s) ∧ noTouch f (carryF (backF 0 0 f) s)) ∧
  ∀ (H' : Hp) (v : V), Same H H' → ((v = .non ∧ touchSome s (backF 0 0 f)) ∨ (noTouch s (backF 0 0 f) ∧ ∃ p x y, v = .ref p ∧ SqT K H' p [.ref x, .ref y] ∧ Dp K H' (.ref x) (hunksD (carryF (backF 0 0 f) s)) ∧ Dp K H' (.ref y) (hunksD (carryF (carryF (backF 0 0 f) s) f)))) → Q v H'
theorem back_len : ∀ (hs : List Hunk) (i j : Nat), (backF i j hs).length = hs.length
  | [], _, _ => rfl
  | h :: r, i, j => congrArg (· + 1) (back_len r _ _)
section
variable {P : Program} {w : World} {K : PySem.W.Frag} {mg : Str → Option Value} {base : Heap}
theorem ok_commuted {f fT fP fB fC : Addr} {fd fdT fdP fdB fdC : FuncData} (F : Fun K "commuted" "commuted" s_commuted f fd) (T0 : Txt0 mg) (D_do_touch : Df K mg "do_touch" s_do_touch ["one", "two"] fT fdT) (D_place_after : Df K mg "place_after" s_place_after ["patch", "place"] fP fdP)
    (D_turned_back : Df K mg "turned_back" s_turned_back ["patch"] fB fdB) (D_carried : Df K mg "carried" s_carried ["patch", "over"] fC fdC) : FnOk P w K mg base CX0 3 f fd ["first", "second"] (spCommuted K) := by
  have G_turned_back : FnOk P w K mg base CX0 1 fB fdB ["patch"] (spBack K) := ok_back D_turned_back.F T0
  have G_carried : FnOk P w K mg base CX0 2 fC fdC ["patch", "over"] (spCarried K) := ok_carried D_carried.F T0 D_do_touch D_place_after
  refine F.ok sc_commuted (fun vs H Q E h => ?_) (fun cdv A outer s H vs Q E hr h => ?_)
  · obtain ⟨a, b, f, s, n1, n2, n3, rfl, _⟩ := h
    rfl
  · obtain ⟨a, b, f, s, n1, n2, n3, rfl, hA, hB, hf, hs, sp1, sp2, h3, k⟩ := h
    refine ⟨_, (pss_cons (ps_set (i := 2) sc_commuted.nd rfl (Or.inl rfl) (pe_call G_turned_back (hr.mono (by decide)) rfl D_turned_back.m D_turned_back.F.kp D_turned_back.b .nil pass0 (pa_cons (pv 0) pa_nil)))
      (pss_cons (ps_set (i := 3) sc_commuted.nd rfl (Or.inl rfl) (pe_call G_carried (hr.mono (by decide)) rfl D_carried.m D_carried.F.kp D_carried.b .nil pass0 (pa_cons (pv 1) (pa_cons (pv 2) pa_nil))))
      (pss_cons (ps_if (pt_cmpR op_isN (pv 3) pe_non (nomark _))
        (pss_one (ps_ret pe_non))
        pss_nil)
      (pss_one (ps_ret (pe_tup (pa_cons (pv 3) (pa_cons (pe_call G_carried (hr.mono (by decide)) rfl D_carried.m D_carried.F.kp D_carried.b .nil pass0 (pa_cons (pv 0) (pa_cons (pv 3) pa_nil))) pa_nil)))))))), ?_⟩
    refine ⟨_, rfl, a, f, n1, rfl, hA, hf, sp1, fun H1 v1 s1 d1 => ?_⟩
    obtain ⟨p1, w1, rfl, _, _⟩ := of_tupD d1
    refine ⟨_, rfl, _, rfl, b, p1, s, backF 0 0 f, n2, rfl, dp_keep (TK.same s1) _ _ (imm_hunks s) hB, d1, hs, by rw [back_len]; exact hf, sp2, fun H2 v2 s2 hv2 => ?_⟩
    rcases hv2 with ⟨rfl, tch⟩ | ⟨nt, p2, rfl, d2⟩
    · refine ⟨_, rfl, rfl, _, rfl, ?_⟩
      refine iteT ?_
      exact k _ _ (s1.trans s2) (.inl ⟨rfl, tch⟩)
    · obtain ⟨sp3, nt3⟩ := h3 nt
      refine ⟨_, rfl, rfl, _, rfl, ?_⟩
      refine iteF ?_
      have lc : (carryF (backF 0 0 f) s).length ≤ 1000 := by
        unfold carryF
        rw [List.length_map]
        exact hs
      refine ⟨_, rfl, _, rfl, _, rfl, a, p2, f, carryF (backF 0 0 f) s, n3, rfl, dp_keep (TK.same (s1.trans s2)) _ _ (imm_hunks f) hA, d2, hf, lc, sp3, fun H3 v3 s3 hv3 => ?_⟩
      rcases hv3 with ⟨_, x, hx, y, hy, q⟩ | ⟨_, p3, rfl, d3⟩
      · exact absurd q (nt3 x hx y hy)
      · refine ⟨by show 2 ≤ sizeLine; decide, fun r hr => ?_⟩
        have s4 := same_new (o := .tup [.ref p2, .ref p3]) hr
        exact k _ _ (s1.trans (s2.trans (s3.trans s4))) (.inr ⟨nt, r, p2, p3, rfl, .inl (.inl upd_same), dp_keep (TK.same (s3.trans s4)) _ _ (imm_hunks _) d2, dp_keep (TK.same s4) _ _ (imm_hunks _) d3⟩)
end
end VK
end

section
set_option Elab.async false
set_option linter.all false
set_option pp.maxSteps 1500
set_option maxRecDepth 100000
set_option maxHeartbeats 4000000
namespace VK
open PySem L2
abbrev s_lines_between : Stmt := topS 25
theorem sc_lines_between : FnScope ["hunks", "low", "high", "found", "start", "gone", "_", "place", "line"] ["hunks", "low", "high"] (defScope s_lines_between) := ⟨rfl, rfl, rfl, by decide +kernel, rfl, by decide +kernel, by decide +kernel⟩
theorem ixN_at {n j : Nat} (hj : j < n) : ixN n (j : Int) = some j := by
  unfold ixN
  rw [if_pos (by omega), if_pos (by omega)]
  simp
/-- the line at a place -/
def lnAt (M : List Str) (k : Nat) : V := .str (M.getD k "")
theorem ln_cut {M : List Str} {lo hi : Nat} (h : hi ≤ M.length) : (cutL M lo hi).map V.str = (List.range' lo (hi - lo)).map (lnAt M) := by
  refine List.ext_getElem? fun k => ?_
  rw [List.getElem?_map, List.getElem?_map]
  by_cases c : k < hi - lo
  · rw [List.getElem?_range' c]
    have e : (cutL M lo hi)[k]? = some (M[lo + k]'(by omega)) := by
      unfold cutL
      rw [List.getElem?_take_of_lt c, List.getElem?_drop, List.getElem?_eq_getElem (show lo + k < M.length by omega)]
    rw [e]
    show some (V.str _) = some (lnAt M (lo + 1 * k))
    unfold lnAt
    rw [Nat.one_mul, List.getD_eq_getElem?_getD, List.getElem?_eq_getElem (show lo + k < M.length by omega)]
    rfl
  · have l1 : (cutL M lo hi).length = hi - lo := cutL_length M h
    rw [List.getElem?_eq_none (by omega), List.getElem?_eq_none (by rw [List.length_range']; omega)]
    rfl
/-- what is found so far -/
structure LB1 (M : List Str) (lo hi : Nat) (xs : List V) : Prop where
  len : xs.length = hi - lo
  val : ∀ k, k < hi - lo → xs[k]? = some .non ∨ xs[k]? = some (lnAt M (lo + k))
theorem LB1.put {M : List Str} {lo hi : Nat} {xs : List V} (h : LB1 M lo hi xs) {k : Nat} (hk : k < hi - lo) : LB1 M lo hi (xs.set k (lnAt M (lo + k))) ∧ (xs.set k (lnAt M (lo + k)))[k]? = some (lnAt M (lo + k)) ∧ ∀ j, xs[j]? = some (lnAt M (lo + j)) → (xs.set k (lnAt M (lo + k)))[j]? = some (lnAt M (lo + j)) := by
  have hl : k < xs.length := by rw [h.len]; exact hk
  have at_ : (xs.set k (lnAt M (lo + k)))[k]? = some (lnAt M (lo + k)) := by rw [List.getElem?_set_self hl]
  refine ⟨⟨by rw [List.length_set]; exact h.len, fun j hj => ?_⟩, at_, fun j hj => ?_⟩
  · by_cases e : k = j
    · subst e; exact .inr at_
    · rw [List.getElem?_set_ne e]; exact h.val j hj
  · by_cases e : k = j
    · subst e; exact at_
    · rw [List.getElem?_set_ne e]; exact hj
def spLinesB (K : PySem.W.Frag) : Sp := fun vs H Q _ => ∃ (b : Addr) (hs : List Hunk) (ws : List V) (lo hi : Nat) (M : List Str), vs = [.ref b, .int (lo : Int), .int (hi : Int)] ∧ H b = some (.lst ws) ∧ DpAll K H ws (hs.map hunkD) ∧ lo ≤ hi ∧ hi ≤ M.length ∧ M.length ≤ 100000 ∧ (∀ h ∈ hs, lo ≤ h.start ∧ h.start + h.gone.length ≤ hi ∧ FitL M h) ∧ (∀ k, lo ≤ k → k < hi → ∃ h ∈ hs, h.start ≤ k ∧ k < h.start + h.gone.length) ∧
  ∀ (H' : Hp) (l : Addr), Same H H' → H' l = some (.lst ((cutL M lo hi).map V.str)) → Q (.ref l) H'
section
variable {P : Program} {w : World} {K : PySem.W.Frag} {mg : Str → Option Value} {base : Heap}
theorem ok_linesB {f : Addr} {fd : FuncData} (F : Fun K "lines_between" "lines_between" s_lines_between f fd) (T0 : Txt0 mg) : FnOk P w K mg base CX0 1 f fd ["hunks", "low", "high"] (spLinesB K) := by
  refine F.ok sc_lines_between (fun vs H Q E h => ?_) (fun cdv A outer s H vs Q E hr h => ?_)
  · obtain ⟨b, hs, ws, lo, hi, M, rfl, _⟩ := h
    rfl
  · obtain ⟨b, hs, ws, lo, hi, M, rfl, hb, hd, l1, l2, l3, hf, hcov, k⟩ := h
    refine ⟨_, (pss_cons (ps_set (i := 3) sc_lines_between.nd rfl (Or.inl rfl) (pe_op op_rep (pe_lst (pa_cons pe_non pa_nil)) (pe_op op_sub (pv 2) (pv 1))))
      (pss_cons (ps_for PassesOwn.never rfl (pi_list (pv 0)) (pg_tup rfl (pgs_cons (pg_name (i := 4) sc_lines_between.nd rfl (Or.inl rfl)) (pgs_cons (pg_name (i := 5) sc_lines_between.nd rfl (Or.inl rfl)) (pgs_cons (pg_name (i := 6) sc_lines_between.nd rfl (Or.inl rfl)) pgs_nil))))
        (pss_one (ps_for PassesOwn.never rfl (pi_enumT (by rfl) T0.z_enumerate (pa_cons (pv 5) pa_nil)) (pg_tup rfl (pgs_cons (pg_name (i := 7) sc_lines_between.nd rfl (Or.inl rfl)) (pgs_cons (pg_name (i := 8) sc_lines_between.nd rfl (Or.inl rfl)) pgs_nil)))
          (pss_cons (ps_if (pt_cmpR op_notIn_seq (pe_ix ix_list (pv 3) (pe_op op_add (pe_op op_sub (pv 4) (pv 1)) (pv 7)) (fun _ _ => rfl)) (pe_tup (pa_cons pe_non (pa_cons (pv 8) pa_nil))) rfl)
            (pss_one (ps_ret pe_non))
            pss_nil)
          (pss_one (ps_asg (pv 8) (pg_sub (pv 3) (pe_op op_add (pe_op op_sub (pv 4) (pv 1)) (pv 7)) set_list)))))))
      (pss_one (ps_ret (pv 3))))), ?_⟩
    have lw : ws.length = hs.length := by rw [dpAll_len hd, List.length_map]
    refine ⟨by show 1 ≤ sizeLine; decide, fun f0 hf0 => ?_⟩
    have sA := same_new (o := .lst [.non]) hf0
    refine ⟨_, rfl, _, rfl, _, _, rfl, rfl, f0, _, [.non], rfl, rfl, upd_same, by omega, by omega, ?_, fun fo hfo => ?_⟩
    · show 1 * ((hi : Int) - (lo : Int)).toNat ≤ sizeLine
      exact Nat.le_trans (show _ ≤ 100000 by omega) (by decide)
    have er : ((hi : Int) - (lo : Int)).toNat = hi - lo := by omega
    have nfo : H fo = none := by
      cases q : H fo with
      | none => rfl
      | some o =>
        have q2 := sA _ _ q
        rw [hfo] at q2
        cases q2
    have e1 : (List.replicate ((hi : Int) - (lo : Int)).toNat [V.non]).flatten = List.replicate (hi - lo) V.non := by
      rw [er, List.flatten_replicate_singleton]
    rw [e1]
    have s0 : Same H (upd (upd H f0 (.lst [.non])) fo (.lst (List.replicate (hi - lo) V.non))) := sA.trans (same_new hfo)
    refine ⟨_, rfl, b, rfl, ⟨_, SqL.of (s0 _ _ hb)⟩, ?_⟩
    refine for_it (walk_list (xs := ws)) (fun c σ H' => ∃ (xs : List V) (x4 x5 x6 x7 x8 : Option V), σ = [some (.ref b), some (.int (lo : Int)), some (.int (hi : Int)), some (.ref fo), x4, x5, x6, x7, x8] ∧ Same H H' ∧ H' fo = some (.lst xs) ∧ LB1 M lo hi xs ∧ ∀ h ∈ hs.take c, ∀ j, h.start ≤ j → j < h.start + h.gone.length → xs[j - lo]? = some (lnAt M j)) ?_ (fun c σ H' _ h => ?_) ?_ ?_
    · refine ⟨_, none, none, none, none, none, rfl, s0, upd_same, ⟨by rw [List.length_replicate], fun j hj => .inl ?_⟩, fun h hm => by cases hm⟩
      rw [List.getElem?_replicate, if_pos hj]
    · obtain ⟨xs, x4, x5, x6, x7, x8, rfl, h1, _⟩ := h
      exact SqL.of (h1 _ _ hb)
    · rintro c x σ H5o H5 hc ⟨xs, x4, x5, x6, x7, x8, rfl, sm, hx0, lb, cov⟩ ⟨rfl, hx⟩
      have hcf : c < hs.length := by rw [← lw]; exact hc
      obtain ⟨h, ht⟩ : ∃ h, h = hs[c] := ⟨_, rfl⟩
      have hfc : hs[c]? = some h := by rw [List.getElem?_eq_getElem hcf, ht]
      obtain ⟨f1, f2, f3⟩ := hf h (List.mem_of_getElem? hfc)
      obtain ⟨v, hv1, hv2⟩ := dpAll_at (hunks_keep (TK.same sm) hd) (k := c) (d := hunkD h) (by rw [List.getElem?_map, hfc]; rfl)
      obtain rfl : v = x := Option.some.inj (hv1.symm.trans hx)
      obtain ⟨z, g, m, rfl, hz, hg, hm⟩ := of_hunk hv2
      have etk : hs.take (c + 1) = hs.take c ++ [h] := by rw [List.take_succ, hfc]; rfl
      refine ⟨z, _, rfl, hz, rfl, _, _, rfl, _, _, rfl, _, _, rfl, rfl, ?_⟩
      refine ⟨_, rfl, g, h.gone.map V.str, rfl, hg, ?_⟩
      refine for_it (walk_enumT (xs := h.gone.map V.str)) (fun e σ H' => ∃ (xs : List V) (x7 x8 : Option V), σ = [some (.ref b), some (.int (lo : Int)), some (.int (hi : Int)), some (.ref fo), some (.int (h.start : Int)), some (.ref g), some (.ref m), x7, x8] ∧ Same H H' ∧ SqT K H' g (h.gone.map V.str) ∧ H' fo = some (.lst xs) ∧ LB1 M lo hi xs ∧ (∀ h ∈ hs.take c, ∀ j, h.start ≤ j → j < h.start + h.gone.length → xs[j - lo]? = some (lnAt M j)) ∧ ∀ j, h.start ≤ j → j < h.start + e → xs[j - lo]? = some (lnAt M j)) ?_ (fun e σ H' _ h => ?_) ?_ ?_
      · exact ⟨xs, x7, x8, rfl, sm, hg, hx0, lb, cov, fun j h1 h2 => by omega⟩
      · obtain ⟨_, _, _, _, _, h2, _⟩ := h
        exact h2
      · rintro e x σ H6 H7 he ⟨xs, x7, x8, rfl, sm6, hg6, hx6, lb6, cov6, cur⟩ ⟨T, x', rfl, hT, rfl, hx2⟩
        have hel : e < h.gone.length := by rw [List.length_map] at he; exact he
        have sT : Same H6 (upd H6 T (.tup [.int (e : Nat), x'])) := same_new hT
        have hkl : h.start - lo + e < hi - lo := by omega
        have exx : x' = lnAt M (lo + (h.start - lo + e)) := by
          have q := ln_cut (lo := h.start) (hi := h.start + h.gone.length) (M := M) (by omega)
          have f3' : cutL M h.start (h.start + h.gone.length) = h.gone := f3
          rw [f3', show h.start + h.gone.length - h.start = h.gone.length by omega] at q
          rw [q, List.getElem?_map, List.getElem?_range' hel] at hx2
          have q2 := Option.some.inj hx2
          rw [← q2]
          show lnAt M (h.start + 1 * e) = _
          congr 1
          omega
        obtain ⟨y, ey⟩ : ∃ y : Str, x' = .str y := ⟨_, exx⟩
        have hx7 : (upd H6 T (.tup [.int (e : Nat), x'])) fo = some (.lst xs) := sT _ _ hx6
        have lx : xs.length = hi - lo := lb6.len
        have eix : (h.start : Int) - (lo : Int) + (e : Int) = ((h.start - lo + e : Nat) : Int) := by omega
        obtain ⟨old, hold⟩ : ∃ old, xs[h.start - lo + e]? = some old := ⟨_, List.getElem?_eq_getElem (show h.start - lo + e < xs.length by omega)⟩
        have holdv : old = .non ∨ old = x' := by
          rcases lb6.val _ hkl with q | q
          · exact .inl (Option.some.inj (hold.symm.trans q))
          · exact .inr (by rw [exx]; exact Option.some.inj (hold.symm.trans q))
        refine ⟨T, _, rfl, .inl (.inl upd_same), rfl, _, _, rfl, _, _, rfl, rfl, ?_⟩
        refine ⟨_, rfl, _, rfl, _, rfl, _, _, rfl, rfl, _, rfl, _, _, rfl, rfl, fo, _, _, _, rfl, rfl, SqL.of hx7, (by rw [eix]; exact atI_nat hold), ?_⟩
        refine ⟨_, rfl, by show 2 ≤ sizeLine; decide, fun q hq => ?_⟩
        have hx8 : upd (upd H6 T (.tup [.int (e : Nat), x'])) q (.tup [.non, x']) fo = some (.lst xs) := by rw [upd_ne (ne_of_none hx7 hq)]; exact hx7
        have hfl : flatV old = true := by
          rcases holdv with rfl | rfl
          · rfl
          · rw [ey]; rfl
        have hall : [V.non, x'].all flatV = true := by rw [ey]; rfl
        have hin : inV old [V.non, x'] = true := by
          rcases holdv with rfl | rfl
          · rfl
          · rw [ey]
            show (eqV .non (.str y) || (eqV (.str y) (.str y) || false)) = true
            have : eqV (.str y) (.str y) = true := by unfold eqV; simp
            rw [this]
            rfl
        refine ⟨q, _, rfl, .inr (.inl (.inl upd_same)), hfl, hall, _, rfl, ?_⟩
        refine ite2 (fun e => by rw [hin] at e; cases e) (fun _ => ?_)
        obtain ⟨p1, p2, p3⟩ := lb6.put hkl
        rw [← exx] at p1 p2 p3
        refine ⟨_, rfl, _, rfl, _, rfl, _, rfl, _, _, rfl, rfl, _, rfl, _, _, rfl, rfl, fo, xs, _, h.start - lo + e, rfl, rfl, hx8, (by rw [eix]; exact ixN_at (by omega)), ?_⟩
        have s68 := sT.trans (same_new (o := .tup [.non, x']) hq)
        have pj : ∀ j, lo ≤ j → xs[j - lo]? = some (lnAt M j) → (xs.set (h.start - lo + e) x')[j - lo]? = some (lnAt M j) := fun j hj q => by
          have q2 := p3 (j - lo) (by rw [show lo + (j - lo) = j by omega]; exact q)
          rw [show lo + (j - lo) = j by omega] at q2
          exact q2
        refine ⟨_, _, _, rfl, same_mut (sm6.trans s68) nfo, TK.lst hx8 _ _ (s68.seqT hg6), upd_same, p1, fun h' hm' j j1 j2 => pj j ?_ (cov6 h' hm' j j1 j2), fun j j1 j2 => ?_⟩
        · have := (hf h' (List.mem_of_mem_take hm')).1
          omega
        · by_cases ej : j = h.start + e
          · subst ej
            rw [show h.start + e - lo = h.start - lo + e by omega, p2, exx]
            congr 2
            omega
          · exact pj j (by omega) (cur j j1 (by omega))
      · rintro σ H6 ⟨xs, x7, x8, rfl, sm6, hg6, hx6, lb6, cov6, cur⟩
        refine ⟨xs, _, _, _, _, _, rfl, sm6, hx6, lb6, fun h' hm' j j1 j2 => ?_⟩
        rw [etk] at hm'
        rcases List.mem_append.mp hm' with hm' | hm'
        · exact cov6 h' hm' j j1 j2
        · rw [List.mem_singleton.mp hm'] at j1 j2
          exact cur j j1 (by rw [List.length_map]; exact j2)
    · rintro σ H5 ⟨xs, x4, x5, x6, x7, x8, rfl, sm, hx0, lb, cov⟩
      rw [lw, List.take_length] at cov
      have ex : xs = (cutL M lo hi).map V.str := by
        rw [ln_cut l2]
        refine List.ext_getElem? fun j => ?_
        rw [List.getElem?_map]
        by_cases c : j < hi - lo
        · rw [List.getElem?_range' c]
          obtain ⟨h, hm, h1, h2⟩ := hcov (lo + j) (by omega) (by omega)
          have q := cov h hm (lo + j) h1 h2
          rw [show lo + j - lo = j by omega] at q
          rw [q]
          show _ = some (lnAt M (lo + 1 * j))
          rw [Nat.one_mul]
        · rw [List.getElem?_eq_none (by rw [lb.len]; omega), List.getElem?_eq_none (by rw [List.length_range']; omega)]
          rfl
      rw [ex] at hx0
      exact ⟨_, rfl, k _ fo sm hx0⟩
end
end VK
end

section
set_option Elab.async false
set_option linter.all false
set_option pp.maxSteps 1500
set_option maxRecDepth 100000
set_option maxHeartbeats 4000000
namespace VK
open PySem L2
theorem slL_lines {K : PySem.W.Frag} {H : Hp} {a : Addr} {ls : List Str} {i h : Nat} {Q : VK} (hx : H a = some (.lst (ls.map V.str))) (k : ∀ H' p, Same H H' → H' p = some (.lst ((cutL ls i h).map V.str)) → Q (.ref p) H') : rSlL K (.ref a) (some (i : Int)) (some (h : Int)) H Q :=
  ⟨a, _, rfl, SqL.of hx, fun p hp => k _ p (same_new hp) (by rw [upd_same, cutV_nat, cutL_map])⟩
theorem slL_linesFrom {K : PySem.W.Frag} {H : Hp} {a : Addr} {ls : List Str} {i : Nat} {Q : VK} (hx : H a = some (.lst (ls.map V.str))) (k : ∀ H' p, Same H H' → H' p = some (.lst ((ls.drop i).map V.str)) → Q (.ref p) H') : rSlL K (.ref a) (some (i : Int)) none H Q :=
  ⟨a, _, rfl, SqL.of hx, fun p hp => k _ p (same_new hp) (by rw [upd_same, cutV_from, ← List.map_drop])⟩
def spRewL (K : PySem.W.Frag) : Sp := fun vs H Q _ => ∃ (a b : Addr) (ls : List Str) (hs : List Hunk) (ws : List V) (low : Nat), vs = [.ref a, .int (low : Int), .ref b] ∧ H a = some (.lst (ls.map V.str)) ∧ H b = some (.lst ws) ∧ DpAll K H ws (hs.map hunkD) ∧ (∀ h ∈ hs, low ≤ h.start) ∧ (rewF ls low 0 hs).length ≤ 100000 ∧
  ∀ (H' : Hp) (p : Addr), Same H H' → SqT K H' p ((rewF ls low 0 hs).map V.str) → Q (.ref p) H'
section
variable {P : Program} {w : World} {K : PySem.W.Frag} {mg : Str → Option Value} {base : Heap}
theorem ok_rewL {f : Addr} {fd : FuncData} (F : Fun K "rewritten" "rewritten" s_rewritten f fd) (T0 : Txt0 mg) : FnOk P w K mg base CX0 1 f fd ["lines", "low", "hunks"] (spRewL K) := by
  refine F.ok sc_rewritten (fun vs H Q E h => ?_) (fun cdv A outer s H vs Q E hr h => ?_)
  · obtain ⟨a, b, ls, hs, ws, low, rfl, _⟩ := h
    rfl
  · obtain ⟨a, b, ls, hs, ws, low, rfl, hA, hb, hd, hlow, hlen, k⟩ := h
    refine ⟨_, (pss_cons (ps_asg (pe_tup (pa_cons (pe_tup pa_nil) (pa_cons pe_int pa_nil))) (pg_tup rfl (pgs_cons (pg_name (i := 3) sc_rewritten.nd rfl (Or.inl rfl)) (pgs_cons (pg_name (i := 4) sc_rewritten.nd rfl (Or.inl rfl)) pgs_nil))))
      (pss_cons (ps_for PassesOwn.never rfl (pi_list (pv 2)) (pg_tup rfl (pgs_cons (pg_name (i := 5) sc_rewritten.nd rfl (Or.inl rfl)) (pgs_cons (pg_name (i := 6) sc_rewritten.nd rfl (Or.inl rfl)) (pgs_cons (pg_name (i := 7) sc_rewritten.nd rfl (Or.inl rfl)) pgs_nil))))
        (pss_cons (ps_set (i := 3) sc_rewritten.nd rfl (Or.inl rfl) (pe_op op_catA (pe_op op_catA (pv 3) (pe_callTy call_tuple_of (by rfl) T0.z_tuple (by decide +kernel) (pa_cons (pe_slice sl_list (pv 0) (po_some (pv 4)) (po_some (pe_op op_sub (pv 5) (pv 1)))) pa_nil))) (pv 7)))
        (pss_one (ps_set (i := 4) sc_rewritten.nd rfl (Or.inl rfl) (pe_op op_add (pe_op op_sub (pv 5) (pv 1)) (pe_callB call_len_seq (by rfl) T0.z_len PySem.boot_len (pa_cons (pv 6) pa_nil)))))))
      (pss_one (ps_ret (pe_op op_catA (pv 3) (pe_callTy call_tuple_of (by rfl) T0.z_tuple (by decide +kernel) (pa_cons (pe_slice sl_list (pv 0) (po_some (pv 4)) po_none) pa_nil))))))), ?_⟩
    refine ⟨by show 0 ≤ sizeLine; decide, fun fo hfo => ⟨by show 2 ≤ sizeLine; decide, fun tq htq => ⟨tq, _, rfl, .inl (.inl upd_same), rfl, _, _, rfl, _, _, rfl, rfl, ?_⟩⟩⟩
    have s1 : Same (upd H fo (.tup [])) (upd (upd H fo (.tup [])) tq (.tup [.ref fo, .int 0])) := same_new htq
    have s0 : Same H (upd (upd H fo (.tup [])) tq (.tup [.ref fo, .int 0])) := (same_new hfo).trans s1
    have ln : ws.length = hs.length := by rw [dpAll_len hd, List.length_map]
    refine ⟨_, rfl, b, rfl, ⟨_, SqL.of (s0 _ _ hb)⟩, ?_⟩
    refine for_it (walk_list (xs := ws)) (fun c σ H' => ∃ (i : Nat) (q : Addr) (fs : List Str) (x5 x6 x7 : Option V), σ = [some (.ref a), some (.int (low : Int)), some (.ref b), some (.ref q), some (.int (i : Int)), x5, x6, x7] ∧ Same H H' ∧ SqT K H' q (fs.map V.str) ∧ fs ++ rewF ls low i (hs.drop c) = rewF ls low 0 hs) ?_ (fun c σ H' _ h => ?_) ?_ ?_
    · exact ⟨0, fo, [], none, none, none, rfl, s0, s1.seqT (.inl (.inl upd_same)), rfl⟩
    · obtain ⟨i, q, fs, x5, x6, x7, rfl, h1, h2, h3⟩ := h
      exact SqL.of (h1 _ _ hb)
    · rintro c x σ H5o H5 hc ⟨i, q, fs, x5, x6, x7, rfl, sm, hq, hp⟩ ⟨rfl, hx⟩
      have hcf : c < hs.length := by rw [← ln]; exact hc
      obtain ⟨h, ht⟩ : ∃ h, h = hs[c] := ⟨_, rfl⟩
      have hf : hs[c]? = some h := by rw [List.getElem?_eq_getElem hcf, ht]
      have hlo : low ≤ h.start := hlow h (List.mem_of_getElem? hf)
      obtain ⟨v, hv1, hv2⟩ := dpAll_at (hunks_keep (TK.same sm) hd) (k := c) (d := hunkD h) (by rw [List.getElem?_map, hf]; rfl)
      obtain rfl : v = x := Option.some.inj (hv1.symm.trans hx)
      obtain ⟨z, g, m, rfl, hz, hg, hm⟩ := of_hunk hv2
      have ed : hs.drop c = h :: hs.drop (c + 1) := by rw [List.drop_eq_getElem_cons hcf, ← ht]
      rw [ed, rewF] at hp
      have hl := congrArg List.length hp
      simp only [List.length_append] at hl
      have esub : (h.start : Int) - (low : Int) = ((h.start - low : Nat) : Int) := by omega
      refine ⟨z, _, rfl, hz, rfl, _, _, rfl, _, _, rfl, _, _, rfl, rfl, ?_⟩
      refine ⟨_, rfl, _, rfl, _, rfl, _, rfl, _, rfl, _, rfl, _, _, rfl, rfl, _, congrArg V.int esub, ?_⟩
      refine slL_lines (sm _ _ hA) fun H6 p0 s560 hp60 => ?_
      refine ⟨p0, _, rfl, .inl ⟨SqL.of hp60, fun p hpn => ?_⟩⟩
      obtain ⟨H6', e6'⟩ : ∃ H6', H6' = upd H6 p (.tup ((cutL ls i (h.start - low)).map V.str)) := ⟨_, rfl⟩
      rw [← e6']
      have hp6 : SqT K H6' p ((cutL ls i (h.start - low)).map V.str) := .inl (.inl (by rw [e6', upd_same]))
      have s56 : Same H5 H6' := s560.trans (by rw [e6']; exact same_new hpn)
      refine cat_linesB (s56.seqT hq) hp6 (by omega) fun H7 r s67 hr7 => ?_
      refine ⟨_, rfl, cat_linesB hr7 ((s56.trans s67).seqT hm) (by rw [List.length_append]; omega) fun H8 y s78 hy8 => ?_⟩
      have s58 := s56.trans (s67.trans s78)
      refine ⟨_, rfl, _, rfl, _, _, rfl, rfl, _, rfl, g, _, rfl, .inr (s58.seqT hg), _, _, rfl, rfl, ?_⟩
      refine ⟨h.start - low + h.gone.length, y, fs ++ cutL ls i (h.start - low) ++ h.come, some (.int (h.start : Int)), some (.ref g), some (.ref m), ?_, sm.trans s58, hy8, ?_⟩
      · show [_, _, _, _, some (V.int ((h.start : Int) - (low : Int) + ((h.gone.map V.str).length : Int))), _, _, _] = _
        rw [List.length_map, esub]; rfl
      · rw [← hp]; simp [List.append_assoc]
    · rintro σ H5 ⟨i, q, fs, x5, x6, x7, rfl, sm, hq, hp⟩
      rw [ln, List.drop_length, rewF] at hp
      have hl := congrArg List.length hp
      simp only [List.length_append] at hl
      refine ⟨_, rfl, _, rfl, _, rfl, _, rfl, ?_⟩
      dsimp only [tNoPart]
      refine slL_linesFrom (sm _ _ hA) fun H6 p0 s560 hp60 => ?_
      refine ⟨p0, _, rfl, .inl ⟨SqL.of hp60, fun p hpn => ?_⟩⟩
      obtain ⟨H6', e6'⟩ : ∃ H6', H6' = upd H6 p (.tup ((ls.drop i).map V.str)) := ⟨_, rfl⟩
      rw [← e6']
      have hp6 : SqT K H6' p ((ls.drop i).map V.str) := .inl (.inl (by rw [e6', upd_same]))
      have s56 : Same H5 H6' := s560.trans (by rw [e6']; exact same_new hpn)
      refine cat_linesB (s56.seqT hq) hp6 (by omega) fun H7 r s67 hr7 => ?_
      exact k _ r (sm.trans (s56.trans s67)) (by rw [← hp]; exact hr7)
end
end VK
end

section
set_option Elab.async false
set_option linter.all false
set_option pp.maxSteps 1500
set_option maxRecDepth 100000
set_option maxHeartbeats 4000000
namespace VK
open PySem L2
theorem ne_lines {K : PySem.W.Frag} {H : Hp} {a b : Addr} {xs ys : List Str} {Q : VK} (h1 : SqT K H a (xs.map V.str)) (h2 : SqT K H b (ys.map V.str)) (o1 : OkL xs) (o2 : OkL ys) (q : Q (.bl (!decide (xs = ys))) H) : rNeD K (.ref a) (.ref b) H Q := by
  refine ⟨_, _, dp_lines h1, dp_lines h2, (okD_lines o1).shaped (by decide), (okD_lines o2).shaped (by decide), ?_⟩
  rw [eqv_lines]; exact q
theorem apS_mem {M : List Str} {f : List Hunk} {p : Nat × Nat} : ∀ {S : List (Nat × Nat)} {here : Nat}, p ∈ S → (sideF M f p.1 p.2).length ≤ (apS M f here S).length
  | (lo, hi) :: r, here, h => by
    rw [apS, List.length_append, List.length_append]
    rcases List.mem_cons.mp h with rfl | h
    · show (sideF M f lo hi).length ≤ _
      omega
    · have := apS_mem (M := M) (f := f) (here := hi) h
      omega
abbrev s_joined : Stmt := topS 22
theorem sc_joined : FnScope ["first", "second", "back", "found", "wrong", "moved", "place", "number", "low", "high", "here", "there", "middle", "old", "new"] ["first", "second"] (defScope s_joined) := ⟨rfl, rfl, rfl, by decide +kernel, rfl, by decide +kernel, by decide +kernel⟩
def spJoined (K : PySem.W.Frag) : Sp := fun vs H Q _ => ∃ (a b : Addr) (L : List Str) (f s : List Hunk), vs = [.ref a, .ref b] ∧ Dp K H (.ref a) (hunksD f) ∧ Dp K H (.ref b) (hunksD s) ∧ PtOk L f ∧ PtOk (applyF L 0 f) s ∧ OkL (applyF L 0 f) ∧ f.length ≤ 500 ∧ s.length ≤ 500 ∧ (applyF L 0 f).length ≤ 50000 ∧ L.length ≤ 50000 ∧ (applyF (applyF L 0 f) 0 s).length ≤ 50000 ∧ (∀ h ∈ f, OkL h.gone) ∧ (∀ h ∈ s, OkL h.come) ∧
  ∀ (H' : Hp) (v : V), Same H H' → Dp K H' v (hunksD (joinedF (applyF L 0 f) (backF 0 0 f) s)) → Q v H'
section
variable {P : Program} {w : World} {K : PySem.W.Frag} {mg : Str → Option Value} {base : Heap}
theorem ok_joined {f fB fS fW fL fR : Addr} {fd fdB fdS fdW fdL fdR : FuncData} (F : Fun K "joined" "joined" s_joined f fd) (T0 : Txt0 mg) (z_sorted : mg "sorted" = none)
    (D_turned_back : Df K mg "turned_back" s_turned_back ["patch"] fB fdB) (D_spans_between : Df K mg "spans_between" s_spans_between ["one", "two"] fS fdS) (D_within : Df K mg "within" s_within ["patch", "low", "high"] fW fdW)
    (D_lines_between : Df K mg "lines_between" s_lines_between ["hunks", "low", "high"] fL fdL) (D_rewritten : Df K mg "rewritten" s_rewritten ["lines", "low", "hunks"] fR fdR) : FnOk P w K mg base CX0 2 f fd ["first", "second"] (spJoined K) := by
  have G_turned_back : FnOk P w K mg base CX0 1 fB fdB ["patch"] (spBack K) := ok_back D_turned_back.F T0
  have G_spans_between : FnOk P w K mg base CX0 1 fS fdS ["one", "two"] (spSpans K) := ok_spans D_spans_between.F T0 z_sorted
  have G_within : FnOk P w K mg base CX0 1 fW fdW ["patch", "low", "high"] (spWithin K) := ok_within D_within.F T0
  have G_lines_between : FnOk P w K mg base CX0 1 fL fdL ["hunks", "low", "high"] (spLinesB K) := ok_linesB D_lines_between.F T0
  have G_rewritten : FnOk P w K mg base CX0 1 fR fdR ["lines", "low", "hunks"] (spRewL K) := ok_rewL D_rewritten.F T0
  refine F.ok sc_joined (fun vs H Q E h => ?_) (fun cdv A outer s H vs Q E hr h => ?_)
  · obtain ⟨a, b, L, f, s, rfl, _⟩ := h
    rfl
  · obtain ⟨a, b, L, f, s, rfl, hA, hB, pf, ps, okM, lf, ls, lM, lL, lN, okf, oks, k⟩ := h
    refine ⟨_, (pss_cons (ps_set (i := 2) sc_joined.nd rfl (Or.inl rfl) (pe_call G_turned_back (hr.mono (by decide)) rfl D_turned_back.m D_turned_back.F.kp D_turned_back.b .nil pass0 (pa_cons (pv 0) pa_nil)))
      (pss_cons (ps_asg (pe_tup (pa_cons (pe_lst pa_nil) (pa_cons (pe_lst pa_nil) (pa_cons pe_int (pa_cons pe_int pa_nil))))) (pg_tup rfl (pgs_cons (pg_name (i := 3) sc_joined.nd rfl (Or.inl rfl)) (pgs_cons (pg_name (i := 4) sc_joined.nd rfl (Or.inl rfl)) (pgs_cons (pg_name (i := 5) sc_joined.nd rfl (Or.inl rfl)) (pgs_cons (pg_name (i := 6) sc_joined.nd rfl (Or.inl rfl)) pgs_nil))))))
      (pss_cons (ps_for PassesOwn.never rfl (pi_enum (by rfl) T0.z_enumerate (pa_cons (pe_call G_spans_between (hr.mono (by decide)) rfl D_spans_between.m D_spans_between.F.kp D_spans_between.b .nil pass0 (pa_cons (pv 2) (pa_cons (pv 1) pa_nil))) pa_nil)) (pg_tup rfl (pgs_cons (pg_name (i := 7) sc_joined.nd rfl (Or.inl rfl)) (pgs_cons (pg_tup rfl (pgs_cons (pg_name (i := 8) sc_joined.nd rfl (Or.inl rfl)) (pgs_cons (pg_name (i := 9) sc_joined.nd rfl (Or.inl rfl)) pgs_nil))) pgs_nil)))
        (pss_cons (ps_while PassesOwn.never (PW.pt (pw_and (pt_cmpR op_lt (pv 6) (pe_callB call_len_seq (by rfl) T0.z_len PySem.boot_len (pa_cons (pv 2) pa_nil)) (nomark _)) (pw_and1 (pt_cmpR op_lt (pe_ix ix_tup (pe_ix ix_tup (pv 2) (pv 6) (fun _ _ => rfl)) pe_int (fun _ _ => rfl)) (pv 8) (nomark _)))))
          (pss_cons (ps_aug (i := 5) sc_joined.nd rfl (Or.inl rfl) (pe_op op_sub (pe_callB call_len_seq (by rfl) T0.z_len PySem.boot_len (pa_cons (pe_ix ix_tup (pe_ix ix_tup (pv 0) (pv 6) (fun _ _ => rfl)) pe_int (fun _ _ => rfl)) pa_nil)) (pe_callB call_len_seq (by rfl) T0.z_len PySem.boot_len (pa_cons (pe_ix ix_tup (pe_ix ix_tup (pv 0) (pv 6) (fun _ _ => rfl)) pe_int (fun _ _ => rfl)) pa_nil))) ip_add)
          (pss_one (ps_aug (i := 6) sc_joined.nd rfl (Or.inl rfl) pe_int ip_add))))
        (pss_cons (ps_par (i := 10) (j := 11) (by rfl) sc_joined.nd rfl rfl (by decide) rfl rfl (pa_cons (pe_call G_within (hr.mono (by decide)) rfl D_within.m D_within.F.kp D_within.b .nil pass0 (pa_cons (pv 2) (pa_cons (pv 8) (pa_cons (pv 9) pa_nil)))) (pa_cons (pe_call G_within (hr.mono (by decide)) rfl D_within.m D_within.F.kp D_within.b .nil pass0 (pa_cons (pv 1) (pa_cons (pv 8) (pa_cons (pv 9) pa_nil)))) pa_nil)) (by rfl))
        (pss_cons (ps_set (i := 12) sc_joined.nd rfl (Or.inl rfl) (pe_call G_lines_between (hr.mono (by decide)) rfl D_lines_between.m D_lines_between.F.kp D_lines_between.b .nil pass0 (pa_cons (pe_op op_cat (pv 10) (pv 11)) (pa_cons (pv 8) (pa_cons (pv 9) pa_nil)))))
        (pss_one (ps_if (pt_cmpR op_isN (pv 12) pe_non (nomark _))
          (pss_one (ps_expr (pe_bm PySem.F.plainAttrs_list PySem.F.slot_list_append PySem.F.type_list_append mt_append (pv 4) (pa_cons (pv 7) pa_nil))))
          (pss_cons (ps_par (i := 13) (j := 14) (by rfl) sc_joined.nd rfl rfl (by decide) rfl rfl (pa_cons (pe_call G_rewritten (hr.mono (by decide)) rfl D_rewritten.m D_rewritten.F.kp D_rewritten.b .nil pass0 (pa_cons (pv 12) (pa_cons (pv 8) (pa_cons (pv 10) pa_nil)))) (pa_cons (pe_call G_rewritten (hr.mono (by decide)) rfl D_rewritten.m D_rewritten.F.kp D_rewritten.b .nil pass0 (pa_cons (pv 12) (pa_cons (pv 8) (pa_cons (pv 11) pa_nil)))) pa_nil)) (by rfl))
          (pss_one (ps_if (pt_cmpR (op_neD hr.units) (pv 13) (pv 14) (nomark _))
            (pss_one (ps_expr (pe_bm PySem.F.plainAttrs_list PySem.F.slot_list_append PySem.F.type_list_append mt_append (pv 3) (pa_cons (pe_tup (pa_cons (pe_op op_sub (pv 8) (pv 5)) (pa_cons (pv 13) (pa_cons (pv 14) pa_nil)))) pa_nil))))
            pss_nil)))))))))
      (pss_cons (ps_if (pt_truth (pv 4) (by intro _; rfl))
        pss_never
        pss_nil)
      (pss_one (ps_ret (pe_callTy call_tuple_of (by rfl) T0.z_tuple (by decide +kernel) (pa_cons (pv 3) pa_nil)))))))), ?_⟩
    obtain ⟨M, eM⟩ : ∃ M, M = applyF L 0 f := ⟨_, rfl⟩
    rw [← eM] at ps okM lM lN k
    obtain ⟨B, eB⟩ : ∃ B, B = backF 0 0 f := ⟨_, rfl⟩
    have pB : PtOk M B := by rw [eM, eB]; exact pf.back.1
    rw [← eB] at k
    have lB : B.length = f.length := by rw [eB, back_len]
    refine ⟨_, rfl, a, f, L.length, rfl, hA, by omega, pf.sep, fun H1 v1 s1 d1 => ?_⟩
    rw [← eB] at d1
    obtain ⟨p1, w1, rfl, hp1, dd1⟩ := of_tupD d1
    have aB : applyF M 0 B = L := by rw [eM, eB]; exact pf.back.2.1
    obtain ⟨S, eS⟩ : ∃ S, S = spansF B s := ⟨_, rfl⟩
    obtain ⟨jn1, jn2⟩ := joined_jn pB.sep ps.sep
    rw [← eS] at jn1 jn2
    have asc : Asc M.length 0 S := by rw [eS]; exact spansF_asc (fun h hm => (pB.sep.ge h hm).2) fun h hm => (ps.sep.ge h hm).2
    have apB : apS M B 0 S = L := by rw [← aB, eS]; exact apS_apply _ 0 0 B (Nat.le_refl _) (by rw [← eS]; exact asc) pB.sep fun h hm => spans_cover h (List.mem_append_left _ hm)
    have apN : apS M s 0 S = applyF M 0 s := by rw [eS]; exact apS_apply _ 0 0 s (Nat.le_refl _) (by rw [← eS]; exact asc) ps.sep fun h hm => spans_cover h (List.mem_append_right _ hm)
    have okB : ∀ h ∈ B, OkL h.come := fun h hm => by
      obtain ⟨i, hi, e⟩ := List.getElem_of_mem hm
      have e2 : (backF 0 0 f)[i]? = some h := by rw [← eB, List.getElem?_eq_getElem hi, e]
      obtain ⟨g, hg, _, q⟩ := back_get f 0 0 i h e2
      rw [q]
      exact okf g (List.mem_of_getElem? hg)
    obtain ⟨a', wa, ea, ha, hda⟩ := of_tupD hA
    cases ea
    have lwa : wa.length = f.length := by rw [dpAll_len hda, List.length_map]
    have lw1 : w1.length = B.length := by rw [dpAll_len dd1, List.length_map]
    refine ⟨by show 0 ≤ sizeLine; decide, fun fo hfo => ⟨by show 0 ≤ sizeLine; decide, fun wr hwr => ⟨by show 4 ≤ sizeLine; decide, fun tq htq => ⟨tq, _, rfl, .inl (.inl upd_same), rfl, _, _, rfl, _, _, rfl, _, _, rfl, _, _, rfl, rfl, ?_⟩⟩⟩⟩
    obtain ⟨H2, e2⟩ : ∃ H2, H2 = upd (upd (upd H1 fo (.lst [])) wr (.lst [])) tq (.tup [.ref fo, .ref wr, .int 0, .int 0]) := ⟨_, rfl⟩
    rw [← e2]
    have s12 : Same H1 H2 := by rw [e2]; exact (same_new hfo).trans ((same_new hwr).trans (same_new htq))
    have hfo2 : H2 fo = some (.lst []) := by rw [e2]; exact ((same_new hwr).trans (same_new htq)) _ _ upd_same
    have hwr2 : H2 wr = some (.lst []) := by rw [e2]; exact (same_new htq) _ _ upd_same
    have nfw : fo ≠ wr := by
      rintro rfl
      rw [upd_same] at hwr
      cases hwr
    have d12 := dp_keep (TK.same s12) _ _ (imm_hunks B) d1
    have hB2 := dp_keep (TK.same (s1.trans s12)) _ _ (imm_hunks s) hB
    refine ⟨_, rfl, _, rfl, p1, b, B, s, rfl, d12, hB2, by omega, by omega, fun H3 l ws s23 hl hlw dS => ?_⟩
    rw [← eS] at dS
    have lws : ws.length = S.length := by rw [dpAll_len dS, List.length_map]
    have s03 := s1.trans (s12.trans s23)
    have nlf : l ≠ fo := by rintro rfl; rw [hfo2] at hl; cases hl
    have nlw : l ≠ wr := by rintro rfl; rw [hwr2] at hl; cases hl
    refine ⟨l, ws, rfl, SqL.of hlw, ?_⟩
    have lS : S.length ≤ 1000 := by
      have := spansF_len B s
      rw [eS]
      omega
    refine for_it (walk_enum (xs := ws)) (fun c σ H' => ∃ (t : Nat) (vs : List V) (dn : List Hunk) (x7 x8 x9 x10 x11 x12 x13 x14 : Option V), σ = [some (.ref a), some (.ref b), some (.ref p1), some (.ref fo), some (.ref wr), some (.int (sumD (B.take t))), some (.int (t : Int)), x7, x8, x9, x10, x11, x12, x13, x14] ∧ Same H H' ∧ TK K H3 H' ∧ H' l = some (.lst ws) ∧ H' fo = some (.lst vs) ∧ DpAll K H' vs (dn.map hunkD) ∧ H' wr = some (.lst []) ∧ dn ++ jnF M B s (S.drop c) = joinedF M B s ∧ t ≤ B.length ∧ (∀ h ∈ B.take t, ∀ p ∈ S.drop c, h.start < p.1) ∧ dn.length ≤ c) ?_ (fun c σ H' _ h => ?_) ?_ ?_
    · exact ⟨0, [], [], none, none, none, none, none, none, none, none, rfl, s03, TK.refl _ _, hlw, s23 _ _ hfo2, .nil, s23 _ _ hwr2, jn1.symm, Nat.zero_le _, (fun h hm => by cases hm), Nat.le_refl _⟩
    · obtain ⟨_, _, _, _, _, _, _, _, _, _, _, _, _, _, h, _⟩ := h
      exact SqL.of h
    · rintro c x σ H5 H6o hc ⟨t, vs, dn, x7, x8, x9, x10, x11, x12, x13, x14, rfl, sm, tk, hl5, hv, hdd, hw5, hjn, ht, hlt, hdn⟩ ⟨T, _, x', rfl, hT, rfl, hx0, hx⟩
      cases hx0
      have hcf : c < S.length := by rw [← lws]; exact hc
      obtain ⟨⟨lo, hi⟩, ep⟩ : ∃ p, p = S[c] := ⟨_, rfl⟩
      have hf : S[c]? = some (lo, hi) := by rw [List.getElem?_eq_getElem hcf, ep]
      have hpm : (lo, hi) ∈ S := List.mem_of_getElem? hf
      obtain ⟨_, g2, g3⟩ := asc.ge _ hpm
      have g2 : lo ≤ hi := g2
      have g3 : hi ≤ M.length := g3
      have ed : S.drop c = (lo, hi) :: S.drop (c + 1) := by rw [List.drop_eq_getElem_cons hcf, ← ep]
      have sT : Same H5 (upd H5 T (.tup [.int (c : Nat), x'])) := same_new hT
      obtain ⟨v, hv1, hv2⟩ := dpAll_at (pairs_keep (tk.trans (TK.same sT)) dS) (k := c) (d := pairD (lo, hi)) (by rw [List.getElem?_map, hf]; rfl)
      obtain rfl : v = x' := Option.some.inj (hv1.symm.trans hx)
      obtain ⟨z, rfl, hz⟩ := of_pair hv2
      refine ⟨T, _, rfl, .inl (.inl upd_same), rfl, _, _, rfl, _, _, rfl, ⟨z, _, rfl, hz, rfl, _, _, rfl, _, _, rfl, rfl, ?_⟩⟩
      refine ⟨rfl, ?_⟩
      obtain ⟨H6, e6⟩ : ∃ H6, H6 = upd H5 T (.tup [.int (c : Nat), .ref z]) := ⟨_, rfl⟩
      rw [← e6] at sT ⊢
      have sm6 := sm.trans sT
      have s16 : TK K H1 H6 := ((TK.same (s12.trans s23)).trans tk).trans (TK.same sT)
      have hp16 := s16 _ _ hp1
      have dd16 := hunks_keep s16 dd1
      have ha6 := sm6.seqT ha
      have hda6 := hunks_keep (TK.same sm6) hda
      rw [ed] at hlt
      have hlt0 : ∀ h ∈ B.take t, h.start < lo := fun h hm => hlt h hm (lo, hi) (List.mem_cons_self ..)
      -- while
      refine cut (fun σ' H' => ∃ t : Nat, σ' = [some (.ref a), some (.ref b), some (.ref p1), some (.ref fo), some (.ref wr), some (.int (sumD (B.take t))), some (.int (t : Int)), some (.int (c : Int)), some (.int (lo : Int)), some (.int (hi : Int)), x10, x11, x12, x13, x14] ∧ H' = H6 ∧ t ≤ B.length ∧ (∀ h ∈ B.take t, h.start < lo) ∧ ∀ h, B[t]? = some h → lo ≤ h.start) (fun nx hn => ?_) ?_
      · refine ⟨fun m σ H' => ∃ t : Nat, m = B.length - t ∧ σ = [some (.ref a), some (.ref b), some (.ref p1), some (.ref fo), some (.ref wr), some (.int (sumD (B.take t))), some (.int (t : Int)), some (.int (c : Int)), some (.int (lo : Int)), some (.int (hi : Int)), x10, x11, x12, x13, x14] ∧ H' = H6 ∧ t ≤ B.length ∧ (∀ h ∈ B.take t, h.start < lo), ⟨_, t, rfl, rfl, rfl, ht, hlt0⟩, ?_⟩
        rintro m σ H' ⟨t, rfl, rfl, rfl, ht, hlt0⟩
        refine ⟨_, rfl, _, rfl, p1, _, rfl, .inr hp16, _, _, rfl, rfl, _, rfl, ?_⟩
        rw [lw1]
        refine ite2 (fun e => ?_) (fun e => ?_)
        · have htl : t < B.length := by
            have := of_decide_eq_true e
            omega
          obtain ⟨h, eh⟩ : ∃ h, h = B[t] := ⟨_, rfl⟩
          have hbt : B[t]? = some h := by rw [List.getElem?_eq_getElem htl, eh]
          obtain ⟨v, hv1, hv2⟩ := dpAll_at dd16 (k := t) (d := hunkD h) (by rw [List.getElem?_map, hbt]; rfl)
          obtain ⟨z1, g1, m1, rfl, hz1, hg1, hm1⟩ := of_hunk hv2
          refine ⟨_, rfl, _, rfl, p1, _, _, _, rfl, rfl, hp16, atI_nat hv1, z1, _, _, _, rfl, rfl, hz1, at_head, _, rfl, _, _, rfl, rfl, _, rfl, ?_⟩
          refine ite2 (fun e => ?_) (fun e => ?_)
          · have hsl : h.start < lo := by
              have := of_decide_eq_true e
              omega
            obtain ⟨hf', ef, eg1, eg2⟩ := back_get f 0 0 t h (by rw [← eB]; exact hbt)
            obtain ⟨v', hv1', hv2'⟩ := dpAll_at hda6 (k := t) (d := hunkD hf') (by rw [List.getElem?_map, ef]; rfl)
            obtain ⟨z2, g2', m2, rfl, hz2, hg2, hm2⟩ := of_hunk hv2'
            refine ⟨fun σ' H' => ∃ m', m' < B.length - t ∧ ∃ t : Nat, m' = B.length - t ∧ σ' = [some (.ref a), some (.ref b), some (.ref p1), some (.ref fo), some (.ref wr), some (.int (sumD (B.take t))), some (.int (t : Int)), some (.int (c : Int)), some (.int (lo : Int)), some (.int (hi : Int)), x10, x11, x12, x13, x14] ∧ H' = _ ∧ t ≤ B.length ∧ (∀ h ∈ B.take t, h.start < lo), fun _ _ h => h, ?_⟩
            refine ⟨_, rfl, _, rfl, _, rfl, a, _, _, _, rfl, rfl, ha6, atI_nat hv1', z2, _, _, _, rfl, rfl, hz2, rfl, m2, _, rfl, .inr hm2, _, rfl, _, rfl, a, _, _, _, rfl, rfl, ha6, atI_nat hv1', z2, _, _, _, rfl, rfl, hz2, rfl, g2', _, rfl, .inr hg2, _, _, rfl, rfl, ?_⟩
            refine ⟨_, _, rfl, rfl, ?_⟩
            refine ⟨_, rfl, _, _, rfl, rfl, ?_⟩
            refine ⟨_, by omega, t + 1, rfl, ?_, rfl, htl, fun y hy => ?_⟩
            · have e3 := sumD_take hbt
              rw [eg1, eg2] at e3
              rw [e3]
              show [_, _, _, _, _, some (V.int (sumD (B.take t) + (((hf'.come.map V.str).length : Int) - ((hf'.gone.map V.str).length : Int)))), _, _, _, _, _, _, _, _, _] = _
              rw [List.length_map, List.length_map]
              rfl
            · rw [List.take_succ, hbt] at hy
              rcases List.mem_append.mp hy with hy | hy
              · exact hlt0 y hy
              · have hy : y ∈ [h] := hy
                rw [List.mem_singleton.mp hy]; exact hsl
          · exact hn _ _ ⟨t, rfl, rfl, ht, hlt0, fun y hy => by
              rw [hbt] at hy
              have hy := Option.some.inj hy
              subst hy
              by_cases q : lo ≤ h.start
              · exact q
              · exact absurd (decide_eq_true (by omega)) e⟩
        · exact hn _ _ ⟨t, rfl, rfl, ht, hlt0, fun y hy => by
            have := (List.getElem?_eq_some_iff.mp hy).1
            exact absurd (decide_eq_true (by omega)) e⟩
      rintro σ7 H7 ⟨t, rfl, rfl, ht, hlt0, hge⟩
      have emv : sumD (B.take t) = mvF B lo := by
        unfold mvF
        rw [take_filter pB.sep.pw hlt0 hge]
      have hB6 : Dp K H7 (.ref p1) (hunksD B) := .tup hp16 dd16
      have hs6 := dp_keep (TK.same sm6) _ _ (imm_hunks s) hB
      have nfT : ∀ q, H7 q = none → q ≠ l := fun q hq e => by
        rw [e, sT _ _ hl5] at hq
        cases hq
      refine ⟨_, rfl, _, rfl, _, rfl, p1, B, lo, hi, rfl, hB6, by omega, fun H8 l1 u1 s8 hn1 hl1 hd1 => ?_⟩
      refine ⟨_, rfl, _, rfl, _, rfl, b, s, lo, hi, rfl, dp_keep (TK.same s8) _ _ (imm_hunks s) hs6, by omega, fun H9 l2 u2 s9 hn2 hl2 hd2 => ?_⟩
      refine ⟨_, _, rfl, ?_⟩
      have lu1 : u1.length ≤ 500 := by
        rw [dpAll_len hd1, List.length_map]
        have := List.length_filter_le (fun h : Hunk => decide (lo ≤ h.start) && decide (h.start + h.gone.length ≤ hi)) B
        unfold withinF
        omega
      have lu2 : u2.length ≤ 500 := by
        rw [dpAll_len hd2, List.length_map]
        have := List.length_filter_le (fun h : Hunk => decide (lo ≤ h.start) && decide (h.start + h.gone.length ≤ hi)) s
        unfold withinF
        omega
      have hl19 := s9 _ _ hl1
      have hd19 := hunks_keep (TK.same s9) hd1
      refine ⟨_, rfl, _, rfl, l1, l2, u1, u2, rfl, rfl, hl19, hl2, Nat.le_trans (show u1.length + u2.length ≤ 1000 by omega) (by decide), fun q hq => ?_⟩
      have sq := same_new (o := .lst (u1 ++ u2)) hq
      obtain ⟨H10, e10⟩ : ∃ H10, H10 = upd H9 q (.lst (u1 ++ u2)) := ⟨_, rfl⟩
      rw [← e10] at sq ⊢
      have hq10 : H10 q = some (.lst (u1 ++ u2)) := by rw [e10, upd_same]
      have dq10 : DpAll K H10 (u1 ++ u2) ((withinF B lo hi ++ withinF s lo hi).map hunkD) := by
        rw [List.map_append]
        exact dpAll_app (hunks_keep (TK.same sq) hd19) (hunks_keep (TK.same sq) hd2)
      refine ⟨_, rfl, _, rfl, q, withinF B lo hi ++ withinF s lo hi, u1 ++ u2, lo, hi, M, rfl, hq10, dq10, g2, g3, by omega, fun h hm => ?_, fun kk k1 k2 => ?_, fun H11 ml s11 hml => ?_⟩
      · rcases List.mem_append.mp hm with hm | hm
        · obtain ⟨q1, q2, q3⟩ := within_mem hm
          exact ⟨q2, q3, pB.fit h q1⟩
        · obtain ⟨q1, q2, q3⟩ := within_mem hm
          exact ⟨q2, q3, ps.fit h q1⟩
      · obtain ⟨h, hm, q1, q2, q3, q4⟩ := spans_pt (lo, hi) (by rw [← eS]; exact hpm) kk k1 k2
        refine ⟨h, ?_, q1, q2⟩
        have inw : ∀ X : List Hunk, h ∈ X → h ∈ withinF X lo hi := fun X hX => List.mem_filter.mpr ⟨hX, by
          rw [decide_eq_true (show lo ≤ h.start from q3), decide_eq_true (show h.start + h.gone.length ≤ hi from q4)]; rfl⟩
        rcases List.mem_append.mp hm with hm | hm
        · exact List.mem_append_left _ (inw B hm)
        · exact List.mem_append_right _ (inw s hm)
      refine ⟨_, rfl, rfl, _, rfl, ?_⟩
      refine iteF ?_
      have l10 := sq _ _ hl19
      have l20 := sq _ _ hl2
      have d10 := hunks_keep (TK.same sq) hd19
      have d20 := hunks_keep (TK.same sq) hd2
      have b1 : (sideF M B lo hi).length ≤ 50000 := by
        have := apS_mem (M := M) (f := B) (here := 0) hpm
        rw [apB] at this
        exact Nat.le_trans this lL
      have b2 : (sideF M s lo hi).length ≤ 50000 := by
        have := apS_mem (M := M) (f := s) (here := 0) hpm
        rw [apN] at this
        exact Nat.le_trans this lN
      refine ⟨_, rfl, _, rfl, _, rfl, ml, l1, cutL M lo hi, withinF B lo hi, u1, lo, rfl, hml, s11 _ _ l10, hunks_keep (TK.same s11) d10, fun h hm => (within_mem hm).2.1, Nat.le_trans b1 (by decide), fun H12 po s12' hpo => ?_⟩
      refine ⟨_, rfl, _, rfl, _, rfl, ml, l2, cutL M lo hi, withinF s lo hi, u2, lo, rfl, s12' _ _ hml, s12' _ _ (s11 _ _ l20), hunks_keep (TK.same (s11.trans s12')) d20, fun h hm => (within_mem hm).2.1, Nat.le_trans b2 (by decide), fun H13 pn s13 hpn => ?_⟩
      refine ⟨_, _, rfl, ?_⟩
      have hpo : SqT K H13 po ((sideF M B lo hi).map V.str) := s13.seqT hpo
      have hpn : SqT K H13 pn ((sideF M s lo hi).map V.str) := hpn
      have s7_13 : Same H7 H13 := s8.trans (s9.trans (sq.trans (s11.trans (s12'.trans s13))))
      have s5_13 : Same H5 H13 := sT.trans s7_13
      have ok1 : OkL (sideF M B lo hi) := side_all (fun x => PyData.strOk x = true) okM okB lo hi
      have ok2 : OkL (sideF M s lo hi) := side_all (fun x => PyData.strOk x = true) okM oks lo hi
      rw [ed, jnF] at hjn
      have hlt' : ∀ h ∈ B.take t, ∀ p ∈ S.drop (c + 1), h.start < p.1 := fun h hm p hp => by
        have q1 := hlt0 h hm
        have q2 : Asc M.length 0 (S.drop c) := by
          have : ∀ (S : List (Nat × Nat)) (i c : Nat), Asc M.length i S → Asc M.length 0 (S.drop c) := by
            intro S
            induction S with
            | nil => intro i c _; rw [List.drop_nil]; trivial
            | cons p r ih =>
              intro i c h
              cases c with
              | zero => exact Asc.le (Nat.zero_le _) h
              | succ c => exact ih _ c h.2.2.2
          exact this S 0 c asc
        rw [ed] at q2
        have q3 := (q2.2.2.2.ge p hp).1
        have q3 : hi + 1 ≤ p.1 := q3
        omega
      refine ⟨_, rfl, _, rfl, ne_lines hpo hpn ok1 ok2 ⟨_, rfl, ?_⟩⟩
      refine ite2 (fun e => ?_) (fun e => ?_)
      · have ne : sideF M B lo hi ≠ sideF M s lo hi := by
          intro q
          rw [decide_eq_true q] at e
          cases e
        rw [if_neg ne, ← List.append_assoc] at hjn
        have lvs : vs.length < sizeLine := by
          rw [dpAll_len hdd, List.length_map]
          exact Nat.lt_of_le_of_lt (show dn.length ≤ 1000 by omega) (by decide)
        have hv13 := s5_13 _ _ hv
        have eio : ([.int ((((lo : Int) - mvF B lo).toNat : Nat) : Int), .ref po, .ref pn] : List V) = [.int ((lo : Int) - sumD (B.take t)), .ref po, .ref pn] := by
          rw [emv, Int.toNat_of_nonneg (jn2 (lo, hi) hpm)]
        refine ⟨_, rfl, .inl ⟨rfl, _, SqL.of hv13⟩, _, rfl, _, rfl, _, _, rfl, rfl, _, rfl, _, rfl, by show 3 ≤ sizeLine; decide, fun r hr => ?_⟩
        have h2 : upd H13 r (.tup [.int ((lo : Int) - sumD (B.take t)), .ref po, .ref pn]) fo = some (.lst vs) := by rw [upd_ne (ne_of_none hv13 hr)]; exact hv13
        refine ⟨fo, vs, _, rfl, rfl, h2, lvs, ?_⟩
        have tk2 := (TK.new (K := K) (o := .tup [.int ((lo : Int) - sumD (B.take t)), .ref po, .ref pn]) hr).trans (TK.lst (o := .lst (vs ++ [.ref r])) h2)
        have sr := same_new (o := .tup [.int ((lo : Int) - sumD (B.take t)), .ref po, .ref pn]) hr
        have nlr : ∀ a : Addr, a ≠ fo → ∀ o, H13 a = some o → upd (upd H13 r (.tup [.int ((lo : Int) - sumD (B.take t)), .ref po, .ref pn])) fo (.lst (vs ++ [.ref r])) a = some o := fun a' n o q => by
          rw [upd_ne n]; exact sr _ _ q
        have nfo : H fo = none := by
          cases q : H fo with
          | none => rfl
          | some o => rw [s1 _ _ q] at hfo; cases hfo
        refine ⟨t, vs ++ [.ref r], dn ++ [⟨((lo : Int) - mvF B lo).toNat, sideF M B lo hi, sideF M s lo hi⟩], _, _, _, _, _, _, _, _, rfl, same_mut ((sm.trans s5_13).trans sr) nfo, (tk.trans (TK.same s5_13)).trans tk2, nlr l nlf _ (s5_13 _ _ hl5), upd_same, ?_, nlr wr (Ne.symm nfw) _ (s5_13 _ _ hw5), hjn, ht, hlt', ?_⟩
        · rw [List.map_append]
          exact dpAll_app (hunks_keep ((TK.same s5_13).trans tk2) hdd) (dpAll_one (dp_hunk (h := ⟨((lo : Int) - mvF B lo).toNat, sideF M B lo hi, sideF M s lo hi⟩) (b := po) (c := pn) (by show SqT K _ _ [.int ((((lo : Int) - mvF B lo).toNat : Nat) : Int), .ref po, .ref pn]; rw [eio]; exact TK.lst h2 _ _ (.inl (.inl upd_same))) (tk2 _ _ hpo) (tk2 _ _ hpn)))
        · rw [List.length_append]; exact Nat.succ_le_succ hdn
      · have eq : sideF M B lo hi = sideF M s lo hi := by
          by_cases q : sideF M B lo hi = sideF M s lo hi
          · exact q
          · rw [decide_eq_false q] at e; exact absurd rfl e
        rw [if_pos eq, List.nil_append] at hjn
        exact ⟨t, vs, dn, _, _, _, _, _, _, _, _, rfl, sm.trans s5_13, tk.trans (TK.same s5_13), s5_13 _ _ hl5, s5_13 _ _ hv, hunks_keep (TK.same s5_13) hdd, s5_13 _ _ hw5, hjn, ht, hlt', Nat.le_succ_of_le hdn⟩
    · rintro σ H5 ⟨t, vs, dn, x7, x8, x9, x10, x11, x12, x13, x14, rfl, sm, tk, hl5, hv, hdd, hw5, hjn, ht, hlt, hdn⟩
      rw [lws, List.drop_length, jnF, List.append_nil] at hjn
      subst hjn
      refine ⟨_, rfl, false, .inl ⟨_, SqL.of hw5, rfl⟩, ?_⟩
      refine iteF ?_
      refine ⟨_, rfl, fo, _, rfl, .inl ⟨SqL.of hv, fun q hq => ?_⟩⟩
      exact k _ _ (sm.trans (same_new hq)) (.tup (.inl (.inl upd_same)) (hunks_keep (TK.new hq) hdd))
end
end VK
end

section
set_option Elab.async false
set_option linter.all false
set_option pp.maxSteps 1500
set_option maxRecDepth 100000
set_option maxHeartbeats 4000000
namespace VK
open PySem L2
abbrev s_put_on : Stmt := topS 13
theorem sc_put_on : FnScope ["lines", "patch", "wrong", "number", "start", "gone", "_", "found", "here", "come"] ["lines", "patch"] (defScope s_put_on) := ⟨rfl, rfl, rfl, by decide +kernel, rfl, by decide +kernel, by decide +kernel⟩
abbrev natsV (l : List Nat) : List V := l.map fun n : Nat => V.int (n : Int)
def badH (ls : List Str) (h : Hunk) : Bool := decide (ls.length < h.start) || !decide (cutL ls h.start (h.start + h.gone.length) = h.gone)
/-- the numbers of the changes that do not fit -/
def wrongH (ls : List Str) : Nat → List Hunk → List Nat
  | _, [] => []
  | i, h :: r => (if badH ls h = true then [i] else []) ++ wrongH ls (i + 1) r
theorem wrongH_app (ls : List Str) : ∀ (a b : List Hunk) (i : Nat), wrongH ls i (a ++ b) = wrongH ls i a ++ wrongH ls (i + a.length) b
  | [], b, i => rfl
  | h :: r, b, i => by
    rw [List.cons_append, wrongH, wrongH, wrongH_app ls r, List.length_cons, List.append_assoc]
    congr 3
    omega
theorem wrongH_len (ls : List Str) : ∀ (a : List Hunk) (i : Nat), (wrongH ls i a).length ≤ a.length
  | [], i => Nat.le_refl _
  | h :: r, i => by
    have q := wrongH_len ls r (i + 1)
    rw [wrongH, List.length_append, List.length_cons]
    split
    · show 1 + _ ≤ _; omega
    · show 0 + _ ≤ _; omega
def spPutX (K : PySem.W.Frag) (C : Addr) : Sp := fun vs H Q E => ∃ (a b : Addr) (ls : List Str) (hs : List Hunk), vs = [.ref a, .ref b] ∧ SqT K H a (ls.map V.str) ∧ Dp K H (.ref b) (hunksD hs) ∧ OkL ls ∧ (∀ h ∈ hs, OkL h.gone) ∧ ls.length ≤ 50000 ∧ hs.length ≤ 1000 ∧
  (wrongH ls 0 hs = [] → (applyF ls 0 hs).length ≤ 100000 ∧ ∀ (H' : Hp) (p : Addr), Same H H' → SqT K H' p ((applyF ls 0 hs).map V.str) → Q (.ref p) H') ∧
  (wrongH ls 0 hs ≠ [] → ∀ (H' : Hp) (d t : Addr), Same H H' → H' d = some (.xd [(("paths" : Str), .ref t)]) → SqT K H' t (natsV (wrongH ls 0 hs)) → E (.ref C) (some d) H')
section
variable {P : Program} {w : World} {K : PySem.W.Frag} {mg : Str → Option Value} {base : Heap}
theorem ok_putx {f CC fI : Addr} {fd : FuncData} (F : Fun K "put_on" "put_on" s_put_on f fd) (T0 : Txt0 mg) (T : PySem.CfX.CfTxt P K mg CC fI) : FnOk P w K mg base (L2N.CX P w) 1 f fd ["lines", "patch"] (spPutX K CC) := by
  refine okXN F sc_put_on (fun vs H Q E h => ?_) (fun cdv A outer s H vs Q E hr h => ?_)
  · obtain ⟨a, b, ls, hs, rfl, _⟩ := h
    rfl
  · obtain ⟨a, b, ls, hs, rfl, hA, hB, hok, hokg, hl1, hl2, kQ, kE⟩ := h
    refine ⟨_, (pss_cons (ps_set (i := 2) sc_put_on.nd rfl (Or.inl rfl) (pe_lst pa_nil))
      (pss_cons (ps_for (passes_of rfl) rfl (pi_enumT (by rfl) T0.z_enumerate (pa_cons (pv 1) pa_nil)) (pg_tup rfl (pgs_cons (pg_name (i := 3) sc_put_on.nd rfl (Or.inl rfl)) (pgs_cons (pg_tup rfl (pgs_cons (pg_name (i := 4) sc_put_on.nd rfl (Or.inl rfl)) (pgs_cons (pg_name (i := 5) sc_put_on.nd rfl (Or.inl rfl)) (pgs_cons (pg_name (i := 6) sc_put_on.nd rfl (Or.inl rfl)) pgs_nil)))) pgs_nil)))
        (pss_one (ps_if (PW.pt (pw_or (pt_cmpR op_gt (pv 4) (pe_callB call_len_seq (by rfl) T0.z_len PySem.boot_len (pa_cons (pv 0) pa_nil)) (nomark _)) (pw_or1 (pt_cmpR (op_neD hr.units) (pe_callTy call_tupleT (by rfl) T0.z_tuple (by decide +kernel) (pa_cons (pe_slice sl_tupA (pv 0) (po_some (pv 4)) (po_some (pe_op op_add (pv 4) (pe_callB call_len_seq (by rfl) T0.z_len PySem.boot_len (pa_cons (pv 5) pa_nil))))) pa_nil)) (pv 5) (nomark _)))))
          (pss_one (ps_expr (pe_bm PySem.F.plainAttrs_list PySem.F.slot_list_append PySem.F.type_list_append mt_append (pv 2) (pa_cons (pv 3) pa_nil))))
          pss_nil)))
      (pss_cons (ps_if (pt_truth (pv 2) (by intro _; rfl))
        (pss_one (L2N.ps_raise rfl (L2N.takes_of rfl rfl rfl rfl) (pmk_cf T hr (by exact (pa_cons (pe_callTy call_tuple_of (by rfl) T0.z_tuple (by decide +kernel) (pa_cons (pv 2) pa_nil)) pa_nil)))))
        pss_nil)
      (pss_cons (ps_asg (pe_tup (pa_cons (pe_tup pa_nil) (pa_cons pe_int pa_nil))) (pg_tup rfl (pgs_cons (pg_name (i := 7) sc_put_on.nd rfl (Or.inl rfl)) (pgs_cons (pg_name (i := 8) sc_put_on.nd rfl (Or.inl rfl)) pgs_nil))))
      (pss_cons (ps_for (passes_of rfl) rfl (pi_tup (pv 1)) (pg_tup rfl (pgs_cons (pg_name (i := 4) sc_put_on.nd rfl (Or.inl rfl)) (pgs_cons (pg_name (i := 5) sc_put_on.nd rfl (Or.inl rfl)) (pgs_cons (pg_name (i := 9) sc_put_on.nd rfl (Or.inl rfl)) pgs_nil))))
        (pss_cons (ps_set (i := 7) sc_put_on.nd rfl (Or.inl rfl) (pe_op op_catA (pe_op op_catA (pv 7) (pe_callTy call_tupleT (by rfl) T0.z_tuple (by decide +kernel) (pa_cons (pe_slice sl_tupA (pv 0) (po_some (pv 8)) (po_some (pv 4))) pa_nil))) (pv 9)))
        (pss_one (ps_set (i := 8) sc_put_on.nd rfl (Or.inl rfl) (pe_op op_add (pv 4) (pe_callB call_len_seq (by rfl) T0.z_len PySem.boot_len (pa_cons (pv 5) pa_nil)))))))
      (pss_one (ps_ret (pe_op op_catA (pv 7) (pe_callTy call_tupleT (by rfl) T0.z_tuple (by decide +kernel) (pa_cons (pe_slice sl_tupA (pv 0) (po_some (pv 8)) po_none) pa_nil)))))))))), ?_⟩
    obtain ⟨b', ws, eb, hb, hd⟩ := of_tupD hB
    cases eb
    have ln : ws.length = hs.length := by rw [dpAll_len hd, List.length_map]
    refine ⟨by show 0 ≤ sizeLine; decide, fun wr hwr => ?_⟩
    have s0 : Same H (upd H wr (.lst [])) := same_new hwr
    refine ⟨_, rfl, b, ws, rfl, s0.seqT hb, ?_⟩
    refine for_it (walk_enumT (xs := ws)) (fun c σ H' => ∃ (x3 x4 x5 x6 : Option V), σ = [some (.ref a), some (.ref b), some (.ref wr), x3, x4, x5, x6, none, none, none] ∧ Same H H' ∧ H' wr = some (.lst (natsV (wrongH ls 0 (hs.take c))))) ?_ (fun c σ H' _ h => ?_) ?_ ?_
    · exact ⟨none, none, none, none, rfl, s0, upd_same⟩
    · obtain ⟨x3, x4, x5, x6, rfl, h1, h2⟩ := h
      exact h1.seqT hb
    · rintro c x σ H5 H6 hc ⟨x3, x4, x5, x6, rfl, sm, hwr5⟩ ⟨T, x', rfl, hT, rfl, hx⟩
      have hcf : c < hs.length := by rw [← ln]; exact hc
      obtain ⟨h, eh⟩ : ∃ h, h = hs[c] := ⟨_, rfl⟩
      have hrt : hs[c]? = some h := by rw [List.getElem?_eq_getElem hcf, eh]
      have sT : Same H5 (upd H5 T (.tup [.int (c : Nat), x'])) := same_new hT
      have sm6 := sm.trans sT
      obtain ⟨v, hv1, hv2⟩ := dpAll_at (hunks_keep (TK.same sm6) hd) (k := c) (d := hunkD h) (by rw [List.getElem?_map, hrt]; rfl)
      obtain rfl : v = x' := Option.some.inj (hv1.symm.trans hx)
      obtain ⟨z, g, m, rfl, hz, hg, hm⟩ := of_hunk hv2
      refine ⟨T, _, rfl, .inl (.inl upd_same), rfl, _, _, rfl, _, _, rfl, ⟨z, _, rfl, hz, rfl, _, _, rfl, _, _, rfl, _, _, rfl, rfl, rfl, ?_⟩⟩
      have hwr6 : upd H5 T (.tup [.int (c : Nat), .ref z]) wr = some (.lst (natsV (wrongH ls 0 (hs.take c)))) := sT _ _ hwr5
      have okg : OkL h.gone := hokg h (List.mem_of_getElem? hrt)
      have etk : hs.take (c + 1) = hs.take c ++ [h] := by rw [List.take_succ, hrt]; rfl
      have ltk : (hs.take c).length = c := by rw [List.length_take]; omega
      have ew : wrongH ls 0 (hs.take (c + 1)) = wrongH ls 0 (hs.take c) ++ (if badH ls h = true then [c] else []) := by
        rw [etk, wrongH_app, ltk, Nat.zero_add, wrongH, wrongH, List.append_nil]
      have lwr : (natsV (wrongH ls 0 (hs.take c))).length < sizeLine := by
        have q := wrongH_len ls (hs.take c) 0
        rw [ltk] at q
        rw [List.length_map]
        exact Nat.lt_of_le_of_lt (show _ ≤ 1000 by omega) (by decide)
      have go : ∀ H7 : Hp, Same H H7 → H7 wr = some (.lst (natsV (wrongH ls 0 (hs.take c)))) → badH ls h = true → upd H7 wr (.lst (natsV (wrongH ls 0 (hs.take c)) ++ [.int (c : Int)])) wr = some (.lst (natsV (wrongH ls 0 (hs.take (c + 1))))) := fun H7 _ _ e => by
        rw [upd_same, ew, if_pos e]
        unfold natsV
        rw [List.map_append]
        rfl
      refine ⟨_, rfl, _, rfl, a, _, rfl, .inr (sm6.seqT hA), _, _, rfl, rfl, _, rfl, ?_⟩
      refine ite2 (fun e => ?_) (fun e => ?_)
      · have hb' : badH ls h = true := by
          have q := of_decide_eq_true e
          rw [List.length_map] at q
          unfold badH
          rw [decide_eq_true (show ls.length < h.start by omega)]
          rfl
        refine iteT ?_
        refine ⟨_, rfl, .inl ⟨rfl, _, SqL.of hwr6⟩, _, rfl, wr, _, _, rfl, rfl, hwr6, lwr, ?_⟩
        exact ⟨_, _, _, _, rfl, same_mut sm6 hwr, go _ sm6 hwr6 hb'⟩
      · have nb : ¬ ls.length < h.start := fun q => e (decide_eq_true (by rw [List.length_map]; omega))
        refine ⟨_, rfl, _, rfl, _, rfl, _, rfl, _, rfl, g, _, rfl, .inr hg, _, _, rfl, rfl, ((h.start + h.gone.length : Nat) : Int), congrArg V.int (by rw [List.length_map]; exact (Int.natCast_add ..).symm), sl_lines (sm6.seqT hA) fun H7 q s7 hq => ⟨q, _, rfl, hq, _, rfl, ?_⟩⟩
        have okc : OkL (cutL ls h.start (h.start + h.gone.length)) := fun y hy => hok y (cutL_sub hy)
        refine ne_lines hq (s7.seqT hg) okc okg ⟨_, rfl, ?_⟩
        have hwr7 := s7 _ _ hwr6
        have sm7 := sm6.trans s7
        refine ite2 (fun e => ?_) (fun e => ?_)
        · have hb' : badH ls h = true := by
            unfold badH
            rw [e, Bool.or_true]
          refine ⟨_, rfl, .inl ⟨rfl, _, SqL.of hwr7⟩, _, rfl, wr, _, _, rfl, rfl, hwr7, lwr, ?_⟩
          exact ⟨_, _, _, _, rfl, same_mut sm7 hwr, go _ sm7 hwr7 hb'⟩
        · have hb' : badH ls h = false := by
            unfold badH
            rw [decide_eq_false nb, Bool.false_or]
            cases q : !decide (cutL ls h.start (h.start + h.gone.length) = h.gone) with
            | false => rfl
            | true => exact absurd q e
          refine ⟨_, _, _, _, rfl, sm7, ?_⟩
          rw [ew, hb']
          rw [if_neg (by decide), List.append_nil]
          exact hwr7
    · rintro σ H5 ⟨x3, x4, x5, x6, rfl, sm, hwr5⟩
      rw [ln, List.take_length] at hwr5
      refine ⟨_, rfl, !(natsV (wrongH ls 0 hs)).isEmpty, .inl ⟨_, SqL.of hwr5, rfl⟩, ?_⟩
      by_cases hw : wrongH ls 0 hs = []
      rotate_left
      · have e : (!(natsV (wrongH ls 0 hs)).isEmpty) = true := by
          cases q : wrongH ls 0 hs with
          | nil => exact absurd q hw
          | cons _ _ => rfl
        rw [e]
        refine iteT ?_
        refine ⟨_, rfl, wr, _, rfl, .inl ⟨SqL.of hwr5, fun wt hwt => ?_⟩⟩
        refine ⟨_, rfl, fun d hd' => ?_⟩
        exact kE hw _ d wt (sm.trans ((same_new hwt).trans (same_new hd'))) upd_same ((same_new hd').seqT (.inl (.inl upd_same)))
      obtain ⟨hlen, k⟩ := kQ hw
      have e : (!(natsV (wrongH ls 0 hs)).isEmpty) = false := by rw [hw]; rfl
      rw [e]
      refine iteF ?_
      refine ⟨by show 0 ≤ sizeLine; decide, fun fo hfo => ⟨by show 2 ≤ sizeLine; decide, fun tq htq => ⟨tq, _, rfl, .inl (.inl upd_same), rfl, _, _, rfl, _, _, rfl, rfl, ?_⟩⟩⟩
      have s1 : Same (upd H5 fo (.tup [])) (upd (upd H5 fo (.tup [])) tq (.tup [.ref fo, .int 0])) := same_new htq
      have s06 : Same H (upd (upd H5 fo (.tup [])) tq (.tup [.ref fo, .int 0])) := sm.trans ((same_new hfo).trans s1)
      refine ⟨_, rfl, b, rfl, ⟨_, s06.seqT hb⟩, ?_⟩
      refine for_it (walk_tup (xs := ws)) (fun c σ H' => ∃ (i : Nat) (q : Addr) (fs : List Str) (x3 x4 x5 x6 x9 : Option V), σ = [some (.ref a), some (.ref b), some (.ref wr), x3, x4, x5, x6, some (.ref q), some (.int (i : Int)), x9] ∧ Same H H' ∧ SqT K H' q (fs.map V.str) ∧ fs ++ applyF ls i (hs.drop c) = applyF ls 0 hs) ?_ (fun c σ H' _ h => ?_) ?_ ?_
      · exact ⟨0, fo, [], _, _, _, _, _, rfl, s06, s1.seqT (.inl (.inl upd_same)), rfl⟩
      · obtain ⟨i, q, fs, x3, x4, x5, x6, x9, rfl, h1, h2, h3⟩ := h
        exact h1.seqT hb
      · rintro c x σ H5o H6 hc ⟨i, q, fs, x3, x4, x5, x6, x9, rfl, sm6, hq, hp⟩ ⟨rfl, hx⟩
        have hcf : c < hs.length := by rw [← ln]; exact hc
        obtain ⟨h, ht⟩ : ∃ h, h = hs[c] := ⟨_, rfl⟩
        have hf : hs[c]? = some h := by rw [List.getElem?_eq_getElem hcf, ht]
        obtain ⟨v, hv1, hv2⟩ := dpAll_at (hunks_keep (TK.same sm6) hd) (k := c) (d := hunkD h) (by rw [List.getElem?_map, hf]; rfl)
        obtain rfl : v = x := Option.some.inj (hv1.symm.trans hx)
        obtain ⟨z, g, m, rfl, hz, hg, hm⟩ := of_hunk hv2
        have ed : hs.drop c = h :: hs.drop (c + 1) := by rw [List.drop_eq_getElem_cons hcf, ← ht]
        rw [ed, applyF] at hp
        have hl := congrArg List.length hp
        simp only [List.length_append] at hl
        refine ⟨z, _, rfl, hz, rfl, _, _, rfl, _, _, rfl, _, _, rfl, rfl, ?_⟩
        refine ⟨_, rfl, _, rfl, _, rfl, _, rfl, _, rfl, _, rfl, sl_lines (sm6.seqT hA) fun H7 p s7 hp7 => ?_⟩
        refine ⟨p, _, rfl, hp7, ?_⟩
        refine cat_linesB (s7.seqT hq) hp7 (by omega) fun H8 r s8 hr8 => ?_
        refine ⟨_, rfl, cat_linesB hr8 ((s7.trans s8).seqT hm) (by rw [List.length_append]; omega) fun H9 y s9 hy9 => ?_⟩
        have s69 := s7.trans (s8.trans s9)
        refine ⟨_, rfl, _, rfl, g, _, rfl, .inr (s69.seqT hg), _, _, rfl, rfl, ?_⟩
        refine ⟨h.start + h.gone.length, y, fs ++ cutL ls i h.start ++ h.come, x3, some (.int (h.start : Int)), some (.ref g), x6, some (.ref m), ?_, sm6.trans s69, hy9, ?_⟩
        · show [_, _, _, _, _, _, _, _, some (V.int ((h.start : Int) + ((h.gone.map V.str).length : Int))), _] = _
          rw [List.length_map]; rfl
        · rw [← hp]; simp [List.append_assoc]
      · rintro σ H6 ⟨i, q, fs, x3, x4, x5, x6, x9, rfl, sm6, hq, hp⟩
        rw [ln, List.drop_length, applyF] at hp
        have hl := congrArg List.length hp
        simp only [List.length_append] at hl
        refine ⟨_, rfl, _, rfl, _, rfl, _, rfl, ?_⟩
        dsimp only [tNoPart]
        refine sl_linesFrom (sm6.seqT hA) fun H7 p s7 hp7 => ?_
        refine ⟨p, _, rfl, hp7, ?_⟩
        refine cat_linesB (s7.seqT hq) hp7 (by omega) fun H8 r s8 hr8 => ?_
        exact k _ r (sm6.trans (s7.trans s8)) (by rw [← hp]; exact hr8)
end
end VK
end

section
set_option Elab.async false
set_option linter.all false
set_option pp.maxSteps 1500
set_option maxRecDepth 100000
set_option maxHeartbeats 4000000
namespace VK
open PySem L2
theorem sep_len {n : Nat} : ∀ {hs : List Hunk} {i : Nat}, i ≤ n + 1 → Sep n i hs → hs.length + i ≤ n + 1
  | [], i, h, _ => by show 0 + i ≤ _; omega
  | h :: r, i, hi, ⟨s1, s2, s3⟩ => by
    have q := sep_len (hs := r) (i := h.start + h.gone.length + 1) (by omega) s3
    rw [List.length_cons]
    omega
theorem fit_ok {L : List Str} {hs : List Hunk} (ok : OkL L) (h : ∀ h ∈ hs, FitL L h) : ∀ h ∈ hs, OkL h.gone := fun g hg y hy => by
  have q : y ∈ cutL L g.start (g.start + g.gone.length) := by rw [show cutL L g.start (g.start + g.gone.length) = g.gone from h g hg]; exact hy
  exact ok y (cutL_sub q)
theorem come_sub {L : List Str} : ∀ {hs : List Hunk} {i : Nat} {h : Hunk}, h ∈ hs → ∀ x ∈ h.come, x ∈ applyF L i hs
  | g :: r, i, h, hm, x, hx => by
    rw [applyF]
    rcases List.mem_cons.mp hm with rfl | hm
    · exact List.mem_append_left _ (List.mem_append_right _ hx)
    · exact List.mem_append_right _ (come_sub hm x hx)
/-- a row that is small, of texts -/
structure RowOk (L : List Str) : Prop where
  ok : OkL L
  len : L.length ≤ 400
theorem PtOk.len {L : List Str} {hs : List Hunk} (h : PtOk L hs) (r : RowOk L) : hs.length ≤ 500 := by
  have q := sep_len (Nat.zero_le _) h.sep
  have := r.len
  omega
theorem ptOk_nil (L : List Str) : PtOk L [] := ⟨trivial, (fun _ h => nomatch h), fun _ h => nomatch h⟩
/-- joined, as the program calls it -/
def jF (L : List Str) (f s : List Hunk) : List Hunk := joinedF (applyF L 0 f) (backF 0 0 f) s
theorem jF_ok {L : List Str} {f s : List Hunk} (hf : PtOk L f) (hs : PtOk (applyF L 0 f) s) : PtOk L (jF L f s) ∧ applyF L 0 (jF L f s) = applyF (applyF L 0 f) 0 s := by
  obtain ⟨b1, b2, _⟩ := hf.back
  have q := joined_ok b1 hs
  rw [b2] at q
  exact q
theorem jF_nil {L : List Str} {s : List Hunk} (hs : PtOk L s) : jF L [] s = s := joined_nil (M := L) hs
abbrev s_all_joined : Stmt := topS 27
theorem sc_all_joined : FnScope ["patches", "found", "patch"] ["patches"] (defScope s_all_joined) := ⟨rfl, rfl, rfl, by decide +kernel, rfl, by decide +kernel, by decide +kernel⟩
def spAllJ (K : PySem.W.Frag) : Sp := fun vs H Q _ => ∃ (l x y z : Addr) (L : List Str) (f g h : List Hunk), vs = [.ref l] ∧ H l = some (.lst [.ref x, .ref y, .ref z]) ∧ Dp K H (.ref x) (hunksD f) ∧ Dp K H (.ref y) (hunksD g) ∧ Dp K H (.ref z) (hunksD h) ∧
  PtOk L f ∧ PtOk (applyF L 0 f) g ∧ PtOk (applyF (applyF L 0 f) 0 g) h ∧ RowOk L ∧ RowOk (applyF L 0 f) ∧ RowOk (applyF (applyF L 0 f) 0 g) ∧ RowOk (applyF (applyF (applyF L 0 f) 0 g) 0 h) ∧
  ∀ (H' : Hp) (v : V), Same H H' → Dp K H' v (hunksD (jF L (jF L f g) h)) → Q v H'
section
variable {P : Program} {w : World} {K : PySem.W.Frag} {mg : Str → Option Value} {base : Heap}
/-- what joined asks, of small rows -/
theorem joined_args {L : List Str} {f s : List Hunk} (hf : PtOk L f) (hs : PtOk (applyF L 0 f) s) (r1 : RowOk L) (r2 : RowOk (applyF L 0 f)) (r3 : RowOk (applyF (applyF L 0 f) 0 s)) :
    OkL (applyF L 0 f) ∧ f.length ≤ 500 ∧ s.length ≤ 500 ∧ (applyF L 0 f).length ≤ 50000 ∧ L.length ≤ 50000 ∧ (applyF (applyF L 0 f) 0 s).length ≤ 50000 ∧ (∀ h ∈ f, OkL h.gone) ∧ (∀ h ∈ s, OkL h.come) :=
  ⟨r2.ok, hf.len r1, hs.len r2, Nat.le_trans r2.len (by decide), Nat.le_trans r1.len (by decide), Nat.le_trans r3.len (by decide), fit_ok r1.ok hf.fit, fun h hm x hx => r3.ok x (come_sub hm x hx)⟩
theorem ok_allJ {f fJ : Addr} {fd fdJ : FuncData} (F : Fun K "all_joined" "all_joined" s_all_joined f fd) (T0 : Txt0 mg) (D_joined : Df K mg "joined" s_joined ["first", "second"] fJ fdJ) (G_joined : FnOk P w K mg base CX0 2 fJ fdJ ["first", "second"] (spJoined K)) : FnOk P w K mg base CX0 3 f fd ["patches"] (spAllJ K) := by
  refine F.ok sc_all_joined (fun vs H Q E h => ?_) (fun cdv A outer s H vs Q E hr h => ?_)
  · obtain ⟨l, x, y, z, L, f, g, h, rfl, _⟩ := h
    rfl
  · obtain ⟨l, x, y, z, L, f, g, h, rfl, hl, dx, dy, dz, pf, pg, ph, r1, r2, r3, r4, k⟩ := h
    refine ⟨_, (pss_cons (ps_set (i := 1) sc_all_joined.nd rfl (Or.inl rfl) (pe_tup pa_nil))
      (pss_cons (ps_for PassesOwn.never rfl (pi_list (pv 0)) (pg_name (i := 2) sc_all_joined.nd rfl (Or.inl rfl))
        (pss_one (ps_set (i := 1) sc_all_joined.nd rfl (Or.inl rfl) (pe_call G_joined (hr.mono (by decide)) rfl D_joined.m D_joined.F.kp D_joined.b .nil pass0 (pa_cons (pv 1) (pa_cons (pv 2) pa_nil))))))
      (pss_one (ps_ret (pv 1))))), ?_⟩
    refine ⟨by show 0 ≤ sizeLine; decide, fun q0 hq0 => ?_⟩
    have s0 := same_new (o := .tup []) hq0
    refine ⟨_, rfl, l, rfl, ⟨_, SqL.of (s0 _ _ hl)⟩, ?_⟩
    have e2 := jF_ok pf pg
    refine for_it (walk_list (xs := [.ref x, .ref y, .ref z])) (fun c σ H' => ∃ (q : Addr) (x2 : Option V), σ = [some (.ref l), some (.ref q), x2] ∧ Same H H' ∧ Dp K H' (.ref q) (hunksD (if c = 0 then [] else if c = 1 then f else if c = 2 then jF L f g else jF L (jF L f g) h))) ?_ (fun c σ H' _ h => ?_) ?_ ?_
    · exact ⟨q0, none, rfl, s0, .tup (.inl (.inl upd_same)) .nil⟩
    · obtain ⟨q, x2, _, h1, _⟩ := h
      exact SqL.of (h1 _ _ hl)
    · rintro c v σ H5o H5 hc ⟨q, x2, rfl, sm, dq⟩ ⟨rfl, hx⟩
      have hc : c < 3 := hc
      have hc3 : c = 0 ∨ c = 1 ∨ c = 2 := by omega
      rcases hc3 with rfl | rfl | rfl
      · obtain rfl : V.ref x = v := Option.some.inj hx
        have dq : Dp K H5 (.ref q) (hunksD []) := dq
        obtain ⟨a1, a2, a3, a4, a5, a6, a7, a8⟩ := joined_args (ptOk_nil L) (s := f) pf r1 r1 r2
        refine ⟨_, rfl, _, rfl, q, x, L, [], f, rfl, dq, dp_keep (TK.same sm) _ _ (imm_hunks f) dx, ptOk_nil L, pf, a1, a2, a3, a4, a5, a6, a7, a8, fun H6 v6 s6 d6 => ?_⟩
        have d6 : Dp K H6 v6 (hunksD f) := by rw [← jF_nil pf]; exact d6
        obtain ⟨q6, w6, rfl, _, _⟩ := of_tupD d6
        exact ⟨q6, _, rfl, sm.trans s6, d6⟩
      · obtain rfl : V.ref y = v := Option.some.inj hx
        have dq : Dp K H5 (.ref q) (hunksD f) := dq
        obtain ⟨a1, a2, a3, a4, a5, a6, a7, a8⟩ := joined_args pf pg r1 r2 r3
        refine ⟨_, rfl, _, rfl, q, y, L, f, g, rfl, dq, dp_keep (TK.same sm) _ _ (imm_hunks g) dy, pf, pg, a1, a2, a3, a4, a5, a6, a7, a8, fun H6 v6 s6 d6 => ?_⟩
        obtain ⟨q6, w6, rfl, _, _⟩ := of_tupD d6
        exact ⟨q6, _, rfl, sm.trans s6, d6⟩
      · obtain rfl : V.ref z = v := Option.some.inj hx
        have dq : Dp K H5 (.ref q) (hunksD (jF L f g)) := dq
        obtain ⟨a1, a2, a3, a4, a5, a6, a7, a8⟩ := joined_args e2.1 (s := h) (by rw [e2.2]; exact ph) r1 (by rw [e2.2]; exact r3) (by rw [e2.2]; exact r4)
        refine ⟨_, rfl, _, rfl, q, z, L, jF L f g, h, rfl, dq, dp_keep (TK.same sm) _ _ (imm_hunks h) dz, e2.1, by rw [e2.2]; exact ph, a1, a2, a3, a4, a5, a6, a7, a8, fun H6 v6 s6 d6 => ?_⟩
        obtain ⟨q6, w6, rfl, _, _⟩ := of_tupD d6
        exact ⟨q6, _, rfl, sm.trans s6, d6⟩
    · rintro σ H5 ⟨q, x2, rfl, sm, dq⟩
      exact ⟨_, rfl, k _ _ sm dq⟩
end
end VK
end

section
set_option Elab.async false
set_option linter.all false
set_option pp.maxSteps 1500
set_option maxRecDepth 100000
set_option maxHeartbeats 4000000
namespace VK
open PySem L2
abbrev s_is_patch : Stmt := topS 11
theorem sc_is_patch : FnScope ["value", "end", "start", "gone", "come"] ["value"] (defScope s_is_patch) := ⟨rfl, rfl, rfl, by decide +kernel, rfl, by decide +kernel, by decide +kernel⟩
structure DfC (K : PySem.W.Frag) (mg : Str → Option Value) (nm : Str) (st : Stmt) (ps : List Str) (f c : Addr) (fd : FuncData) : Prop where
  F : FunC K nm nm st f c fd
  m : mg nm = some (.ref f)
  b : Binds K fd ps []
def endP : Int → List Hunk → Int
  | e, [] => e
  | _, h :: r => endP ((h.start : Int) + (h.gone.length : Int)) r
def GoodP : Int → List Hunk → Prop
  | _, [] => True
  | e, h :: r => e < (h.start : Int) ∧ h.gone ≠ h.come ∧ OkL h.gone ∧ OkL h.come ∧ h.gone.length + h.come.length ≤ 100000 ∧ (∀ x ∈ h.gone ++ h.come, x.length ≤ sizeLine) ∧ GoodP ((h.start : Int) + (h.gone.length : Int)) r
/-- an item that is no change behind a place -/
def BadAt (K : PySem.W.Frag) (H : Hp) (e : Int) (v : V) : Prop := ∃ z s g c, v = .ref z ∧ SqT K H z [s, g, c] ∧
  ((∃ i, s = .int i ∧ i ≤ e) ∨ (∃ b, s = .bl b) ∨ (∃ i y, s = .int i ∧ e < i ∧ g = .str y) ∨
   (∃ i ga ca, ∃ ls : List Str, s = .int i ∧ e < i ∧ g = .ref ga ∧ c = .ref ca ∧ SqT K H ga (ls.map V.str) ∧ SqT K H ca (ls.map V.str) ∧ OkL ls) ∨
   (∃ i ga ca n, s = .int i ∧ e < i ∧ g = .ref ga ∧ c = .ref ca ∧ SqT K H ga [.int n] ∧ SqT K H ca []))
def spIsP (K : PySem.W.Frag) (Pt : Addr) : Sp := fun vs H Q _ => ∃ v, vs = [v] ∧ ((∃ t, TyX K H v t ∧ PySem.W.kitOne K t (.type "tuple") = some false ∧ Q (.bl false) H) ∨
  ∃ (a : Addr) (ws rest : List V) (hs : List Hunk) (res : Bool), v = .ref a ∧ SqT K H a (ws ++ rest) ∧ DpAll K H ws (hs.map hunkD) ∧ GoodP (-1) hs ∧ ((rest = [] ∧ res = true) ∨ ∃ b, rest = [b] ∧ BadAt K H (endP (-1) hs) b ∧ res = false) ∧ GxR.TabG H Pt ∧
    ∀ H' : Hp, Sv Pt H H' → GxR.TabG H' Pt → Q (.bl res) H')
theorem tab_tk {K : PySem.W.Frag} {H H' : Hp} {Pt : Addr} (t : GxR.TabG H Pt) (s : Sv Pt H H') : TK K H H' := fun a xs q => sv_sqt s t q
section
variable {P : Program} {w : World} {K : PySem.W.Frag} {mg : Str → Option Value} {base : Heap}
theorem ok_isp {f c Pt : Addr} {fd : FuncData} (F : FunC K "is_patch" "is_patch" s_is_patch f c fd) (TB : GxR.TabB base mg c Pt) (T0 : Txt0 mg) (z_isi : mg "isinstance" = none) (z_str : mg "str" = none) (z_bool : mg "bool" = none) (z_all : mg "all" = none) : FnOk P w K mg base CX0 3 f fd ["value"] (spIsP K Pt) := by
  refine F.ok sc_is_patch (fun vs H Q E h => ?_) (fun A outer s H vs Q E hr h => ?_)
  · obtain ⟨v, rfl, _⟩ := h
    rfl
  · obtain ⟨v, rfl, h⟩ := h
    refine ⟨_, (pss_cons (ps_if (PW.pt (pw_or (pt_not (pt_truth (pe_callB call_isi (by rfl) z_isi PyProof.Rows.boot_isinstance (pa_cons (pv 0) (pa_cons (pe_bltn (v := .ty "tuple") (by rfl) T0.z_tuple (by decide +kernel) rfl) pa_nil))) (by intro _; rfl))) (pw_or1 (pt_not (pt_truth (pe_allT hr (by rfl) z_all (by decide +kernel) TB rfl (gen_s rfl rfl rfl rfl rfl) (pv 0) (elt_h3 rfl rfl rfl rfl rfl z_isi T0.z_tuple T0.z_len) (fun _ => rfl)) (by intro _; rfl))))))
        (pss_one (ps_ret pe_bl))
        pss_nil)
      (pss_cons (ps_set (i := 1) sc_is_patch.nd rfl (Or.inl rfl) (pe_un un_neg pe_int))
      (pss_cons (ps_for PassesOwn.never rfl (pi_tup (pv 0)) (pg_tup rfl (pgs_cons (pg_name (i := 2) sc_is_patch.nd rfl (Or.inl rfl)) (pgs_cons (pg_name (i := 3) sc_is_patch.nd rfl (Or.inl rfl)) (pgs_cons (pg_name (i := 4) sc_is_patch.nd rfl (Or.inl rfl)) pgs_nil))))
        (pss_cons (ps_if (PW.pt (pw_or (pt_not (pt_truth (pe_callB call_isi (by rfl) z_isi PyProof.Rows.boot_isinstance (pa_cons (pv 2) (pa_cons (pe_bltn (v := .ty "int") (by rfl) T0.z_int (by decide +kernel) rfl) pa_nil))) (by intro _; rfl))) (pw_or (pt_truth (pe_callB call_isi (by rfl) z_isi PyProof.Rows.boot_isinstance (pa_cons (pv 2) (pa_cons (pe_bltn (v := .ty "bool") (by rfl) z_bool (by decide +kernel) rfl) pa_nil))) (by intro _; rfl)) (pw_or1 (pt_cmpR op_le (pv 2) (pv 1) (nomark _))))))
          (pss_one (ps_ret pe_bl))
          pss_nil)
        (pss_cons (ps_if (PW.pt (pw_or (pt_not (pt_truth (pe_callB call_isi (by rfl) z_isi PyProof.Rows.boot_isinstance (pa_cons (pv 3) (pa_cons (pe_bltn (v := .ty "tuple") (by rfl) T0.z_tuple (by decide +kernel) rfl) pa_nil))) (by intro _; rfl))) (pw_or (pt_not (pt_truth (pe_callB call_isi (by rfl) z_isi PyProof.Rows.boot_isinstance (pa_cons (pv 4) (pa_cons (pe_bltn (v := .ty "tuple") (by rfl) T0.z_tuple (by decide +kernel) rfl) pa_nil))) (by intro _; rfl))) (pw_or1 (pt_cmpR (op_eqD hr.units) (pv 3) (pv 4) (nomark _))))))
          (pss_one (ps_ret pe_bl))
          pss_nil)
        (pss_cons (ps_if (pt_not (pt_truth (pe_allV hr (by rfl) z_all (by decide +kernel) TB rfl (gen_s rfl rfl rfl rfl rfl) (pe_op op_catA (pv 3) (pv 4)) (elt_str rfl rfl rfl rfl z_isi z_str) (fun _ => rfl)) (by intro _; rfl)))
          (pss_one (ps_ret pe_bl))
          pss_nil)
        (pss_one (ps_set (i := 1) sc_is_patch.nd rfl (Or.inl rfl) (pe_op op_add (pv 2) (pe_callB call_len_seq (by rfl) T0.z_len PySem.boot_len (pa_cons (pv 3) pa_nil)))))))))
      (pss_one (ps_ret pe_bl))))), ?_⟩
    rcases h with ⟨t, ht, hk, q⟩ | ⟨a, ws, rest, hs, res, rfl, hA, hd, hg, hres, tab, k⟩
    · refine ⟨_, rfl, v, .ty "tuple", t, .type "tuple", false, rfl, .ty _, ht, hk, _, rfl, ?_⟩
      refine ite2 (fun _ => ?_) (fun e => absurd rfl e)
      exact q
    · refine ⟨_, rfl, .ref a, .ty "tuple", _, .type "tuple", true, rfl, .ty _, ty_of_sqt hA, rfl, _, rfl, ?_⟩
      refine ite2 (fun e => absurd e Bool.false_ne_true) (fun _ => ?_)
      have lw : ws.length = hs.length := by rw [dpAll_len hd, List.length_map]
      have items : ∀ x ∈ ws ++ rest, ∃ b xs, x = .ref b ∧ SqT K H b xs ∧ xs.length = 3 := fun x hx => by
        rcases List.mem_append.mp hx with hx | hx
        · obtain ⟨i, hi, e⟩ := List.getElem_of_mem hx
          have hf : hs[i]? = some hs[i] := List.getElem?_eq_getElem (by omega)
          obtain ⟨v, hv1, hv2⟩ := dpAll_at hd (k := i) (d := hunkD hs[i]) (by rw [List.getElem?_map, hf]; rfl)
          have e2 : ws[i]? = some x := by rw [List.getElem?_eq_getElem hi, e]
          obtain rfl : v = x := Option.some.inj (hv1.symm.trans e2)
          obtain ⟨z, g, m, rfl, hz, _⟩ := of_hunk hv2
          exact ⟨z, _, rfl, hz, rfl⟩
        · rcases hres with ⟨rfl, _⟩ | ⟨b, rfl, hb, _⟩
          · cases hx
          · rw [List.mem_singleton.mp hx]
            obtain ⟨z, s', g, c', rfl, hz, _⟩ := hb
            exact ⟨z, _, rfl, hz, rfl⟩
      refine ⟨_, rfl, a, ws ++ rest, List.replicate (ws ++ rest).length true, rfl, hA, List.length_replicate, fun i x b hx hb => ?_, tab, fun H2 t2 => ⟨_, rfl, ?_⟩⟩
      · rw [List.getElem?_replicate] at hb
        split at hb
        · exact ⟨(Option.some.inj hb).symm, items x (List.mem_of_getElem? hx)⟩
        · cases hb
      refine ite2 (fun e => ?_) (fun _ => ?_)
      · exfalso
        have : (List.replicate (ws ++ rest).length true).all id = true := List.all_eq_true.mpr fun x hx => by rw [List.eq_of_mem_replicate hx]; rfl
        rw [this] at e
        cases e
      have s2 := sv_tab t2
      have tab2 := t2.1
      have k2 := tab_tk (K := K) tab s2
      have hA2 := k2 _ _ hA
      refine ⟨1, rfl, ?_⟩
      have tabS : ∀ {H H' : Hp}, GxR.TabG H Pt → Same H H' → GxR.TabG H' Pt := fun t s => by
        obtain ⟨ps, e, ok⟩ := t
        exact ⟨ps, s _ _ e, ok⟩
      refine ⟨_, rfl, a, rfl, ⟨_, hA2⟩, ?_⟩
      refine for_it (walk_tup (xs := ws ++ rest)) (fun c σ H' => ∃ (x2 x3 x4 : Option V), σ = [some (.ref a), some (.int (endP (-1) (hs.take c))), x2, x3, x4] ∧ Sv Pt H H' ∧ GxR.TabG H' Pt ∧ TK K H H' ∧ c ≤ hs.length ∧ GoodP (endP (-1) (hs.take c)) (hs.drop c)) ?_ (fun c σ H' _ h => ?_) ?_ ?_
      · exact ⟨none, none, none, rfl, s2, tab2, k2, Nat.zero_le _, hg⟩
      · obtain ⟨_, _, _, _, _, _, h, _⟩ := h
        exact h _ _ hA
      · rintro c x σ H5o H5 hc ⟨x2, x3, x4, rfl, sv5, tab5, k5, hcl, hgc⟩ ⟨rfl, hx⟩
        by_cases hcf : c < hs.length
        · obtain ⟨h, ht⟩ : ∃ h, h = hs[c] := ⟨_, rfl⟩
          have hf : hs[c]? = some h := by rw [List.getElem?_eq_getElem hcf, ht]
          rw [List.getElem?_append_left (by omega)] at hx
          obtain ⟨v, hv1, hv2⟩ := dpAll_at (hunks_keep k5 hd) (k := c) (d := hunkD h) (by rw [List.getElem?_map, hf]; rfl)
          obtain rfl : v = x := Option.some.inj (hv1.symm.trans hx)
          obtain ⟨z, g, m, rfl, hz, hg', hm⟩ := of_hunk hv2
          have ed : hs.drop c = h :: hs.drop (c + 1) := by rw [List.drop_eq_getElem_cons hcf, ← ht]
          have etk : hs.take (c + 1) = hs.take c ++ [h] := by rw [List.take_succ, hf]; rfl
          have eend : endP (-1) (hs.take (c + 1)) = (h.start : Int) + (h.gone.length : Int) := by
            rw [etk]
            have : ∀ (l : List Hunk) (e : Int), endP e (l ++ [h]) = (h.start : Int) + (h.gone.length : Int) := by
              intro l
              induction l with
              | nil => intro e; rfl
              | cons y r ih => intro e; exact ih _
            exact this _ _
          rw [ed] at hgc
          obtain ⟨c1, c2, c3, c4, c5, c6, c7⟩ := hgc
          refine ⟨z, _, rfl, hz, rfl, _, _, rfl, _, _, rfl, _, _, rfl, rfl, ?_⟩
          refine ⟨_, rfl, .int (h.start : Int), .ty "int", _, .type "int", true, rfl, .ty _, .base (.int _), rfl, _, rfl, ?_⟩
          refine ite2 (fun e => absurd e (by decide)) (fun _ => ?_)
          refine ⟨_, rfl, .int (h.start : Int), .ty "bool", _, .type "bool", false, rfl, .ty _, .base (.int _), kit_ty (by decide +kernel), _, rfl, ?_⟩
          refine ite2 (fun e => absurd e (by decide)) (fun _ => ?_)
          refine ⟨_, rfl, _, rfl, _, _, rfl, rfl, _, rfl, ?_⟩
          refine ite2 (fun e => ?_) (fun _ => ?_)
          · have := of_decide_eq_true e
            omega
          refine ⟨_, rfl, .ref g, .ty "tuple", _, .type "tuple", true, rfl, .ty _, ty_of_sqt hg', rfl, _, rfl, ?_⟩
          refine ite2 (fun e => absurd e (by decide)) (fun _ => ?_)
          refine ⟨_, rfl, .ref m, .ty "tuple", _, .type "tuple", true, rfl, .ty _, ty_of_sqt hm, rfl, _, rfl, ?_⟩
          refine ite2 (fun e => absurd e (by decide)) (fun _ => ?_)
          refine ⟨_, rfl, _, rfl, eq_lines hg' hm c3 c4 ⟨_, rfl, ?_⟩⟩
          refine ite2 (fun e => absurd (of_decide_eq_true e) c2) (fun _ => ?_)
          refine ⟨_, rfl, _, rfl, cat_linesB hg' hm (by omega) fun H6 p s6 hp => ⟨p, _, rfl, hp, fun y hy => ?_, tabS tab5 s6, fun H7 t7 => ⟨_, rfl, ?_⟩⟩⟩
          · obtain ⟨y', hy', rfl⟩ := List.mem_map.mp hy
            exact .inl ⟨y', rfl, c6 y' hy'⟩
          refine ite2 (fun e => ?_) (fun _ => ?_)
          · exfalso
            have : (((h.gone ++ h.come).map V.str).all pbStr) = true := List.all_eq_true.mpr fun y hy => by
              obtain ⟨y', _, rfl⟩ := List.mem_map.mp hy
              rfl
            rw [this] at e
            cases e
          have s7 := sv_tab t7
          have sv7 : Sv Pt H5 H7 := (Sv.same s6).trans s7
          have k7 := tab_tk (K := K) tab5 sv7
          refine ⟨_, rfl, _, rfl, g, _, rfl, .inr (k7 _ _ hg'), _, _, rfl, rfl, ?_⟩
          refine ⟨some (.int (h.start : Int)), some (.ref g), some (.ref m), ?_, sv5.trans sv7, t7.1, k5.trans k7, hcf, by rw [eend]; exact c7⟩
          rw [eend]
          show [_, some (V.int ((h.start : Int) + ((h.gone.map V.str).length : Int))), _, _, _] = _
          rw [List.length_map]
        · rcases hres with ⟨rfl, _⟩ | ⟨b, rfl, hb, rfl⟩
          · exfalso
            rw [List.append_nil] at hc
            omega
          · have ec : c = hs.length := by omega
            subst ec
            rw [List.getElem?_append_right (by omega), lw, Nat.sub_self] at hx
            obtain rfl : b = x := Option.some.inj hx
            rw [List.take_length]
            obtain ⟨z, s', g, m, rfl, hz, hb⟩ := hb
            refine ⟨z, _, rfl, k5 _ _ hz, rfl, _, _, rfl, _, _, rfl, _, _, rfl, rfl, ?_⟩
            have fin : Q (.bl false) H5 := k H5 sv5 tab5
            rcases hb with ⟨i, rfl, hi⟩ | ⟨bb, rfl⟩ | ⟨i, y, rfl, hi, rfl⟩ | ⟨i, ga, ca, ls, rfl, hi, rfl, rfl, h1, h2, okl⟩ | ⟨i, ga, ca, n, rfl, hi, rfl, rfl, h1, h2⟩
            · refine ⟨_, rfl, .int i, .ty "int", _, .type "int", true, rfl, .ty _, .base (.int _), rfl, _, rfl, ?_⟩
              refine ite2 (fun e => absurd e (by decide)) (fun _ => ?_)
              refine ⟨_, rfl, .int i, .ty "bool", _, .type "bool", false, rfl, .ty _, .base (.int _), kit_ty (by decide +kernel), _, rfl, ?_⟩
              refine ite2 (fun e => absurd e (by decide)) (fun _ => ?_)
              refine ⟨_, rfl, _, rfl, _, _, rfl, rfl, _, rfl, ?_⟩
              refine ite2 (fun _ => fin) (fun e => absurd (decide_eq_true hi) e)
            · refine ⟨_, rfl, .bl bb, .ty "int", _, .type "int", true, rfl, .ty _, .base (.bl _), kit_ty (by decide +kernel), _, rfl, ?_⟩
              refine ite2 (fun e => absurd e (by decide)) (fun _ => ?_)
              refine ⟨_, rfl, .bl bb, .ty "bool", _, .type "bool", true, rfl, .ty _, .base (.bl _), rfl, _, rfl, ?_⟩
              refine ite2 (fun _ => ?_) (fun e => absurd rfl e)
              exact fin
            all_goals
              refine ⟨_, rfl, .int i, .ty "int", _, .type "int", true, rfl, .ty _, .base (.int _), rfl, _, rfl, ?_⟩
              refine ite2 (fun e => absurd e (by decide)) (fun _ => ?_)
              refine ⟨_, rfl, .int i, .ty "bool", _, .type "bool", false, rfl, .ty _, .base (.int _), kit_ty (by decide +kernel), _, rfl, ?_⟩
              refine ite2 (fun e => absurd e (by decide)) (fun _ => ?_)
              refine ⟨_, rfl, _, rfl, _, _, rfl, rfl, _, rfl, ?_⟩
              refine ite2 (fun e => absurd (of_decide_eq_true e) (by omega)) (fun _ => ?_)
            · refine ⟨_, rfl, .str y, .ty "tuple", _, .type "tuple", false, rfl, .ty _, .base (.str _), kit_ty (by decide +kernel), _, rfl, ?_⟩
              refine ite2 (fun _ => ?_) (fun e => absurd rfl e)
              exact fin
            · refine ⟨_, rfl, .ref ga, .ty "tuple", _, .type "tuple", true, rfl, .ty _, ty_of_sqt (k5 _ _ h1), rfl, _, rfl, ?_⟩
              refine ite2 (fun e => absurd e (by decide)) (fun _ => ?_)
              refine ⟨_, rfl, .ref ca, .ty "tuple", _, .type "tuple", true, rfl, .ty _, ty_of_sqt (k5 _ _ h2), rfl, _, rfl, ?_⟩
              refine ite2 (fun e => absurd e (by decide)) (fun _ => ?_)
              refine ⟨_, rfl, _, rfl, eq_lines (k5 _ _ h1) (k5 _ _ h2) okl okl ⟨_, rfl, ?_⟩⟩
              refine ite2 (fun _ => fin) (fun e => absurd (decide_eq_true rfl) e)
            · refine ⟨_, rfl, .ref ga, .ty "tuple", _, .type "tuple", true, rfl, .ty _, ty_of_sqt (k5 _ _ h1), rfl, _, rfl, ?_⟩
              refine ite2 (fun e => absurd e (by decide)) (fun _ => ?_)
              refine ⟨_, rfl, .ref ca, .ty "tuple", _, .type "tuple", true, rfl, .ty _, ty_of_sqt (k5 _ _ h2), rfl, _, rfl, ?_⟩
              refine ite2 (fun e => absurd e (by decide)) (fun _ => ?_)
              refine ⟨_, rfl, _, rfl, ⟨.tuple [.int n], .tuple [], .tup (k5 _ _ h1) (.cons (.int n) .nil), .tup (k5 _ _ h2) .nil, by rfl, by rfl, _, rfl, ?_⟩⟩
              refine ite2 (fun e => absurd e (by simp [PyData.eqv, PyData.eqvAll])) (fun _ => ?_)
              refine ⟨_, rfl, _, rfl, cat_tupK (k5 _ _ h1) (k5 _ _ h2) (by show 1 + 0 ≤ sizeLine; decide) fun H6 p s6 hp => ⟨p, _, rfl, hp, fun y hy => ?_, tabS tab5 s6, fun H7 t7 => ⟨_, rfl, ?_⟩⟩⟩
              · rw [List.append_nil] at hy
                rw [List.mem_singleton.mp hy]
                exact .inr ⟨n, rfl⟩
              refine ite2 (fun _ => ?_) (fun e => absurd rfl e)
              exact k _ (sv5.trans ((Sv.same s6).trans (sv_tab t7))) t7.1
      · rintro σ H5 ⟨x2, x3, x4, rfl, sv5, tab5, k5, hcl, _⟩
        rcases hres with ⟨rfl, rfl⟩ | ⟨b, rfl, _, _⟩
        · exact k H5 sv5 tab5
        · exfalso
          rw [List.length_append, List.length_singleton] at hcl
          omega
end
end VK
end

section
set_option Elab.async false
set_option linter.all false
set_option pp.maxSteps 1500
set_option maxRecDepth 100000
set_option maxHeartbeats 4000000
namespace VK
open PySem L2
def touchB (x y : Hunk) : Bool := decide (x.start ≤ y.start + y.gone.length) && decide (y.start ≤ x.start + x.gone.length)
theorem touchB_iff {x y : Hunk} : touchB x y = true ↔ touchH x y := by
  unfold touchB touchH
  rw [Bool.and_eq_true, decide_eq_true_eq, decide_eq_true_eq]
/-- the first place at which a change touches -/
def touchJ (x : Hunk) : Nat → List Hunk → Option Nat
  | _, [] => none
  | j, y :: r => if touchB x y = true then some j else touchJ x (j + 1) r
def touchI (s : List Hunk) : Nat → List Hunk → Option (Nat × Nat)
  | _, [] => none
  | i, x :: r => match touchJ x 0 s with
    | some j => some (i, j)
    | none => touchI s (i + 1) r
def touchF (f s : List Hunk) : Option (Nat × Nat) := touchI s 0 f
theorem touchJ_none {x : Hunk} : ∀ {s : List Hunk} {j : Nat}, touchJ x j s = none ↔ ∀ y ∈ s, ¬ touchH x y
  | [], j => ⟨(fun _ _ h => nomatch h), fun _ => rfl⟩
  | y :: r, j => by
    rw [touchJ]
    by_cases c : touchB x y = true
    · rw [if_pos c]
      exact ⟨(fun h => nomatch h), fun h => absurd (touchB_iff.mp c) (h y (List.mem_cons_self ..))⟩
    · rw [if_neg c, touchJ_none]
      refine ⟨fun h z hz => ?_, fun h z hz => h z (List.mem_cons_of_mem _ hz)⟩
      rcases List.mem_cons.mp hz with rfl | hz
      · exact fun q => c (touchB_iff.mpr q)
      · exact h z hz
theorem touchI_none {s : List Hunk} : ∀ {f : List Hunk} {i : Nat}, touchI s i f = none ↔ noTouch f s
  | [], i => ⟨(fun _ _ h => nomatch h), fun _ => rfl⟩
  | x :: r, i => by
    rw [touchI]
    cases c : touchJ x 0 s with
    | some j =>
      refine ⟨(fun h => nomatch h), fun h => ?_⟩
      have := touchJ_none (j := 0).mpr (fun y hy => h x (List.mem_cons_self ..) y hy)
      rw [c] at this
      cases this
    | none =>
      have c' := touchJ_none.mp c
      show touchI s (i + 1) r = none ↔ _
      rw [touchI_none]
      refine ⟨fun h z hz => ?_, fun h z hz => h z (List.mem_cons_of_mem _ hz)⟩
      rcases List.mem_cons.mp hz with rfl | hz
      · exact c'
      · exact h z hz
def optP : Option (Nat × Nat) → PyData
  | none => .none
  | some p => pairD p
def spTouch2 (K : PySem.W.Frag) : Sp := fun vs H Q _ => ∃ (a b : Addr) (f s : List Hunk), vs = [.ref a, .ref b] ∧ Dp K H (.ref a) (hunksD f) ∧ Dp K H (.ref b) (hunksD s) ∧ f.length ≤ 1000 ∧ s.length ≤ 1000 ∧
  ∀ (H' : Hp) (v : V), Same H H' → Dp K H' v (optP (touchF f s)) → ((v = .non ∧ touchF f s = none) ∨ ∃ p q, v = .ref p ∧ touchF f s = some q) → Q v H'
section
variable {P : Program} {w : World} {K : PySem.W.Frag} {mg : Str → Option Value} {base : Heap}
theorem ok_touch2 {f : Addr} {fd : FuncData} (F : Fun K "do_touch" "do_touch" s_do_touch f fd) (T0 : Txt0 mg) : FnOk P w K mg base CX0 1 f fd ["one", "two"] (spTouch2 K) := by
  refine F.ok sc_do_touch (fun vs H Q E h => ?_) (fun cdv A outer s H vs Q E hr h => ?_)
  · obtain ⟨a, b, f, s, rfl, _⟩ := h
    rfl
  · obtain ⟨a, b, f, s, rfl, hA, hB, hf, hs, k⟩ := h
    refine ⟨_, (pss_cons (ps_for PassesOwn.never rfl (pi_enumT (by rfl) T0.z_enumerate (pa_cons (pv 0) pa_nil)) (pg_tup rfl (pgs_cons (pg_name (i := 2) sc_do_touch.nd rfl (Or.inl rfl)) (pgs_cons (pg_tup rfl (pgs_cons (pg_name (i := 3) sc_do_touch.nd rfl (Or.inl rfl)) (pgs_cons (pg_name (i := 4) sc_do_touch.nd rfl (Or.inl rfl)) (pgs_cons (pg_name (i := 5) sc_do_touch.nd rfl (Or.inl rfl)) pgs_nil)))) pgs_nil)))
        (pss_one (ps_for PassesOwn.never rfl (pi_enumT (by rfl) T0.z_enumerate (pa_cons (pv 1) pa_nil)) (pg_tup rfl (pgs_cons (pg_name (i := 6) sc_do_touch.nd rfl (Or.inl rfl)) (pgs_cons (pg_tup rfl (pgs_cons (pg_name (i := 7) sc_do_touch.nd rfl (Or.inl rfl)) (pgs_cons (pg_name (i := 8) sc_do_touch.nd rfl (Or.inl rfl)) (pgs_cons (pg_name (i := 5) sc_do_touch.nd rfl (Or.inl rfl)) pgs_nil)))) pgs_nil)))
          (pss_one (ps_if (PW.pt (pw_and (pt_cmpR op_le (pv 3) (pe_op op_add (pv 7) (pe_callB call_len_seq (by rfl) T0.z_len PySem.boot_len (pa_cons (pv 8) pa_nil))) (nomark _)) (pw_and1 (pt_cmpR op_le (pv 7) (pe_op op_add (pv 3) (pe_callB call_len_seq (by rfl) T0.z_len PySem.boot_len (pa_cons (pv 4) pa_nil))) (nomark _)))))
            (pss_one (ps_ret (pe_tup (pa_cons (pv 2) (pa_cons (pv 6) pa_nil)))))
            pss_nil)))))
      (pss_one (ps_ret pe_non))), ?_⟩
    obtain ⟨a', us, ea, ha, hda⟩ := of_tupD hA
    cases ea
    obtain ⟨b', vs, eb, hb, hdb⟩ := of_tupD hB
    cases eb
    have lu : us.length = f.length := by rw [dpAll_len hda, List.length_map]
    have lv : vs.length = s.length := by rw [dpAll_len hdb, List.length_map]
    refine ⟨_, rfl, a, us, rfl, ha, ?_⟩
    refine for_it (walk_enumT (xs := us)) (fun c σ H' => ∃ (x2 x3 x4 x5 x6 x7 x8 : Option V), σ = [some (.ref a), some (.ref b), x2, x3, x4, x5, x6, x7, x8] ∧ Same H H' ∧ touchI s c (f.drop c) = touchF f s) ?_ (fun c σ H' _ h => ?_) ?_ ?_
    · exact ⟨none, none, none, none, none, none, none, rfl, (fun _ _ e => e), rfl⟩
    · obtain ⟨x2, x3, x4, x5, x6, x7, x8, rfl, h1, h2⟩ := h
      exact h1.seqT ha
    · rintro c x σ H5 H6 hc ⟨x2, x3, x4, x5, x6, x7, x8, rfl, sm, hno⟩ ⟨T, x', rfl, hT, rfl, hx⟩
      have hcf : c < f.length := by rw [← lu]; exact hc
      obtain ⟨h, eh⟩ : ∃ h, h = f[c] := ⟨_, rfl⟩
      have hrt : f[c]? = some h := by rw [List.getElem?_eq_getElem hcf, eh]
      have sT : Same H5 (upd H5 T (.tup [.int (c : Nat), x'])) := same_new hT
      have sm6 := sm.trans sT
      obtain ⟨v, hv1, hv2⟩ := dpAll_at (hunks_keep (TK.same sm6) hda) (k := c) (d := hunkD h) (by rw [List.getElem?_map, hrt]; rfl)
      obtain rfl : v = x' := Option.some.inj (hv1.symm.trans hx)
      obtain ⟨z, g, m, rfl, hz, hg, hm⟩ := of_hunk hv2
      have ed : f.drop c = h :: f.drop (c + 1) := by rw [List.drop_eq_getElem_cons hcf, ← eh]
      rw [ed, touchI] at hno
      refine ⟨T, _, rfl, .inl (.inl upd_same), rfl, _, _, rfl, _, _, rfl, ⟨z, _, rfl, hz, rfl, _, _, rfl, _, _, rfl, _, _, rfl, rfl, ?_⟩⟩
      refine ⟨rfl, ?_⟩
      obtain ⟨H6, e6⟩ : ∃ H6, H6 = upd H5 T (.tup [.int (c : Nat), .ref z]) := ⟨_, rfl⟩
      rw [← e6] at sm6 hz hg hm ⊢
      refine ⟨_, rfl, b, vs, rfl, sm6.seqT hb, ?_⟩
      refine for_it (walk_enumT (xs := vs)) (fun j σ H' => ∃ (x5 x6 x7 x8 : Option V), σ = [some (.ref a), some (.ref b), some (.int (c : Int)), some (.int (h.start : Int)), some (.ref g), x5, x6, x7, x8] ∧ Same H6 H' ∧ touchJ h j (s.drop j) = touchJ h 0 s) ?_ (fun j σ H' _ h => ?_) ?_ ?_
      · exact ⟨_, _, _, _, rfl, (fun _ _ e => e), rfl⟩
      · obtain ⟨x5, x6, x7, x8, rfl, h1, h2⟩ := h
        exact (sm6.trans h1).seqT hb
      · rintro j x σ H7 H8 hj ⟨x5, x6, x7, x8, rfl, sm7, hno2⟩ ⟨T2, x', rfl, hT2, rfl, hx2⟩
        have hjf : j < s.length := by rw [← lv]; exact hj
        obtain ⟨h2, eh2⟩ : ∃ h2, h2 = s[j] := ⟨_, rfl⟩
        have hrt2 : s[j]? = some h2 := by rw [List.getElem?_eq_getElem hjf, eh2]
        have sT2 : Same H7 (upd H7 T2 (.tup [.int (j : Nat), x'])) := same_new hT2
        have sm8 := sm7.trans sT2
        obtain ⟨v, hv1, hv2⟩ := dpAll_at (hunks_keep (TK.same (sm6.trans sm8)) hdb) (k := j) (d := hunkD h2) (by rw [List.getElem?_map, hrt2]; rfl)
        obtain rfl : v = x' := Option.some.inj (hv1.symm.trans hx2)
        obtain ⟨z2, g2, m2, rfl, hz2, hg2, hm2⟩ := of_hunk hv2
        have ed2 : s.drop j = h2 :: s.drop (j + 1) := by rw [List.drop_eq_getElem_cons hjf, ← eh2]
        rw [ed2, touchJ] at hno2
        have hg8 := sm8.seqT hg
        refine ⟨T2, _, rfl, .inl (.inl upd_same), rfl, _, _, rfl, _, _, rfl, ⟨z2, _, rfl, hz2, rfl, _, _, rfl, _, _, rfl, _, _, rfl, rfl, rfl, ?_⟩⟩
        refine tAnd_pure (y := decide (h2.start ≤ h.start + h.gone.length)) (fun Q h' => ⟨_, rfl, _, rfl, _, rfl, g2, _, rfl, .inr hg2, _, _, rfl, rfl, _, _, rfl, rfl, _, rfl, h'⟩) (fun Q h' => ⟨_, rfl, _, rfl, _, rfl, g, _, rfl, .inr hg8, _, _, rfl, rfl, _, _, rfl, rfl, _, rfl, ?_⟩) ?_
        · have e : decide ((h2.start : Int) ≤ (h.start : Int) + (((h.gone.map V.str).length : Nat) : Int)) = decide (h2.start ≤ h.start + h.gone.length) := by
            rw [List.length_map]
            by_cases q : h2.start ≤ h.start + h.gone.length
            · rw [decide_eq_true q, decide_eq_true]; omega
            · rw [decide_eq_false q, decide_eq_false]; omega
          rw [e]; exact h'
        · refine ite2 (fun e => ?_) (fun e => ?_)
          · refine ⟨_, rfl, _, rfl, by show 2 ≤ sizeLine; decide, fun p hp => ?_⟩
            rw [Bool.and_eq_true, decide_eq_true_eq, decide_eq_true_eq, List.length_map] at e
            have hb : touchB h h2 = true := touchB_iff.mpr ⟨by have := e.1; omega, by have := e.2; omega⟩
            rw [if_pos hb] at hno2
            rw [← hno2] at hno
            have hno : some (c, j) = touchF f s := hno
            refine k _ _ ((sm6.trans sm8).trans (same_new hp)) ?_ (.inr ⟨p, (c, j), rfl, hno.symm⟩)
            rw [← hno]
            exact dp_pair (.inl (.inl upd_same))
          · refine ⟨_, _, _, _, rfl, sm8, ?_⟩
            rw [if_neg (fun q => ?_)] at hno2
            · exact hno2
            · apply e
              have q := touchB_iff.mp q
              rw [Bool.and_eq_true, decide_eq_true_eq, decide_eq_true_eq, List.length_map]
              have q1 := q.1
              have q2 := q.2
              omega
      · rintro σ H7 ⟨x5, x6, x7, x8, rfl, sm7, hno2⟩
        rw [lv, List.drop_length, touchJ] at hno2
        rw [← hno2] at hno
        exact ⟨_, _, _, _, _, _, _, rfl, sm6.trans sm7, hno⟩
    · rintro σ H5 ⟨x2, x3, x4, x5, x6, x7, x8, rfl, sm, hno⟩
      rw [lu, List.drop_length, touchI] at hno
      exact k _ _ sm (by rw [← hno]; exact .non) (.inl ⟨rfl, hno.symm⟩)
end
end VK
end

section
set_option Elab.async false
set_option linter.all false
set_option pp.maxSteps 1500
set_option maxRecDepth 100000
set_option maxHeartbeats 4000000
namespace VK
open PySem L2
abbrev s__law_touch : Stmt := topS 37
theorem sc__law_touch : FnScope ["one", "two", "i", "j"] ["one", "two"] (defScope s__law_touch) := ⟨rfl, rfl, rfl, by decide +kernel, rfl, by decide +kernel, by decide +kernel⟩
section
variable {P : Program} {w : World} {K : PySem.W.Frag} {mg : Str → Option Value} {base : Heap}
theorem ok_ltouch {f : Addr} {fd : FuncData} (F : Fun K "_law_touch" "_law_touch" s__law_touch f fd) (T0 : Txt0 mg) : FnOk P w K mg base CX0 1 f fd ["one", "two"] (spTouch2 K) := by
  refine F.ok sc__law_touch (fun vs H Q E h => ?_) (fun cdv A outer s H vs Q E hr h => ?_)
  · obtain ⟨a, b, f, s, rfl, _⟩ := h
    rfl
  · obtain ⟨a, b, f, s, rfl, hA, hB, hf, hs, k⟩ := h
    refine ⟨_, (pss_cons (ps_for PassesOwn.never rfl (pi_range1 (by rfl) T0.z_range (pa_cons (pe_callB call_len_seq (by rfl) T0.z_len PySem.boot_len (pa_cons (pv 0) pa_nil)) pa_nil)) (pg_name (i := 2) sc__law_touch.nd rfl (Or.inl rfl))
        (pss_one (ps_for PassesOwn.never rfl (pi_range1 (by rfl) T0.z_range (pa_cons (pe_callB call_len_seq (by rfl) T0.z_len PySem.boot_len (pa_cons (pv 1) pa_nil)) pa_nil)) (pg_name (i := 3) sc__law_touch.nd rfl (Or.inl rfl))
          (pss_one (ps_if (PW.pt (pw_and (pt_cmpR op_le (pe_ix ix_tup (pe_ix ix_tup (pv 0) (pv 2) (fun _ _ => rfl)) pe_int (fun _ _ => rfl)) (pe_op op_add (pe_ix ix_tup (pe_ix ix_tup (pv 1) (pv 3) (fun _ _ => rfl)) pe_int (fun _ _ => rfl)) (pe_callB call_len_seq (by rfl) T0.z_len PySem.boot_len (pa_cons (pe_ix ix_tup (pe_ix ix_tup (pv 1) (pv 3) (fun _ _ => rfl)) pe_int (fun _ _ => rfl)) pa_nil))) (nomark _)) (pw_and1 (pt_cmpR op_le (pe_ix ix_tup (pe_ix ix_tup (pv 1) (pv 3) (fun _ _ => rfl)) pe_int (fun _ _ => rfl)) (pe_op op_add (pe_ix ix_tup (pe_ix ix_tup (pv 0) (pv 2) (fun _ _ => rfl)) pe_int (fun _ _ => rfl)) (pe_callB call_len_seq (by rfl) T0.z_len PySem.boot_len (pa_cons (pe_ix ix_tup (pe_ix ix_tup (pv 0) (pv 2) (fun _ _ => rfl)) pe_int (fun _ _ => rfl)) pa_nil))) (nomark _)))))
            (pss_one (ps_ret (pe_tup (pa_cons (pv 2) (pa_cons (pv 3) pa_nil)))))
            pss_nil)))))
      (pss_one (ps_ret pe_non))), ?_⟩
    obtain ⟨a', us, ea, ha, hda⟩ := of_tupD hA
    cases ea
    obtain ⟨b', vs, eb, hb, hdb⟩ := of_tupD hB
    cases eb
    have lu : us.length = f.length := by rw [dpAll_len hda, List.length_map]
    have lv : vs.length = s.length := by rw [dpAll_len hdb, List.length_map]
    refine ⟨_, rfl, a, _, rfl, .inr ha, _, rfl, by omega, by omega, ?_⟩
    have en : ((us.length : Nat) : Int).toNat = f.length := by omega
    rw [en]
    refine for_it walk_range (fun i σ H' => ∃ (x2 x3 : Option V), σ = [some (.ref a), some (.ref b), x2, x3] ∧ H' = H ∧ touchI s i (f.drop i) = touchF f s) ?_ (fun _ _ _ _ _ => trivial) ?_ ?_
    · exact ⟨none, none, rfl, rfl, rfl⟩
    · rintro i x σ H5o H5 hi ⟨x2, x3, rfl, rfl, hno⟩ ⟨rfl, hx⟩
      have ei : (0 : Int) + (i : Nat) = ((i : Nat) : Int) := by omega
      obtain rfl : x = V.int (i : Int) := hx.trans (congrArg V.int ei)
      obtain ⟨h, eh⟩ : ∃ h, h = f[i] := ⟨_, rfl⟩
      have hrt : f[i]? = some h := by rw [List.getElem?_eq_getElem hi, eh]
      obtain ⟨v, hv1, hv2⟩ := dpAll_at hda (k := i) (d := hunkD h) (by rw [List.getElem?_map, hrt]; rfl)
      obtain ⟨z, g, m, rfl, hz, hg, hm⟩ := of_hunk hv2
      have ed : f.drop i = h :: f.drop (i + 1) := by rw [List.drop_eq_getElem_cons hi, ← eh]
      rw [ed, touchI] at hno
      refine ⟨_, rfl, b, _, rfl, .inr hb, _, rfl, by omega, by omega, ?_⟩
      have en2 : ((vs.length : Nat) : Int).toNat = s.length := by omega
      rw [en2]
      refine for_it walk_range (fun j σ H' => ∃ (x3 : Option V), σ = [some (.ref a), some (.ref b), some (.int (i : Int)), x3] ∧ H' = H5 ∧ touchJ h j (s.drop j) = touchJ h 0 s) ?_ (fun _ _ _ _ _ => trivial) ?_ ?_
      · exact ⟨_, rfl, rfl, rfl⟩
      · rintro j x σ H6o H6 hj ⟨x3, rfl, rfl, hno2⟩ ⟨rfl, hx⟩
        have ej : (0 : Int) + (j : Nat) = ((j : Nat) : Int) := by omega
        obtain rfl : x = V.int (j : Int) := hx.trans (congrArg V.int ej)
        obtain ⟨h2, eh2⟩ : ∃ h2, h2 = s[j] := ⟨_, rfl⟩
        have hrt2 : s[j]? = some h2 := by rw [List.getElem?_eq_getElem hj, eh2]
        obtain ⟨v, hv1', hv2'⟩ := dpAll_at hdb (k := j) (d := hunkD h2) (by rw [List.getElem?_map, hrt2]; rfl)
        obtain ⟨z2, g2, m2, rfl, hz2, hg2, hm2⟩ := of_hunk hv2'
        have ed2 : s.drop j = h2 :: s.drop (j + 1) := by rw [List.drop_eq_getElem_cons hj, ← eh2]
        rw [ed2, touchJ] at hno2
        refine tAnd_pure (x := decide ((h.start : Int) ≤ (h2.start : Int) + (((h2.gone.map V.str).length : Nat) : Int))) (y := decide ((h2.start : Int) ≤ (h.start : Int) + (((h.gone.map V.str).length : Nat) : Int)))
          (fun Q h' => ⟨_, rfl, _, rfl, a, _, _, _, rfl, rfl, ha, atI_nat hv1, z, _, _, _, rfl, rfl, hz, at_head, _, rfl, _, rfl, b, _, _, _, rfl, rfl, hb, atI_nat hv1', z2, _, _, _, rfl, rfl, hz2, at_head, _, rfl, _, rfl, b, _, _, _, rfl, rfl, hb, atI_nat hv1', z2, _, _, _, rfl, rfl, hz2, rfl, g2, _, rfl, .inr hg2, _, _, rfl, rfl, _, _, rfl, rfl, _, rfl, h'⟩)
          (fun Q h' => ⟨_, rfl, _, rfl, b, _, _, _, rfl, rfl, hb, atI_nat hv1', z2, _, _, _, rfl, rfl, hz2, at_head, _, rfl, _, rfl, a, _, _, _, rfl, rfl, ha, atI_nat hv1, z, _, _, _, rfl, rfl, hz, at_head, _, rfl, _, rfl, a, _, _, _, rfl, rfl, ha, atI_nat hv1, z, _, _, _, rfl, rfl, hz, rfl, g, _, rfl, .inr hg, _, _, rfl, rfl, _, _, rfl, rfl, _, rfl, h'⟩) ?_
        refine ite2 (fun e => ?_) (fun e => ?_)
        · refine ⟨_, rfl, _, rfl, by show 2 ≤ sizeLine; decide, fun p hp => ?_⟩
          rw [Bool.and_eq_true, decide_eq_true_eq, decide_eq_true_eq, List.length_map, List.length_map] at e
          have hb' : touchB h h2 = true := touchB_iff.mpr ⟨by have := e.1; omega, by have := e.2; omega⟩
          rw [if_pos hb'] at hno2
          rw [← hno2] at hno
          have hno : some (i, j) = touchF f s := hno
          refine k _ _ (same_new hp) ?_ (.inr ⟨p, (i, j), rfl, hno.symm⟩)
          rw [← hno]
          exact dp_pair (.inl (.inl upd_same))
        · refine ⟨_, rfl, rfl, ?_⟩
          rw [if_neg (fun q => ?_)] at hno2
          · exact hno2
          · apply e
            have q := touchB_iff.mp q
            rw [Bool.and_eq_true, decide_eq_true_eq, decide_eq_true_eq, List.length_map, List.length_map]
            have q1 := q.1
            have q2 := q.2
            omega
      · rintro σ H6 ⟨x3, rfl, rfl, hno2⟩
        rw [List.drop_length, touchJ] at hno2
        rw [← hno2] at hno
        exact ⟨_, _, rfl, rfl, hno⟩
    · rintro σ H5 ⟨x2, x3, rfl, rfl, hno⟩
      rw [List.drop_length, touchI] at hno
      exact k _ _ (fun _ _ e => e) (by rw [← hno]; exact .non) (.inl ⟨rfl, hno.symm⟩)
end
abbrev s__law_back : Stmt := topS 40
theorem sc__law_back : FnScope ["patch", "found", "k", "moved", "hunk"] ["patch"] (defScope s__law_back) := ⟨rfl, rfl, rfl, by decide +kernel, rfl, by decide +kernel, by decide +kernel⟩
theorem back_at : ∀ (hs : List Hunk) (i j k : Nat) (h : Hunk) {n m : Nat}, Sep n m hs → i ≤ m → hs[k]? = some h → ∃ g, (backF i j hs)[k]? = some g ∧ g.gone = h.come ∧ g.come = h.gone ∧ (g.start : Int) = (h.start : Int) + ((j : Int) - (i : Int)) - sumD (hs.take k)
  | [], _, _, _, _, _, _, _, _, h => by cases h
  | h :: r, i, j, 0, g, n, m, ⟨s1, s2, s3⟩, im, e => by
    have e := Option.some.inj e
    subst e
    refine ⟨_, rfl, rfl, rfl, ?_⟩
    show ((j + (h.start - i) : Nat) : Int) = _ - 0
    omega
  | h :: r, i, j, k + 1, g, n, m, ⟨s1, s2, s3⟩, im, e => by
    obtain ⟨x, x1, x2, x3, x4⟩ := back_at r (h.start + h.gone.length) (j + (h.start - i) + h.come.length) k g s3 (Nat.le_succ _) e
    refine ⟨x, x1, x2, x3, ?_⟩
    rw [x4, List.take_succ_cons, sumD_cons]
    omega
section
variable {P : Program} {w : World} {K : PySem.W.Frag} {mg : Str → Option Value} {base : Heap}
theorem ok_lback {f : Addr} {fd : FuncData} (F : Fun K "_law_back" "_law_back" s__law_back f fd) (T0 : Txt0 mg) (z_sum : mg "sum" = none) : FnOk P w K mg base CX0 1 f fd ["patch"] (spBack K) := by
  refine F.ok sc__law_back (fun vs H Q E h => ?_) (fun cdv A outer s H vs Q E hr h => ?_)
  · obtain ⟨a, hs, n, rfl, _⟩ := h
    rfl
  · obtain ⟨a, hs, n, rfl, hA, hl, sp, k⟩ := h
    refine ⟨_, (pss_cons (ps_set (i := 1) sc__law_back.nd rfl (Or.inl rfl) (pe_lst pa_nil))
      (pss_cons (ps_for PassesOwn.never rfl (pi_range1 (by rfl) T0.z_range (pa_cons (pe_callB call_len_seq (by rfl) T0.z_len PySem.boot_len (pa_cons (pv 0) pa_nil)) pa_nil)) (pg_name (i := 2) sc__law_back.nd rfl (Or.inl rfl))
        (pss_cons (ps_set (i := 3) sc__law_back.nd rfl (Or.inl rfl) (pe_callB (cr_sum rfl) (by rfl) z_sum (by decide +kernel) (pa_cons (pe_lc (own := [("hunk", 4)]) (g := gName 4) (tt := tYes) rfl sc__law_back.nd (pi_tup (pe_slice sl_tupA (pv 0) po_none (po_some (pv 2)))) (blkOk_by (own := [("hunk", 4)]) (N := ["patch", "found", "k", "moved", "hunk"]) (sc := defScope s__law_back) (by decide +kernel)) (fun _ _ _ _ _ => (pg_name (i := 4) sc__law_back.nd rfl (Or.inl rfl))) (fun _ _ _ _ _ => pts_nil) (fun _ _ _ _ _ => (pe_op op_sub (pe_callB (call_lenQ (K := K) rfl) (by rfl) T0.z_len PySem.boot_len (pa_cons (pe_ix (ix_tupQ (K := K) rfl) (pv 4) pe_int (fun _ _ => rfl)) pa_nil)) (pe_callB (call_lenQ (K := K) rfl) (by rfl) T0.z_len PySem.boot_len (pa_cons (pe_ix (ix_tupQ (K := K) rfl) (pv 4) pe_int (fun _ _ => rfl)) pa_nil))))) pa_nil)))
        (pss_one (ps_expr (pe_bm PySem.F.plainAttrs_list PySem.F.slot_list_append PySem.F.type_list_append mt_append (pv 1) (pa_cons (pe_tup (pa_cons (pe_op op_add (pe_ix ix_tup (pe_ix ix_tup (pv 0) (pv 2) (fun _ _ => rfl)) pe_int (fun _ _ => rfl)) (pv 3)) (pa_cons (pe_ix ix_tup (pe_ix ix_tup (pv 0) (pv 2) (fun _ _ => rfl)) pe_int (fun _ _ => rfl)) (pa_cons (pe_ix ix_tup (pe_ix ix_tup (pv 0) (pv 2) (fun _ _ => rfl)) pe_int (fun _ _ => rfl)) pa_nil)))) pa_nil))))))
      (pss_one (ps_ret (pe_callTy call_tuple_of (by rfl) T0.z_tuple (by decide +kernel) (pa_cons (pv 1) pa_nil)))))), ?_⟩
    obtain ⟨a', ws, ea, ha, hd⟩ := of_tupD hA
    cases ea
    have lw : ws.length = hs.length := by rw [dpAll_len hd, List.length_map]
    refine ⟨by show 0 ≤ sizeLine; decide, fun fo hfo => ?_⟩
    have s0 : Same H (upd H fo (.lst [])) := same_new hfo
    refine ⟨_, rfl, a, _, rfl, .inr (s0.seqT ha), _, rfl, by omega, by omega, ?_⟩
    have en : ((ws.length : Nat) : Int).toNat = hs.length := by omega
    rw [en]
    have ebl := back_len hs 0 0
    refine for_it walk_range (fun c σ H' => ∃ (vs : List V) (x2 x3 : Option V), σ = [some (.ref a), some (.ref fo), x2, x3, none] ∧ Same H H' ∧ H' fo = some (.lst vs) ∧ DpAll K H' vs (((backF 0 0 hs).take c).map hunkD)) ?_ (fun _ _ _ _ _ => trivial) ?_ ?_
    · exact ⟨[], none, none, rfl, s0, upd_same, .nil⟩
    · rintro c x σ H5o H5 hc ⟨vs, x2, x3, rfl, sm, hv, hdd⟩ ⟨rfl, hx⟩
      have ei : (0 : Int) + (c : Nat) = ((c : Nat) : Int) := by omega
      obtain rfl : x = V.int (c : Int) := hx.trans (congrArg V.int ei)
      obtain ⟨h, ht⟩ : ∃ h, h = hs[c] := ⟨_, rfl⟩
      have hf : hs[c]? = some h := by rw [List.getElem?_eq_getElem hc, ht]
      obtain ⟨v, hv1, hv2⟩ := dpAll_at (hunks_keep (TK.same sm) hd) (k := c) (d := hunkD h) (by rw [List.getElem?_map, hf]; rfl)
      obtain ⟨z, g, m, rfl, hz, hg, hm⟩ := of_hunk hv2
      have ha5 := sm.seqT ha
      refine ⟨_, rfl, ?_⟩
      dsimp only [tNoPart]
      refine ⟨_, rfl, _, rfl, sl_tupK ha5 fun H6 p s6 hp => ?_⟩
      rw [cutV_to] at hp
      have sm6 := sm.trans s6
      refine ⟨p, rfl, ⟨_, hp⟩, fun D hD => ?_⟩
      refine lc_tup (xs := ws.take c) (fun t H' => H' D = some (.lst (((hs.take t).map fun h => (h.come.length : Int) - (h.gone.length : Int)).map V.int)) ∧ Same H6 H') ⟨upd_same, same_new hD⟩ (fun t H' _ h => h.2.seqT hp) ?_ ?_
      · rintro t x H7 hx ⟨hys, s7⟩
        have htc : t < c := by
          have := (List.getElem?_eq_some_iff.mp hx).1
          rw [List.length_take] at this
          omega
        rw [List.getElem?_take_of_lt htc] at hx
        have hrt : hs[t]? = some hs[t] := List.getElem?_eq_getElem (show t < hs.length by omega)
        obtain ⟨v', hv1', hv2'⟩ := dpAll_at (hunks_keep (TK.same (sm6.trans s7)) hd) (k := t) (d := hunkD hs[t]) (by rw [List.getElem?_map, hrt]; rfl)
        obtain rfl : v' = x := Option.some.inj (hv1'.symm.trans hx)
        obtain ⟨z', g', m', rfl, hz', hg', hm'⟩ := of_hunk hv2'
        have etk : hs.take (t + 1) = hs.take t ++ [hs[t]] := by rw [List.take_succ, hrt]; rfl
        refine ⟨rfl, _, rfl, z', _, _, _, rfl, rfl, hz', rfl, m', _, rfl, .inr hm', _, rfl, z', _, _, _, rfl, rfl, hz', rfl, g', _, rfl, .inr hg', _, _, rfl, rfl, _, hys, ?_, ?_, same_mut s7 hD⟩
        · rw [List.length_map, List.length_map, List.length_take]
          exact Nat.lt_of_le_of_lt (show min t hs.length ≤ 1000 by omega) (by decide)
        · rw [upd_same, etk, List.map_append, List.map_append, List.length_map, List.length_map]
          rfl
      rintro H7 ⟨hys, s7⟩
      rw [List.length_take, Nat.min_eq_left (by omega)] at hys
      refine ⟨D, _, rfl, SqL.of hys, ?_⟩
      have esum : ∀ l : List Hunk, (l.map fun h => (h.come.length : Int) - (h.gone.length : Int)).sum = - sumD l := by
        intro l
        induction l with
        | nil => rfl
        | cons y r ih =>
          rw [sumD_cons, List.map_cons, List.sum_cons, ih]
          omega
      have sm7 := sm6.trans s7
      have s57 := s6.trans s7
      have ha7 := sm7.seqT ha
      have hz7 := s57.seqT hz
      have hv7 := s57 _ _ hv
      obtain ⟨y, y1, y2, y3, y4⟩ := back_at hs 0 0 c h sp (Nat.le_refl _) hf
      have lvs : vs.length < sizeLine := by
        rw [dpAll_len hdd, List.length_map, List.length_take]
        exact Nat.lt_of_le_of_lt (show min c _ ≤ 1000 by omega) (by decide)
      have ebt : (backF 0 0 hs).take (c + 1) = (backF 0 0 hs).take c ++ [y] := by rw [List.take_succ, y1]; rfl
      have eo : ([.int (y.start : Int), .ref m, .ref g] : List V) = [.int ((h.start : Int) + ((hs.take c).map fun h => (h.come.length : Int) - (h.gone.length : Int)).sum), .ref m, .ref g] := by
        rw [esum, y4]
        congr 2
        try omega
      refine ⟨_, rfl, .inl ⟨rfl, _, SqL.of hv7⟩, _, rfl, _, rfl, a, _, _, _, rfl, rfl, ha7, atI_nat hv1, z, _, _, _, rfl, rfl, hz7, at_head, _, rfl, _, _, rfl, rfl, _, rfl, _, rfl, a, _, _, _, rfl, rfl, ha7, atI_nat hv1, z, _, _, _, rfl, rfl, hz7, rfl, _, rfl, _, rfl, a, _, _, _, rfl, rfl, ha7, atI_nat hv1, z, _, _, _, rfl, rfl, hz7, rfl, by show 3 ≤ sizeLine; decide, fun q hq => ?_⟩
      have h2 : upd H7 q (.tup [.int ((h.start : Int) + ((hs.take c).map fun h => (h.come.length : Int) - (h.gone.length : Int)).sum), .ref m, .ref g]) fo = some (.lst vs) := by rw [upd_ne (ne_of_none hv7 hq)]; exact hv7
      refine ⟨fo, vs, _, rfl, rfl, h2, lvs, ?_⟩
      have tk := (TK.new (K := K) (o := .tup [.int ((h.start : Int) + ((hs.take c).map fun h => (h.come.length : Int) - (h.gone.length : Int)).sum), .ref m, .ref g]) hq).trans (TK.lst (o := .lst (vs ++ [.ref q])) h2)
      refine ⟨vs ++ [.ref q], _, _, rfl, same_mut (sm7.trans (same_new hq)) hfo, upd_same, ?_⟩
      rw [ebt, List.map_append]
      refine dpAll_app (hunks_keep ((TK.same s57).trans tk) hdd) (dpAll_one (dp_hunk (h := y) (b := m) (c := g) (by rw [eo]; exact TK.lst h2 _ _ (.inl (.inl upd_same))) ?_ ?_))
      · rw [y2]; exact (TK.same s57).trans tk _ _ hm
      · rw [y3]; exact (TK.same s57).trans tk _ _ hg
    · rintro σ H5 ⟨vs, x2, x3, rfl, sm, hv, hdd⟩
      rw [← ebl, List.take_length] at hdd
      refine ⟨_, rfl, fo, _, rfl, .inl ⟨SqL.of hv, fun l hl' => ?_⟩⟩
      exact k _ _ (sm.trans (same_new hl')) (.tup (.inl (.inl upd_same)) (hunks_keep (TK.new hl') hdd))
end
end VK
end

section
set_option Elab.async false
set_option linter.all false
set_option pp.maxSteps 1500
set_option maxRecDepth 100000
set_option maxHeartbeats 4000000
namespace VK
open PySem L2
theorem pa_spec {n p : Nat} : ∀ {hs : List Hunk} {i j k : Nat}, Sep n k hs → i ≤ k → i ≤ p → optI (paF i j hs p) = if (hs.any fun h => decide (h.start ≤ p) && decide (p ≤ h.start + h.gone.length)) = true then V.non else V.int ((p : Int) + ((j : Int) - (i : Int)) - sumD (hs.filter fun h => decide (h.start + h.gone.length < p)))
  | [], i, j, k, _, _, ip => by
    rw [paF]
    show V.int ((j + (p - i) : Nat) : Int) = if false = true then V.non else V.int ((p : Int) + ((j : Int) - (i : Int)) - 0)
    rw [if_neg (by decide)]
    congr 1
    omega
  | h :: r, i, j, k, ⟨s1, s2, s3⟩, ik, ip => by
    rw [paF, List.any_cons]
    by_cases c : p < h.start
    · rw [if_pos c]
      have e1 : (r.any fun h => decide (h.start ≤ p) && decide (p ≤ h.start + h.gone.length)) = false := List.any_eq_false.mpr fun g hg => by
        have := (s3.ge g hg).1
        simp
        omega
      have e2 : (h :: r).filter (fun h => decide (h.start + h.gone.length < p)) = [] := List.filter_eq_nil_iff.mpr fun g hg => by
        rcases List.mem_cons.mp hg with rfl | hg
        · simp; omega
        · have := (s3.ge g hg).1
          simp
          omega
      rw [e1, e2, decide_eq_false (show ¬ h.start ≤ p by omega)]
      show V.int ((j + (p - i) : Nat) : Int) = V.int ((p : Int) + ((j : Int) - (i : Int)) - 0)
      congr 1
      omega
    · rw [if_neg c]
      by_cases c2 : p ≤ h.start + h.gone.length
      · rw [if_pos c2, decide_eq_true (show h.start ≤ p by omega), decide_eq_true c2]
        rfl
      · rw [if_neg c2, pa_spec s3 (Nat.le_succ _) (by omega), decide_eq_true (show h.start ≤ p by omega), decide_eq_false c2, Bool.and_false, Bool.false_or,
          List.filter_cons_of_pos (p := fun h : Hunk => decide (h.start + h.gone.length < p)) (decide_eq_true (by omega)), sumD_cons]
        congr 2
        omega
theorem la_spec {n p : Nat} : ∀ {hs : List Hunk} {i j k : Nat}, Sep n k hs → i ≤ k → i ≤ p → optI (laF i j hs p) = if (hs.any fun h => decide (h.start ≤ p) && decide (p < h.start + h.gone.length)) = true then V.non else V.int ((p : Int) + ((j : Int) - (i : Int)) - sumD (hs.filter fun h => decide (h.start + h.gone.length ≤ p)))
  | [], i, j, k, _, _, ip => by
    rw [laF]
    show V.int ((j + (p - i) : Nat) : Int) = if false = true then V.non else V.int ((p : Int) + ((j : Int) - (i : Int)) - 0)
    rw [if_neg (by decide)]
    congr 1
    omega
  | h :: r, i, j, k, ⟨s1, s2, s3⟩, ik, ip => by
    rw [laF, List.any_cons]
    by_cases c : p < h.start
    · rw [if_pos c]
      have e1 : (r.any fun h => decide (h.start ≤ p) && decide (p < h.start + h.gone.length)) = false := List.any_eq_false.mpr fun g hg => by
        have := (s3.ge g hg).1
        simp
        omega
      have e2 : (h :: r).filter (fun h => decide (h.start + h.gone.length ≤ p)) = [] := List.filter_eq_nil_iff.mpr fun g hg => by
        rcases List.mem_cons.mp hg with rfl | hg
        · simp; omega
        · have := (s3.ge g hg).1
          simp
          omega
      rw [e1, e2, decide_eq_false (show ¬ h.start ≤ p by omega)]
      show V.int ((j + (p - i) : Nat) : Int) = V.int ((p : Int) + ((j : Int) - (i : Int)) - 0)
      congr 1
      omega
    · rw [if_neg c]
      by_cases c2 : p < h.start + h.gone.length
      · rw [if_pos c2, decide_eq_true (show h.start ≤ p by omega), decide_eq_true c2]
        rfl
      · rw [if_neg c2, la_spec s3 (Nat.le_succ _) (by omega), decide_eq_true (show h.start ≤ p by omega), decide_eq_false c2, Bool.and_false, Bool.false_or,
          List.filter_cons_of_pos (p := fun h : Hunk => decide (h.start + h.gone.length ≤ p)) (decide_eq_true (by omega)), sumD_cons]
        congr 2
        omega
abbrev s__law_places : Stmt := topS 41
theorem sc__law_places : FnScope ["patch", "many", "place", "moved", "inside", "gone", "hunk"] ["patch", "many"] (defScope s__law_places) := ⟨rfl, rfl, rfl, by decide +kernel, rfl, by decide +kernel, by decide +kernel⟩
def spPlaces (K : PySem.W.Frag) : Sp := fun vs H Q _ => ∃ (a : Addr) (hs : List Hunk) (many n : Nat), vs = [.ref a, .int (many : Int)] ∧ Dp K H (.ref a) (hunksD hs) ∧ hs.length ≤ 1000 ∧ many ≤ 100000 ∧ Sep n 0 hs ∧ ∀ H' : Hp, Same H H' → Q (.bl true) H'
section
variable {P : Program} {w : World} {K : PySem.W.Frag} {mg : Str → Option Value} {base : Heap}
theorem ok_places {f fP fL : Addr} {fd fdP fdL : FuncData} (F : Fun K "_law_places" "_law_places" s__law_places f fd) (T0 : Txt0 mg) (z_sum : mg "sum" = none) (z_any : mg "any" = none) (D_place_after : Df K mg "place_after" s_place_after ["patch", "place"] fP fdP) (D_line_after : Df K mg "line_after" s_line_after ["patch", "place"] fL fdL) : FnOk P w K mg base CX0 2 f fd ["patch", "many"] (spPlaces K) := by
  have G_place_after : FnOk P w K mg base CX0 1 fP fdP ["patch", "place"] (spPlaceA K) := ok_place D_place_after.F T0
  have G_line_after : FnOk P w K mg base CX0 1 fL fdL ["patch", "place"] (spLineA K) := ok_line D_line_after.F T0
  refine F.ok sc__law_places (fun vs H Q E h => ?_) (fun cdv A outer s H vs Q E hr h => ?_)
  · obtain ⟨a, hs, many, n, rfl, _⟩ := h
    rfl
  · obtain ⟨a, hs, many, n, rfl, hA, hl, hm, sp, k⟩ := h
    refine ⟨_, (pss_cons (ps_for PassesOwn.never rfl (pi_range1 (by rfl) T0.z_range (pa_cons (pe_op op_add (pv 1) pe_int) pa_nil)) (pg_name (i := 2) sc__law_places.nd rfl (by first | exact Or.inl rfl | exact Or.inr rfl))
        (pss_cons (ps_set (i := 3) sc__law_places.nd rfl (Or.inl rfl) (pe_callB (cr_sum rfl) (by rfl) z_sum (by decide +kernel) (pa_cons (pe_lc (own := [("hunk", 6)]) (g := gName 6) (tt := _) rfl sc__law_places.nd (pi_tup (pv 0)) (blkOk_by (own := [("hunk", 6)]) (N := ["patch", "many", "place", "moved", "inside", "gone", "hunk"]) (sc := defScope s__law_places) (by decide +kernel)) (fun _ _ _ _ _ => (pg_name (i := 6) sc__law_places.nd rfl (by first | exact Or.inl rfl | exact Or.inr rfl))) (fun _ _ _ _ _ => (pts_one (pt_cmpR op_lt (pe_op op_add (pe_ix (ix_tupQ (K := K) rfl) (pv 6) pe_int (fun _ _ => rfl)) (pe_callB (call_lenQ (K := K) rfl) (by rfl) T0.z_len PySem.boot_len (pa_cons (pe_ix (ix_tupQ (K := K) rfl) (pv 6) pe_int (fun _ _ => rfl)) pa_nil))) (pv 2) (nomark _)))) (fun _ _ _ _ _ => (pe_op op_sub (pe_callB (call_lenQ (K := K) rfl) (by rfl) T0.z_len PySem.boot_len (pa_cons (pe_ix (ix_tupQ (K := K) rfl) (pv 6) pe_int (fun _ _ => rfl)) pa_nil)) (pe_callB (call_lenQ (K := K) rfl) (by rfl) T0.z_len PySem.boot_len (pa_cons (pe_ix (ix_tupQ (K := K) rfl) (pv 6) pe_int (fun _ _ => rfl)) pa_nil))))) pa_nil)))
        (pss_cons (ps_set (i := 4) sc__law_places.nd rfl (Or.inl rfl) (pe_callB (cr_any rfl) (by rfl) z_any (by decide +kernel) (pa_cons (pe_lc (own := [("hunk", 6)]) (g := gName 6) (tt := tYes) rfl sc__law_places.nd (pi_tup (pv 0)) (blkOk_by (own := [("hunk", 6)]) (N := ["patch", "many", "place", "moved", "inside", "gone", "hunk"]) (sc := defScope s__law_places) (by decide +kernel)) (fun _ _ _ _ _ => (pg_name (i := 6) sc__law_places.nd rfl (by first | exact Or.inl rfl | exact Or.inr rfl))) (fun _ _ _ _ _ => pts_nil) (fun _ _ _ _ _ => (pe_chain op_le op_le (pe_ix (ix_tupQ (K := K) rfl) (pv 6) pe_int (fun _ _ => rfl)) (pv 2) (pe_op op_add (pe_ix (ix_tupQ (K := K) rfl) (pv 6) pe_int (fun _ _ => rfl)) (pe_callB (call_lenQ (K := K) rfl) (by rfl) T0.z_len PySem.boot_len (pa_cons (pe_ix (ix_tupQ (K := K) rfl) (pv 6) pe_int (fun _ _ => rfl)) pa_nil)))))) pa_nil)))
        (pss_cons (ps_if (pt_cmpR op_ne (pe_call G_place_after (hr.mono (by decide)) rfl D_place_after.m D_place_after.F.kp D_place_after.b .nil pass0 (pa_cons (pv 0) (pa_cons (pv 2) pa_nil))) (pe_ifExp (pt_val (pv 4)) pe_non (pe_op op_add (pv 2) (pv 3))) (nomark _))
          (pss_one (ps_ret pe_bl))
          pss_nil)
        (pss_cons (ps_set (i := 5) sc__law_places.nd rfl (Or.inl rfl) (pe_callB (cr_any rfl) (by rfl) z_any (by decide +kernel) (pa_cons (pe_lc (own := [("hunk", 6)]) (g := gName 6) (tt := tYes) rfl sc__law_places.nd (pi_tup (pv 0)) (blkOk_by (own := [("hunk", 6)]) (N := ["patch", "many", "place", "moved", "inside", "gone", "hunk"]) (sc := defScope s__law_places) (by decide +kernel)) (fun _ _ _ _ _ => (pg_name (i := 6) sc__law_places.nd rfl (by first | exact Or.inl rfl | exact Or.inr rfl))) (fun _ _ _ _ _ => pts_nil) (fun _ _ _ _ _ => (pe_chain op_le op_lt (pe_ix (ix_tupQ (K := K) rfl) (pv 6) pe_int (fun _ _ => rfl)) (pv 2) (pe_op op_add (pe_ix (ix_tupQ (K := K) rfl) (pv 6) pe_int (fun _ _ => rfl)) (pe_callB (call_lenQ (K := K) rfl) (by rfl) T0.z_len PySem.boot_len (pa_cons (pe_ix (ix_tupQ (K := K) rfl) (pv 6) pe_int (fun _ _ => rfl)) pa_nil)))))) pa_nil)))
        (pss_cons (ps_set (i := 3) sc__law_places.nd rfl (Or.inl rfl) (pe_callB (cr_sum rfl) (by rfl) z_sum (by decide +kernel) (pa_cons (pe_lc (own := [("hunk", 6)]) (g := gName 6) (tt := _) rfl sc__law_places.nd (pi_tup (pv 0)) (blkOk_by (own := [("hunk", 6)]) (N := ["patch", "many", "place", "moved", "inside", "gone", "hunk"]) (sc := defScope s__law_places) (by decide +kernel)) (fun _ _ _ _ _ => (pg_name (i := 6) sc__law_places.nd rfl (by first | exact Or.inl rfl | exact Or.inr rfl))) (fun _ _ _ _ _ => (pts_one (pt_cmpR op_le (pe_op op_add (pe_ix (ix_tupQ (K := K) rfl) (pv 6) pe_int (fun _ _ => rfl)) (pe_callB (call_lenQ (K := K) rfl) (by rfl) T0.z_len PySem.boot_len (pa_cons (pe_ix (ix_tupQ (K := K) rfl) (pv 6) pe_int (fun _ _ => rfl)) pa_nil))) (pv 2) (nomark _)))) (fun _ _ _ _ _ => (pe_op op_sub (pe_callB (call_lenQ (K := K) rfl) (by rfl) T0.z_len PySem.boot_len (pa_cons (pe_ix (ix_tupQ (K := K) rfl) (pv 6) pe_int (fun _ _ => rfl)) pa_nil)) (pe_callB (call_lenQ (K := K) rfl) (by rfl) T0.z_len PySem.boot_len (pa_cons (pe_ix (ix_tupQ (K := K) rfl) (pv 6) pe_int (fun _ _ => rfl)) pa_nil))))) pa_nil)))
        (pss_one (ps_if (PW.pt (pw_and (pt_cmpR op_lt (pv 2) (pv 1) (nomark _)) (pw_and1 (pt_cmpR op_ne (pe_call G_line_after (hr.mono (by decide)) rfl D_line_after.m D_line_after.F.kp D_line_after.b .nil pass0 (pa_cons (pv 0) (pa_cons (pv 2) pa_nil))) (pe_ifExp (pt_val (pv 5)) pe_non (pe_op op_add (pv 2) (pv 3))) (nomark _)))))
          (pss_one (ps_ret pe_bl))
          pss_nil))))))))
      (pss_one (ps_ret pe_bl))), ?_⟩
    obtain ⟨a', ws, ea, ha, hd⟩ := of_tupD hA
    cases ea
    have lw : ws.length = hs.length := by rw [dpAll_len hd, List.length_map]
    have esum : ∀ l : List Hunk, (l.map fun h => (h.come.length : Int) - (h.gone.length : Int)).sum = - sumD l := by
      intro l
      induction l with
      | nil => rfl
      | cons y r ih =>
        rw [sumD_cons, List.map_cons, List.sum_cons, ih]
        omega
    refine ⟨_, rfl, _, _, rfl, rfl, _, rfl, by omega, by omega, ?_⟩
    have en : ((many : Int) + 1).toNat = many + 1 := by omega
    rw [en]
    refine for_it walk_range (fun c σ H' => ∃ (x2 x3 x4 x5 : Option V), σ = [some (.ref a), some (.int (many : Int)), x2, x3, x4, x5, none] ∧ Same H H') ?_ (fun _ _ _ _ _ => trivial) ?_ ?_
    · exact ⟨none, none, none, none, rfl, fun _ _ e => e⟩
    · rintro p x σ H5o H5 hp ⟨x2, x3, x4, x5, rfl, sm⟩ ⟨rfl, hx⟩
      have ei : (0 : Int) + (p : Nat) = ((p : Nat) : Int) := by omega
      obtain rfl : x = V.int (p : Int) := hx.trans (congrArg V.int ei)
      have ha5 := sm.seqT ha

      refine ⟨_, rfl, a, rfl, ⟨_, ha5⟩, fun D1 hD1 => ?_⟩
      refine lc_tup (xs := ws) (fun t H' => H' D1 = some (.lst ((((hs.take t).filter fun h => decide (h.start + h.gone.length < p)).map fun h => (h.come.length : Int) - (h.gone.length : Int)).map V.int)) ∧ Same H5 H') ⟨upd_same, same_new hD1⟩ (fun t H' _ h => h.2.seqT ha5) ?_ ?_
      · rintro t x H7 hx ⟨hys, s7⟩
        have ht : t < hs.length := by rw [← lw]; exact (List.getElem?_eq_some_iff.mp hx).1
        have hrt : hs[t]? = some hs[t] := List.getElem?_eq_getElem ht
        obtain ⟨v', hv1', hv2'⟩ := dpAll_at (hunks_keep (TK.same (sm.trans s7)) hd) (k := t) (d := hunkD hs[t]) (by rw [List.getElem?_map, hrt]; rfl)
        obtain rfl : v' = x := Option.some.inj (hv1'.symm.trans hx)
        obtain ⟨z', g', m', rfl, hz', hg', hm'⟩ := of_hunk hv2'
        have etk : hs.take (t + 1) = hs.take t ++ [hs[t]] := by rw [List.take_succ, hrt]; rfl
        refine ⟨rfl, _, rfl, z', _, _, _, rfl, rfl, hz', at_head, _, rfl, z', _, _, _, rfl, rfl, hz', rfl, g', _, rfl, .inr hg', _, _, rfl, rfl, _, rfl, _, _, rfl, rfl, _, rfl, ?_⟩
        refine ite2 (fun e => ?_) (fun e => ?_)
        · have e' : hs[t].start + hs[t].gone.length < p := by
            have := of_decide_eq_true e
            rw [List.length_map] at this
            omega
          refine ⟨_, rfl, z', _, _, _, rfl, rfl, hz', rfl, m', _, rfl, .inr hm', _, rfl, z', _, _, _, rfl, rfl, hz', rfl, g', _, rfl, .inr hg', _, _, rfl, rfl, _, hys, ?_, ?_, same_mut s7 hD1⟩
          · rw [List.length_map, List.length_map]
            have := List.length_filter_le (fun h : Hunk => decide (h.start + h.gone.length < p)) (hs.take t)
            rw [List.length_take] at this
            exact Nat.lt_of_le_of_lt (show _ ≤ 1000 by omega) (by decide)
          · rw [upd_same, etk, List.filter_append, List.filter_cons_of_pos (p := fun h : Hunk => decide (h.start + h.gone.length < p)) (decide_eq_true e'), List.map_append, List.map_append, List.length_map, List.length_map]
            rfl
        · have e' : ¬ (hs[t].start + hs[t].gone.length < p) := fun q => e (decide_eq_true (by rw [List.length_map]; omega))
          refine ⟨?_, s7⟩
          rw [hys, etk, List.filter_append, List.filter_cons_of_neg (p := fun h : Hunk => decide (h.start + h.gone.length < p)) (by rw [decide_eq_true_eq]; exact e'), List.filter_nil, List.append_nil]
      rintro H6 ⟨hys1, s6⟩
      rw [lw, List.take_length] at hys1
      refine ⟨D1, _, rfl, SqL.of hys1, ?_⟩
      rw [esum]
      have sm6 := sm.trans s6
      have ha6 := sm6.seqT ha

      refine ⟨_, rfl, a, rfl, ⟨_, ha6⟩, fun D2 hD2 => ?_⟩
      refine lc_tup (xs := ws) (fun t H' => H' D2 = some (.lst (((hs.take t).map fun h => decide (h.start ≤ p) && decide (p ≤ h.start + h.gone.length)).map V.bl)) ∧ Same H6 H') ⟨upd_same, same_new hD2⟩ (fun t H' _ h => h.2.seqT ha6) ?_ ?_
      · rintro t x H7 hx ⟨hys, s7⟩
        have ht : t < hs.length := by rw [← lw]; exact (List.getElem?_eq_some_iff.mp hx).1
        have hrt : hs[t]? = some hs[t] := List.getElem?_eq_getElem ht
        obtain ⟨v', hv1', hv2'⟩ := dpAll_at (hunks_keep (TK.same (sm6.trans s7)) hd) (k := t) (d := hunkD hs[t]) (by rw [List.getElem?_map, hrt]; rfl)
        obtain rfl : v' = x := Option.some.inj (hv1'.symm.trans hx)
        obtain ⟨z', g', m', rfl, hz', hg', hm'⟩ := of_hunk hv2'
        have etk : hs.take (t + 1) = hs.take t ++ [hs[t]] := by rw [List.take_succ, hrt]; rfl
        have lacc : (((hs.take t).map fun h => decide (h.start ≤ p) && decide (p ≤ h.start + h.gone.length)).map V.bl).length < sizeLine := by
          rw [List.length_map, List.length_map, List.length_take]
          exact Nat.lt_of_le_of_lt (show min t hs.length ≤ 1000 by omega) (by decide)
        refine ⟨rfl, _, rfl, z', _, _, _, rfl, rfl, hz', at_head, _, rfl, _, _, rfl, rfl, _, rfl, ?_⟩
        refine ite2 (fun e => ?_) (fun e => ?_)
        · have e' : hs[t].start ≤ p := by
            have := of_decide_eq_true e
            omega
          refine ⟨_, rfl, z', _, _, _, rfl, rfl, hz', at_head, _, rfl, z', _, _, _, rfl, rfl, hz', rfl, g', _, rfl, .inr hg', _, _, rfl, rfl, _, _, rfl, rfl, _, hys, lacc, ?_, same_mut s7 hD2⟩
          rw [upd_same, etk, List.map_append, List.map_append, List.length_map]
          show _ = some (HO.lst (_ ++ [V.bl (decide (hs[t].start ≤ p) && (fun h : Hunk => decide (p ≤ h.start + h.gone.length)) hs[t])]))
          rw [decide_eq_true e', Bool.true_and]
          have ed : decide ((p : Int) ≤ (hs[t].start : Int) + ((hs[t].gone.length : Nat) : Int)) = decide (p ≤ hs[t].start + hs[t].gone.length) := decide_eq_decide.mpr (by omega)
          show _ = some (HO.lst (_ ++ [V.bl (decide (p ≤ hs[t].start + hs[t].gone.length))]))
          rw [← ed]
          try rfl
        · have e' : ¬ hs[t].start ≤ p := fun q => e (decide_eq_true (by omega))
          refine ⟨_, hys, lacc, ?_, same_mut s7 hD2⟩
          rw [upd_same, etk, List.map_append, List.map_append]
          show _ = some (HO.lst (_ ++ [V.bl (decide (hs[t].start ≤ p) && (fun h : Hunk => decide (p ≤ h.start + h.gone.length)) hs[t])]))
          rw [decide_eq_false e', Bool.false_and]
      rintro H7 ⟨hys2, s7⟩
      rw [lw, List.take_length] at hys2
      refine ⟨D2, _, rfl, SqL.of hys2, ?_⟩
      have sm7 := sm6.trans s7
      have eany : ∀ q : Hunk → Bool, (hs.map q).any id = hs.any q := fun q => by rw [List.any_map]; rfl
      rw [eany]
      have e1 := pa_spec (p := p) sp (Nat.le_refl 0) (Nat.zero_le p) (j := 0)
      obtain ⟨b1, eb1⟩ : ∃ b1, b1 = hs.any fun h => decide (h.start ≤ p) && decide (p ≤ h.start + h.gone.length) := ⟨_, rfl⟩
      rw [← eb1] at e1 ⊢
      have dA7 := dp_keep (TK.same sm7) _ _ (imm_hunks hs) hA
      obtain ⟨x6, ex6⟩ : ∃ x6 : Option V, x6 = none := ⟨_, rfl⟩
      try dsimp only [gName]
      refine cut (fun σ' H' => σ' = [some (.ref a), some (.int (many : Int)), some (.int (p : Int)), some (.int (- sumD (hs.filter fun h => decide (h.start + h.gone.length < p)))), some (.bl b1), x5, none] ∧ H' = H7) (fun nx hn => ?_) ?_
      · refine ⟨_, rfl, _, rfl, a, hs, p, n, rfl, dA7, hl, sp, ?_⟩
        rw [e1]
        refine ⟨_, rfl, b1, rfl, ?_⟩
        cases b1 with
        | true =>
          refine ite2 (fun _ => ?_) (fun e => absurd rfl e)
          rw [if_pos rfl]
          refine ⟨rfl, _, rfl, ?_⟩
          refine ite2 (fun e => by simp at e) (fun _ => ?_)
          exact hn _ _ ⟨rfl, rfl⟩
        | false =>
          refine ite2 (fun e => absurd e (by decide)) (fun _ => ?_)
          rw [if_neg (by decide)]
          refine ⟨_, rfl, _, rfl, _, _, rfl, rfl, ?_⟩
          refine ⟨rfl, _, rfl, ?_⟩
          refine ite2 (fun e => ?_) (fun _ => ?_)
          · exfalso
            have : (V.int ((p : Int) + (((0 : Nat) : Int) - ((0 : Nat) : Int)) - sumD (hs.filter fun h => decide (h.start + h.gone.length < p)))) = V.int ((p : Int) + (- sumD (hs.filter fun h => decide (h.start + h.gone.length < p)))) := by congr 1; try omega
            have e : (!decide (V.int ((p : Int) + (((0 : Nat) : Int) - ((0 : Nat) : Int)) - sumD (hs.filter fun h => decide (h.start + h.gone.length < p))) = V.int ((p : Int) + (- sumD (hs.filter fun h => decide (h.start + h.gone.length < p)))))) = true := e
            rw [this] at e
            simp at e
          · exact hn _ _ ⟨rfl, rfl⟩
      rintro σ8 H8 ⟨rfl, rfl⟩
      have ha7 := sm7.seqT ha
      refine ⟨_, rfl, a, rfl, ⟨_, ha7⟩, fun D3 hD3 => ?_⟩
      refine lc_tup (xs := ws) (fun t H' => H' D3 = some (.lst (((hs.take t).map fun h => decide (h.start ≤ p) && decide (p < h.start + h.gone.length)).map V.bl)) ∧ Same H8 H') ⟨upd_same, same_new hD3⟩ (fun t H' _ h => h.2.seqT ha7) ?_ ?_
      · rintro t x H7 hx ⟨hys, s7⟩
        have ht : t < hs.length := by rw [← lw]; exact (List.getElem?_eq_some_iff.mp hx).1
        have hrt : hs[t]? = some hs[t] := List.getElem?_eq_getElem ht
        obtain ⟨v', hv1', hv2'⟩ := dpAll_at (hunks_keep (TK.same (sm7.trans s7)) hd) (k := t) (d := hunkD hs[t]) (by rw [List.getElem?_map, hrt]; rfl)
        obtain rfl : v' = x := Option.some.inj (hv1'.symm.trans hx)
        obtain ⟨z', g', m', rfl, hz', hg', hm'⟩ := of_hunk hv2'
        have etk : hs.take (t + 1) = hs.take t ++ [hs[t]] := by rw [List.take_succ, hrt]; rfl
        have lacc : (((hs.take t).map fun h => decide (h.start ≤ p) && decide (p < h.start + h.gone.length)).map V.bl).length < sizeLine := by
          rw [List.length_map, List.length_map, List.length_take]
          exact Nat.lt_of_le_of_lt (show min t hs.length ≤ 1000 by omega) (by decide)
        refine ⟨rfl, _, rfl, z', _, _, _, rfl, rfl, hz', at_head, _, rfl, _, _, rfl, rfl, _, rfl, ?_⟩
        refine ite2 (fun e => ?_) (fun e => ?_)
        · have e' : hs[t].start ≤ p := by
            have := of_decide_eq_true e
            omega
          refine ⟨_, rfl, z', _, _, _, rfl, rfl, hz', at_head, _, rfl, z', _, _, _, rfl, rfl, hz', rfl, g', _, rfl, .inr hg', _, _, rfl, rfl, _, _, rfl, rfl, _, hys, lacc, ?_, same_mut s7 hD3⟩
          rw [upd_same, etk, List.map_append, List.map_append, List.length_map]
          show _ = some (HO.lst (_ ++ [V.bl (decide (hs[t].start ≤ p) && (fun h : Hunk => decide (p < h.start + h.gone.length)) hs[t])]))
          rw [decide_eq_true e', Bool.true_and]
          have ed : decide ((p : Int) < (hs[t].start : Int) + ((hs[t].gone.length : Nat) : Int)) = decide (p < hs[t].start + hs[t].gone.length) := decide_eq_decide.mpr (by omega)
          show _ = some (HO.lst (_ ++ [V.bl (decide (p < hs[t].start + hs[t].gone.length))]))
          rw [← ed]
          try rfl
        · have e' : ¬ hs[t].start ≤ p := fun q => e (decide_eq_true (by omega))
          refine ⟨_, hys, lacc, ?_, same_mut s7 hD3⟩
          rw [upd_same, etk, List.map_append, List.map_append]
          show _ = some (HO.lst (_ ++ [V.bl (decide (hs[t].start ≤ p) && (fun h : Hunk => decide (p < h.start + h.gone.length)) hs[t])]))
          rw [decide_eq_false e', Bool.false_and]
      rintro H9 ⟨hys3, s9⟩
      rw [lw, List.take_length] at hys3
      refine ⟨D3, _, rfl, SqL.of hys3, ?_⟩
      rw [eany]
      have sm9 := sm7.trans s9
      have ha9 := sm9.seqT ha
      refine ⟨_, rfl, a, rfl, ⟨_, ha9⟩, fun D4 hD4 => ?_⟩
      refine lc_tup (xs := ws) (fun t H' => H' D4 = some (.lst ((((hs.take t).filter fun h => decide (h.start + h.gone.length ≤ p)).map fun h => (h.come.length : Int) - (h.gone.length : Int)).map V.int)) ∧ Same H9 H') ⟨upd_same, same_new hD4⟩ (fun t H' _ h => h.2.seqT ha9) ?_ ?_
      · rintro t x H7 hx ⟨hys, s7⟩
        have ht : t < hs.length := by rw [← lw]; exact (List.getElem?_eq_some_iff.mp hx).1
        have hrt : hs[t]? = some hs[t] := List.getElem?_eq_getElem ht
        obtain ⟨v', hv1', hv2'⟩ := dpAll_at (hunks_keep (TK.same (sm9.trans s7)) hd) (k := t) (d := hunkD hs[t]) (by rw [List.getElem?_map, hrt]; rfl)
        obtain rfl : v' = x := Option.some.inj (hv1'.symm.trans hx)
        obtain ⟨z', g', m', rfl, hz', hg', hm'⟩ := of_hunk hv2'
        have etk : hs.take (t + 1) = hs.take t ++ [hs[t]] := by rw [List.take_succ, hrt]; rfl
        refine ⟨rfl, _, rfl, z', _, _, _, rfl, rfl, hz', at_head, _, rfl, z', _, _, _, rfl, rfl, hz', rfl, g', _, rfl, .inr hg', _, _, rfl, rfl, _, rfl, _, _, rfl, rfl, _, rfl, ?_⟩
        refine ite2 (fun e => ?_) (fun e => ?_)
        · have e' : hs[t].start + hs[t].gone.length ≤ p := by
            have := of_decide_eq_true e
            rw [List.length_map] at this
            omega
          refine ⟨_, rfl, z', _, _, _, rfl, rfl, hz', rfl, m', _, rfl, .inr hm', _, rfl, z', _, _, _, rfl, rfl, hz', rfl, g', _, rfl, .inr hg', _, _, rfl, rfl, _, hys, ?_, ?_, same_mut s7 hD4⟩
          · rw [List.length_map, List.length_map]
            have := List.length_filter_le (fun h : Hunk => decide (h.start + h.gone.length ≤ p)) (hs.take t)
            rw [List.length_take] at this
            exact Nat.lt_of_le_of_lt (show _ ≤ 1000 by omega) (by decide)
          · rw [upd_same, etk, List.filter_append, List.filter_cons_of_pos (p := fun h : Hunk => decide (h.start + h.gone.length ≤ p)) (decide_eq_true e'), List.map_append, List.map_append, List.length_map, List.length_map]
            rfl
        · have e' : ¬ (hs[t].start + hs[t].gone.length ≤ p) := fun q => e (decide_eq_true (by rw [List.length_map]; omega))
          refine ⟨?_, s7⟩
          rw [hys, etk, List.filter_append, List.filter_cons_of_neg (p := fun h : Hunk => decide (h.start + h.gone.length ≤ p)) (by rw [decide_eq_true_eq]; exact e'), List.filter_nil, List.append_nil]
      rintro H10 ⟨hys4, s10⟩
      rw [lw, List.take_length] at hys4
      refine ⟨D4, _, rfl, SqL.of hys4, ?_⟩
      rw [esum]
      have sm10 := sm9.trans s10
      have e2 := la_spec (p := p) sp (Nat.le_refl 0) (Nat.zero_le p) (j := 0)
      obtain ⟨b2, eb2⟩ : ∃ b2, b2 = hs.any fun h => decide (h.start ≤ p) && decide (p < h.start + h.gone.length) := ⟨_, rfl⟩
      rw [← eb2] at e2 ⊢
      have dA10 := dp_keep (TK.same sm10) _ _ (imm_hunks hs) hA
      refine ⟨_, rfl, _, rfl, _, _, rfl, rfl, _, rfl, ?_⟩
      refine ite2 (fun _ => ?_) (fun _ => ?_)
      · refine ⟨_, rfl, _, rfl, a, hs, p, n, rfl, dA10, hl, sp, ?_⟩
        rw [e2]
        refine ⟨_, rfl, b2, rfl, ?_⟩
        cases b2 with
        | true =>
          refine ite2 (fun _ => ?_) (fun e => absurd rfl e)
          rw [if_pos rfl]
          refine ⟨rfl, _, rfl, ?_⟩
          refine ite2 (fun e => by simp at e) (fun _ => ?_)
          exact ⟨_, _, _, _, rfl, sm10⟩
        | false =>
          refine ite2 (fun e => absurd e (by decide)) (fun _ => ?_)
          rw [if_neg (by decide)]
          refine ⟨_, rfl, _, rfl, _, _, rfl, rfl, ?_⟩
          refine ⟨rfl, _, rfl, ?_⟩
          refine ite2 (fun e => ?_) (fun _ => ?_)
          · exfalso
            have : (V.int ((p : Int) + (((0 : Nat) : Int) - ((0 : Nat) : Int)) - sumD (hs.filter fun h => decide (h.start + h.gone.length ≤ p)))) = V.int ((p : Int) + (- sumD (hs.filter fun h => decide (h.start + h.gone.length ≤ p)))) := by congr 1; try omega
            have e : (!decide (V.int ((p : Int) + (((0 : Nat) : Int) - ((0 : Nat) : Int)) - sumD (hs.filter fun h => decide (h.start + h.gone.length ≤ p))) = V.int ((p : Int) + (- sumD (hs.filter fun h => decide (h.start + h.gone.length ≤ p)))))) = true := e
            rw [this] at e
            simp at e
          · exact ⟨_, _, _, _, rfl, sm10⟩
      · exact ⟨_, _, _, _, rfl, sm10⟩
    · rintro σ H5 ⟨x2, x3, x4, x5, rfl, sm⟩
      exact k _ sm
end
end VK
end

section
set_option Elab.async false
set_option linter.all false
set_option pp.maxSteps 1500
set_option maxRecDepth 100000
set_option maxHeartbeats 4000000
namespace VK
open PySem L2
abbrev s__law_spans : Stmt := topS 43
theorem sc__law_spans : FnScope ["hunks", "found", "low", "high", "hunk"] ["hunks"] (defScope s__law_spans) := ⟨rfl, rfl, rfl, by decide +kernel, rfl, by decide +kernel, by decide +kernel⟩
theorem none_of' {H H' : Hp} (s : Same H H') {a : Addr} (h : H' a = none) : H a = none := by
  cases q : H a with
  | none => rfl
  | some o => rw [s _ _ q] at h; cases h
def spLSpans (K : PySem.W.Frag) : Sp := fun vs H Q _ => ∃ (a : Addr) (fs : List Hunk), vs = [.ref a] ∧ Dp K H (.ref a) (hunksD fs) ∧ fs.length ≤ 2000 ∧
  ∀ (H' : Hp) (l : Addr) (ws : List V), Same H H' → H' l = some (.lst ws) → DpAll K H' ws ((spansS (sortP (fs.map hspan))).map pairD) → Q (.ref l) H'
section
variable {P : Program} {w : World} {K : PySem.W.Frag} {mg : Str → Option Value} {base : Heap}
theorem ok_lspans {f : Addr} {fd : FuncData} (F : Fun K "_law_spans" "_law_spans" s__law_spans f fd) (T0 : Txt0 mg) (z_sorted : mg "sorted" = none) : FnOk P w K mg base CX0 1 f fd ["hunks"] (spLSpans K) := by
  refine F.ok sc__law_spans (fun vs H Q E h => ?_) (fun cdv A outer s H2 vs Q E hr h => ?_)
  · obtain ⟨a, fs, rfl, _⟩ := h
    rfl
  · obtain ⟨a, fs, rfl, hA, hfl, k⟩ := h
    refine ⟨_, (pss_cons (ps_set (i := 1) sc__law_spans.nd rfl (Or.inl rfl) (pe_lst pa_nil))
      (pss_cons (ps_for PassesOwn.never rfl (pi_list (pe_callB cr_sortedPO (by rfl) z_sorted (by decide +kernel) (pa_cons (pe_lc (own := [("hunk", 4)]) (g := gName 4) (tt := tYes) rfl sc__law_spans.nd (pi_tup (pv 0)) (blkOk_by (own := [("hunk", 4)]) (N := ["hunks", "found", "low", "high", "hunk"]) (sc := defScope s__law_spans) (by decide +kernel)) (fun _ _ _ _ _ => (pg_name (i := 4) sc__law_spans.nd rfl (Or.inl rfl))) (fun _ _ _ _ _ => pts_nil) (fun _ _ _ _ _ => (pe_tup (pa_cons (pe_ix (ix_tupQ (K := K) rfl) (pv 4) pe_int (fun _ _ => rfl)) (pa_cons (pe_op op_add (pe_ix (ix_tupQ (K := K) rfl) (pv 4) pe_int (fun _ _ => rfl)) (pe_callB (call_lenQ (K := K) rfl) (by rfl) T0.z_len PySem.boot_len (pa_cons (pe_ix (ix_tupQ (K := K) rfl) (pv 4) pe_int (fun _ _ => rfl)) pa_nil))) pa_nil))))) pa_nil))) (pg_tup rfl (pgs_cons (pg_name (i := 2) sc__law_spans.nd rfl (Or.inl rfl)) (pgs_cons (pg_name (i := 3) sc__law_spans.nd rfl (Or.inl rfl)) pgs_nil)))
        (pss_one (ps_if (PW.pt (pw_and (pt_cmpR op_gt (pe_callB call_len_seq (by rfl) T0.z_len PySem.boot_len (pa_cons (pv 1) pa_nil)) pe_int (nomark _)) (pw_and1 (pt_cmpR op_le (pv 2) (pe_ix ix_tup (pe_ix ix_list (pv 1) (pe_un un_neg pe_int) (fun _ _ => rfl)) pe_int (fun _ _ => rfl)) (nomark _)))))
          (pss_one (ps_set (i := 1) sc__law_spans.nd rfl (Or.inl rfl) (pe_op op_cat (pe_slice sl_list (pv 1) po_none (po_some (pe_un un_neg pe_int))) (pe_lst (pa_cons (pe_tup (pa_cons (pe_ix ix_tup (pe_ix ix_list (pv 1) (pe_un un_neg pe_int) (fun _ _ => rfl)) pe_int (fun _ _ => rfl)) (pa_cons (pe_callB (call_max2 rfl) (by rfl) T0.z_max (by decide +kernel) (pa_cons (pv 3) (pa_cons (pe_ix ix_tup (pe_ix ix_list (pv 1) (pe_un un_neg pe_int) (fun _ _ => rfl)) pe_int (fun _ _ => rfl)) pa_nil))) pa_nil))) pa_nil)))))
          (pss_one (ps_expr (pe_bm PySem.F.plainAttrs_list PySem.F.slot_list_append PySem.F.type_list_append mt_append (pv 1) (pa_cons (pe_tup (pa_cons (pv 2) (pa_cons (pv 3) pa_nil))) pa_nil)))))))
      (pss_one (ps_ret (pv 1))))), ?_⟩
    obtain ⟨a', us, ea, ha, hda⟩ := of_tupD hA
    cases ea
    have ln : us.length = fs.length := by rw [dpAll_len hda, List.length_map]
    refine ⟨by show 0 ≤ sizeLine; decide, fun fo hfo => ?_⟩
    obtain ⟨H4, e4⟩ : ∃ H4, H4 = upd H2 fo (.lst []) := ⟨_, rfl⟩
    rw [← e4]
    have s24 : Same H2 H4 := by rw [e4]; exact same_new hfo
    have hfo3 : H4 fo = some (.lst []) := by rw [e4, upd_same]
    have hc := s24.seqT ha
    have hd4 := hunks_keep (TK.same s24) hda
    refine ⟨_, rfl, ?_⟩
    refine ⟨a, rfl, ⟨_, hc⟩, fun D hD => ?_⟩
    refine lc_tup (xs := us) (fun t H' => ∃ ys, H' D = some (.lst ys) ∧ Same H4 H' ∧ PA H' ys ((fs.take t).map hspan)) ⟨[], upd_same, same_new hD, rfl, fun _ h => nomatch h⟩ (fun t H' _ h => by obtain ⟨ys, h1, h2, h3⟩ := h; exact h2.seqT hc) ?_ ?_
    · rintro t x H5 hx ⟨ys, hys, s5, hpa⟩
      have ht : t < fs.length := by rw [← ln]; exact (List.getElem?_eq_some_iff.mp hx).1
      obtain ⟨h, eh⟩ : ∃ h, h = fs[t] := ⟨_, rfl⟩
      have hrt : fs[t]? = some h := by rw [List.getElem?_eq_getElem ht, eh]
      obtain ⟨v, hv1, hv2⟩ := dpAll_at (hunks_keep (TK.same s5) hd4) (k := t) (d := hunkD h) (by rw [List.getElem?_map, hrt]; rfl)
      obtain rfl : v = x := Option.some.inj (hv1.symm.trans hx)
      obtain ⟨z, g, m, rfl, hz, hg, hm⟩ := of_hunk hv2
      have etk : fs.take (t + 1) = fs.take t ++ [h] := by rw [List.take_succ, hrt]; rfl
      have lys : ys.length < 1000000 := by
        have q1 := congrArg List.length hpa.eq
        rw [List.length_map, List.length_map, List.length_take] at q1
        omega
      refine ⟨rfl, _, rfl, z, _, _, _, rfl, rfl, hz, rfl, _, rfl, z, _, _, _, rfl, rfl, hz, rfl, _, rfl, z, _, _, _, rfl, rfl, hz, rfl, g, _, rfl, .inr hg, _, _, rfl, rfl, by show 2 ≤ sizeLine; decide, fun q hq => ?_⟩
      have hys2 : upd H5 q (.tup [.int (h.start : Int), .int ((h.start : Int) + ((h.gone.map V.str).length : Int))]) D = some (.lst ys) := by rw [upd_ne (ne_of_none hys hq)]; exact hys
      refine ⟨ys, hys2, Nat.lt_of_lt_of_le lys (by decide), ys ++ [.ref q], upd_same, same_mut (s5.trans (same_new hq)) hD, ?_⟩
      rw [etk, List.map_append]
      refine (hpa.same fun a xs e => ?_).snoc ?_
      · have n1 : a ≠ q := ne_of_none e hq
        have n2 : a ≠ D := by rintro rfl; rw [hys] at e; cases e
        rw [upd_ne n2, upd_ne n1]; exact e
      · have n2 : q ≠ D := by rintro rfl; rw [hys] at hq; cases hq
        rw [upd_ne n2, upd_same, List.length_map]
        rfl
    · rintro H5 ⟨ys, hys, s5, hpa⟩
      rw [ln, List.take_length] at hpa
      refine ⟨D, ys, kOf H5, rfl, SqL.of hys, fun x hx => ?_, fun zs p hz1 hz2 hp => ?_⟩
      · obtain ⟨t, i, j, rfl, ht⟩ := hpa.all x hx
        exact ⟨t, rfl, by rw [kOf_at ht]; exact ht⟩
      · obtain ⟨H6, e6⟩ : ∃ H6, H6 = upd H5 p (.lst zs) := ⟨_, rfl⟩
        rw [← e6]
        have s56 : Same H5 H6 := by rw [e6]; exact same_new hp
        have hp6 : H6 p = some (.lst zs) := by rw [e6, upd_same]
        obtain ⟨qs, eqs⟩ : ∃ qs, qs = sortP (fs.map hspan) := ⟨_, rfl⟩
        have hd6 : DpAll K H6 zs (qs.map pairD) := by
          rw [eqs]
          exact ((hpa.sorted hz1 hz2).same fun a xs e => s56 _ _ e).dp
        have lz : zs.length = qs.length := by rw [dpAll_len hd6, List.length_map]
        have lq : qs.length ≤ 2000 := by
          rw [eqs, (sortP_perm _).length_eq, List.length_map]
          omega
        have s46 : Same H4 H6 := s5.trans s56
        have hfo6 : H6 fo = some (.lst []) := s46 _ _ hfo3
        have s26 : Same H2 H6 := s24.trans s46
        have npf : p ≠ fo := fun e => by
          rw [e, s5 _ _ hfo3] at hp
          cases hp
        refine ⟨p, rfl, ⟨_, SqL.of hp6⟩, ?_⟩
        refine for_it (walk_list (xs := zs)) (fun i σ H' => ∃ (sp : Addr) (vs : List V) (dn : List (Nat × Nat)) (x6 x7 : Option V), σ = [some (.ref a), some (.ref sp), x6, x7, none] ∧ Same H2 H' ∧ H2 sp = none ∧ sp ≠ p ∧ TK K H6 H' ∧ H' p = some (.lst zs) ∧ H' sp = some (.lst vs) ∧ DpAll K H' vs (dn.map pairD) ∧ (qs.drop i).foldl addSpan dn = spansS (sortP (fs.map hspan)) ∧ dn.length ≤ i) ?_ (fun i σ H' _ h => ?_) ?_ ?_
        · exact ⟨fo, [], [], none, none, rfl, s26, hfo, npf.symm, TK.refl _ _, hp6, hfo6, .nil, by rw [eqs]; rfl, Nat.le_refl _⟩
        · obtain ⟨sp, vs, dn, x6, x7, rfl, h1, h2, h2', h3, h4, h5⟩ := h
          exact SqL.of h4
        · rintro i x σ H7o H7 hi ⟨sp, vs, dn, x6, x7, rfl, sm, hsp, nsp, tk, hpp, hv, hdd, hfold, hlen⟩ ⟨rfl, hx⟩
          have hcf : i < qs.length := by rw [← lz]; exact hi
          obtain ⟨⟨lo', hi'⟩, eq⟩ : ∃ q, q = qs[i] := ⟨_, rfl⟩
          have hf : qs[i]? = some (lo', hi') := by rw [List.getElem?_eq_getElem hcf, eq]
          obtain ⟨v, hv1, hv2⟩ := dpAll_at (pairs_keep tk hd6) (k := i) (d := pairD (lo', hi')) (by rw [List.getElem?_map, hf]; rfl)
          obtain rfl : v = x := Option.some.inj (hv1.symm.trans hx)
          obtain ⟨z, rfl, hz⟩ := of_pair hv2
          have ed : qs.drop i = (lo', hi') :: qs.drop (i + 1) := by rw [List.drop_eq_getElem_cons hcf, ← eq]
          rw [ed, List.foldl_cons] at hfold
          have lvd : vs.length = dn.length := by rw [dpAll_len hdd, List.length_map]
          have lvs : vs.length < sizeLine := Nat.lt_of_lt_of_le (show vs.length < 5000 by omega) (by decide)
          refine ⟨z, _, rfl, hz, rfl, _, _, rfl, _, _, rfl, rfl, ?_⟩
          refine ⟨_, rfl, sp, _, rfl, .inl (SqL.of hv), _, _, rfl, rfl, _, rfl, ?_⟩
          have app : addSpan dn (lo', hi') = dn ++ [(lo', hi')] → ∀ q, H7 q = none → ∃ (sp' : Addr) (vs' : List V) (dn' : List (Nat × Nat)) (x6 x7 : Option V), [some (V.ref a), some (.ref sp), some (.int (lo' : Int)), some (.int (hi' : Int)), none] = [some (V.ref a), some (.ref sp'), x6, x7, none] ∧ Same H2 (upd (upd H7 q (.tup [.int (lo' : Int), .int (hi' : Int)])) sp (.lst (vs ++ [.ref q]))) ∧ H2 sp' = none ∧ sp' ≠ p ∧ TK K H6 (upd (upd H7 q (.tup [.int (lo' : Int), .int (hi' : Int)])) sp (.lst (vs ++ [.ref q]))) ∧
              (upd (upd H7 q (.tup [.int (lo' : Int), .int (hi' : Int)])) sp (.lst (vs ++ [.ref q]))) p = some (.lst zs) ∧ (upd (upd H7 q (.tup [.int (lo' : Int), .int (hi' : Int)])) sp (.lst (vs ++ [.ref q]))) sp' = some (.lst vs') ∧ DpAll K (upd (upd H7 q (.tup [.int (lo' : Int), .int (hi' : Int)])) sp (.lst (vs ++ [.ref q]))) vs' (dn'.map pairD) ∧ (qs.drop (i + 1)).foldl addSpan dn' = spansS (sortP (fs.map hspan)) ∧ dn'.length ≤ i + 1 := fun e q hq => by
            have h2 : upd H7 q (.tup [.int (lo' : Int), .int (hi' : Int)]) sp = some (.lst vs) := by rw [upd_ne (ne_of_none hv hq)]; exact hv
            have tk2 := (TK.new (K := K) (o := .tup [.int (lo' : Int), .int (hi' : Int)]) hq).trans (TK.lst (o := .lst (vs ++ [.ref q])) h2)
            refine ⟨sp, vs ++ [.ref q], dn ++ [(lo', hi')], _, _, rfl, same_mut (sm.trans (same_new hq)) hsp, hsp, nsp, tk.trans tk2, ?_, upd_same, ?_, ?_, ?_⟩
            · rw [upd_ne nsp.symm, upd_ne (ne_of_none hpp hq)]; exact hpp
            · rw [List.map_append]
              exact dpAll_app (pairs_keep tk2 hdd) (dpAll_one (dp_pair (TK.lst h2 _ _ (.inl (.inl upd_same)))))
            · rw [← e]; exact hfold
            · rw [List.length_append]; exact Nat.succ_le_succ hlen
          rcases List.eq_nil_or_concat dn with rfl | ⟨init, w', rfl⟩
          · cases hdd
            refine iteF ?_
            refine iteF ?_
            refine ⟨_, rfl, .inl ⟨rfl, _, SqL.of hv⟩, _, rfl, _, rfl, by show 2 ≤ sizeLine; decide, fun q hq => ⟨sp, [], _, rfl, rfl, by rw [upd_ne (ne_of_none hv hq)]; exact hv, lvs, ?_⟩⟩
            exact app rfl q hq
          · rw [List.concat_eq_append] at *
            have lpv : decide ((vs.length : Int) > 0) = true := decide_eq_true (by rw [lvd, List.length_append, List.length_singleton]; omega)
            rw [lpv]
            refine iteT ?_
            rw [List.map_append] at hdd
            obtain ⟨us', v', rfl, hd1', hdv⟩ := dpAll_split hdd
            obtain ⟨z', rfl, hz'⟩ := of_pair hdv
            refine ⟨_, rfl, _, rfl, _, rfl, sp, _, _, _, rfl, rfl, SqL.of hv, at_last, z', _, _, _, rfl, rfl, hz', rfl, _, _, rfl, rfl, _, rfl, ?_⟩
            refine ite2 (fun e => ?_) (fun e => ?_)
            · have e' : lo' ≤ w'.2 := by
                have := of_decide_eq_true e
                omega
              refine ⟨_, rfl, ?_⟩
              dsimp only [tNoPart]
              refine ⟨_, rfl, _, rfl, sp, _, rfl, SqL.of hv, fun l1 hl1 => ?_⟩
              rw [cutV_init]
              obtain ⟨H8, e8⟩ : ∃ H8, H8 = upd H7 l1 (.lst us') := ⟨_, rfl⟩
              rw [← e8]
              have s78 : Same H7 H8 := by rw [e8]; exact same_new hl1
              have hl18 : H8 l1 = some (.lst us') := by rw [e8, upd_same]
              have hv8 := s78 _ _ hv
              have hz8 := s78.seqT hz'
              refine ⟨_, rfl, _, rfl, sp, _, _, _, rfl, rfl, SqL.of hv8, at_last, z', _, _, _, rfl, rfl, hz8, rfl, _, rfl, _, rfl, _, rfl, sp, _, _, _, rfl, rfl, SqL.of hv8, at_last, z', _, _, _, rfl, rfl, hz8, rfl, _, _, rfl, by show 2 ≤ sizeLine; decide, fun q hq => ⟨by show 1 ≤ sizeLine; decide, fun l2 hl2 => ?_⟩⟩
              have em : (if (w'.2 : Int) > (hi' : Int) then (w'.2 : Int) else (hi' : Int)) = ((max w'.2 hi' : Nat) : Int) := by
                by_cases z : (w'.2 : Int) > (hi' : Int)
                · rw [if_pos z]; omega
                · rw [if_neg z]; omega
              obtain ⟨H9, e9⟩ : ∃ H9, H9 = upd H8 q (.tup [.int (w'.1 : Int), .int (if (w'.2 : Int) > (hi' : Int) then (w'.2 : Int) else (hi' : Int))]) := ⟨_, rfl⟩
              rw [← e9] at hl2 ⊢
              have s89 : Same H8 H9 := by rw [e9]; exact same_new hq
              have hq9 : H9 q = some (.tup [.int (w'.1 : Int), .int ((max w'.2 hi' : Nat) : Int)]) := by rw [e9, upd_same, em]
              obtain ⟨H10, e10⟩ : ∃ H10, H10 = upd H9 l2 (.lst [.ref q]) := ⟨_, rfl⟩
              rw [← e10]
              have s910 : Same H9 H10 := by rw [e10]; exact same_new hl2
              have s710 := s78.trans (s89.trans s910)
              have lus : us'.length ≤ 5000 := by
                have := dpAll_len hd1'
                rw [List.length_map] at this
                rw [List.length_append] at hlen
                omega
              refine ⟨l1, l2, us', [.ref q], rfl, rfl, (s89.trans s910) _ _ hl18, by rw [e10, upd_same], Nat.le_trans (show us'.length + 1 ≤ 6000 by omega) (by decide), fun L hL => ?_⟩
              have sL := s710.trans (same_new (o := .lst (us' ++ [.ref q])) hL)
              refine ⟨L, us' ++ [.ref q], init ++ [(w'.1, max w'.2 hi')], _, _, rfl, sm.trans sL, none_of (sm.trans s710) hL, fun e => ?_, tk.trans (TK.same sL), sL _ _ hpp, upd_same, ?_, ?_, ?_⟩
              · rw [e, s710 _ _ hpp] at hL
                cases hL
              · rw [List.map_append]
                refine dpAll_app (pairs_keep (TK.same sL) hd1') (dpAll_one (dp_pair ?_))
                exact (s910.trans (same_new hL)).seqT (.inl (.inl hq9))
              · have e2 : addSpan (init ++ [w']) (lo', hi') = init ++ [(w'.1, max w'.2 hi')] := by
                  unfold addSpan
                  simp [e']
                rw [← e2]; exact hfold
              · simp only [List.length_append, List.length_singleton] at hlen ⊢
                omega
            · have e' : ¬ lo' ≤ w'.2 := fun q => e (decide_eq_true (by omega))
              refine ⟨_, rfl, .inl ⟨rfl, _, SqL.of hv⟩, _, rfl, _, rfl, by show 2 ≤ sizeLine; decide, fun q hq => ⟨sp, _, _, rfl, rfl, by rw [upd_ne (ne_of_none hv hq)]; exact hv, lvs, ?_⟩⟩
              refine app ?_ q hq
              unfold addSpan
              simp [e']
        · rintro σ H7 ⟨sp, vs, dn, x6, x7, rfl, sm, hsp, nsp, tk, hpp, hv, hdd, hfold, hlen⟩
          rw [lz, List.drop_length] at hfold
          rw [show dn = spansS (sortP (fs.map hspan)) from hfold] at hdd
          exact ⟨_, rfl, k _ sp vs sm hv hdd⟩
end
end VK
end

section
set_option Elab.async false
set_option linter.all false
set_option pp.maxSteps 1500
set_option maxRecDepth 100000
set_option maxHeartbeats 4000000
namespace VK
open PySem L2
theorem wxyz_at {d : Int} (h0 : 0 ≤ d) (h1 : d < 4) : ∃ c : Nat, (c ≠ 10 ∧ c < 256) ∧ atI ("wxyz" : Str).cps.toList d = some c := by
  have h : d = 0 ∨ d = 1 ∨ d = 2 ∨ d = 3 := by omega
  rcases h with rfl | rfl | rfl | rfl
  · exact ⟨119, ⟨by decide, by decide⟩, by decide +kernel⟩
  · exact ⟨120, ⟨by decide, by decide⟩, by decide +kernel⟩
  · exact ⟨121, ⟨by decide, by decide⟩, by decide +kernel⟩
  · exact ⟨122, ⟨by decide, by decide⟩, by decide +kernel⟩
theorem ln_len {x : Str} (h : Ln x) : x.length = 2 := by
  obtain ⟨c, _, _, h3⟩ := h
  show x.cps.size = 2
  rw [← Array.length_toList, h3]; rfl
theorem lnOk {x : Str} (h : Ln x) : PyData.strOk x = true := by
  obtain ⟨c, _, h2, h3⟩ := h
  show x.cps.all (· < 0x110000) = true
  rw [← Array.all_toList, h3]
  simp
  omega
theorem lns_ok {ls : List Str} (h : Lns ls) : OkL ls := fun x hx => lnOk (h x hx)
abbrev s__law_change : Stmt := topS 36
theorem sc__law_change : FnScope ["state", "lines", "found", "here", "start", "many", "come", "k"] ["state", "lines"] (defScope s__law_change) := ⟨rfl, rfl, rfl, by decide +kernel, rfl, by decide +kernel, by decide +kernel⟩
def spChange (K : PySem.W.Frag) : Sp := fun vs H Q _ => ∃ (st sc a : Addr) (ns : List Int) (ls : List Str), vs = [.ref st, .ref a] ∧ StAt K H st sc ns ∧ SqT K H a (ls.map V.str) ∧ Lns ls ∧ ls.length ≤ 300 ∧
  ∀ (H' : Hp) (v : V) (hs : List Hunk), Sv st H H' → StAt K H' st sc ns → Dp K H' v (hunksD hs) → PtOk ls hs → hs.length ≤ 3 → (∀ h ∈ hs, Lns h.come ∧ h.come.length ≤ 2) → Q v H'
section
variable {P : Program} {w : World} {K : PySem.W.Frag} {mg : Str → Option Value} {base : Heap}
theorem ok_change {f fD : Addr} {fd fdD : FuncData} (F : Fun K "_law_change" "_law_change" s__law_change f fd) (T0 : Txt0 mg) (D__law_draw : Df K mg "_law_draw" s__law_draw ["state", "limit"] fD fdD) : FnOk P w K mg base CX0 2 f fd ["state", "lines"] (spChange K) := by
  have G__law_draw : FnOk P w K mg base CX0 1 fD fdD ["state", "limit"] (spDraw K) := ok_draw D__law_draw.F T0
  refine F.ok sc__law_change (fun vs H Q E h => ?_) (fun cdv A outer s H vs Q E hr h => ?_)
  · obtain ⟨st, sc, a, ns, ls, rfl, _⟩ := h
    rfl
  · obtain ⟨st, sc, a, ns, ls, rfl, hS, hA, hL, hl, k⟩ := h
    refine ⟨_, (pss_cons (ps_set (i := 2) sc__law_change.nd rfl (Or.inl rfl) (pe_lst pa_nil))
      (pss_cons (ps_set (i := 3) sc__law_change.nd rfl (Or.inl rfl) pe_int)
      (pss_cons (ps_while PassesOwn.never (PW.pt (pw_and (pt_cmpR op_le (pv 3) (pe_callB call_len_seq (by rfl) T0.z_len PySem.boot_len (pa_cons (pv 1) pa_nil)) (nomark _)) (pw_and1 (pt_cmpR op_lt (pe_callB call_len_seq (by rfl) T0.z_len PySem.boot_len (pa_cons (pv 2) pa_nil)) pe_int (nomark _)))))
        (pss_cons (ps_set (i := 4) sc__law_change.nd rfl (Or.inl rfl) (pe_op op_add (pv 3) (pe_call G__law_draw (hr.mono (by decide)) rfl D__law_draw.m D__law_draw.F.kp D__law_draw.b .nil pass0 (pa_cons (pv 0) (pa_cons pe_int pa_nil)))))
        (pss_cons (ps_set (i := 5) sc__law_change.nd rfl (Or.inl rfl) (pe_call G__law_draw (hr.mono (by decide)) rfl D__law_draw.m D__law_draw.F.kp D__law_draw.b .nil pass0 (pa_cons (pv 0) (pa_cons pe_int pa_nil))))
        (pss_cons (ps_if (pt_cmpR op_gt (pe_op op_add (pv 4) (pv 5)) (pe_callB call_len_seq (by rfl) T0.z_len PySem.boot_len (pa_cons (pv 1) pa_nil)) (nomark _))
          (pss_one (ps_ret (pe_callTy call_tuple_of (by rfl) T0.z_tuple (by decide +kernel) (pa_cons (pv 2) pa_nil))))
          pss_nil)
        (pss_cons (ps_set (i := 6) sc__law_change.nd rfl (Or.inl rfl) (pe_callTy call_tuple_of (by rfl) T0.z_tuple (by decide +kernel) (pa_cons (pe_lc (own := [("k", 7)]) (g := gName 7) (tt := tYes) rfl sc__law_change.nd (pi_range1 (by rfl) T0.z_range (pa_cons (pe_call G__law_draw (hr.mono (by decide)) rfl D__law_draw.m D__law_draw.F.kp D__law_draw.b .nil pass0 (pa_cons (pv 0) (pa_cons pe_int pa_nil))) pa_nil)) (blkOk_by (own := [("k", 7)]) (N := ["state", "lines", "found", "here", "start", "many", "come", "k"]) (sc := defScope s__law_change) (by decide +kernel)) (fun _ _ _ _ _ => (pg_name (i := 7) sc__law_change.nd rfl (Or.inl rfl))) (fun _ _ _ _ _ => pts_nil) (fun _ _ _ _ _ => (pe_op op_add_str (pe_ix ix_str pe_str (pe_call G__law_draw (hr.mono (by decide)) rfl D__law_draw.m D__law_draw.F.kp D__law_draw.b .nil pass0 (pa_cons (pv 0) (pa_cons pe_int pa_nil))) (fun _ _ => rfl)) pe_str))) pa_nil)))
        (pss_cons (ps_if (pt_cmpR (op_neD hr.units) (pv 6) (pe_callTy call_tupleT (by rfl) T0.z_tuple (by decide +kernel) (pa_cons (pe_slice sl_tupA (pv 1) (po_some (pv 4)) (po_some (pe_op op_add (pv 4) (pv 5)))) pa_nil)) (nomark _))
          (pss_one (ps_expr (pe_bm PySem.F.plainAttrs_list PySem.F.slot_list_append PySem.F.type_list_append mt_append (pv 2) (pa_cons (pe_tup (pa_cons (pv 4) (pa_cons (pe_callTy call_tupleT (by rfl) T0.z_tuple (by decide +kernel) (pa_cons (pe_slice sl_tupA (pv 1) (po_some (pv 4)) (po_some (pe_op op_add (pv 4) (pv 5)))) pa_nil)) (pa_cons (pv 6) pa_nil)))) pa_nil))))
          pss_nil)
        (pss_one (ps_set (i := 3) sc__law_change.nd rfl (Or.inl rfl) (pe_op op_add (pe_op op_add (pv 4) (pv 5)) pe_int)))))))))
      (pss_one (ps_ret (pe_callTy call_tuple_of (by rfl) T0.z_tuple (by decide +kernel) (pa_cons (pv 2) pa_nil))))))), ?_⟩
    refine ⟨by show 0 ≤ sizeLine; decide, fun fo hfo => ?_⟩
    have s0 : Same H (upd H fo (.lst [])) := same_new hfo
    have nfs : fo ≠ st := by
      rintro rfl
      obtain ⟨l, q⟩ := hS.some
      rw [hfo] at q
      cases q
    have nfc : fo ≠ sc := by
      rintro rfl
      have q := hS.hsc
      rw [hfo] at q
      cases q
    have fin : ∀ (H' : Hp) (vs : List V) (dn : List Hunk), Sv st H H' → StAt K H' st sc ns → H' fo = some (.lst vs) → DpAll K H' vs (dn.map hunkD) → (dn.Pairwise fun a b => a.start + a.gone.length < b.start) → (∀ h ∈ dn, h.start + h.gone.length ≤ ls.length ∧ FitL ls h ∧ h.gone ≠ h.come ∧ Lns h.come ∧ h.come.length ≤ 2) → dn.length ≤ 3 → ∀ l, H' l = none → Q (.ref l) (upd H' l (.tup vs)) := fun H' vs dn sv hs hv hd pw hok hn l hl' => by
      refine k _ _ dn (sv.trans (Sv.new hl')) (hs.sv (same_new hl')) (.tup (.inl (.inl upd_same)) (hunks_keep (TK.new hl') hd)) ⟨Sep.of pw (fun h hm => (hok h hm).1) 0 fun _ _ => Nat.zero_le _, fun h hm => (hok h hm).2.1, fun h hm => (hok h hm).2.2.1⟩ hn fun h hm => (hok h hm).2.2.2
    refine ⟨fun m σ H' => ∃ (i : Nat) (vs : List V) (dn : List Hunk) (x4 x5 x6 : Option V), m = ls.length + 1 - i ∧ σ = [some (.ref st), some (.ref a), some (.ref fo), some (.int (i : Int)), x4, x5, x6, none] ∧ Sv st H H' ∧ StAt K H' st sc ns ∧ H' fo = some (.lst vs) ∧ DpAll K H' vs (dn.map hunkD) ∧ (dn.Pairwise fun a b => a.start + a.gone.length < b.start) ∧
        (∀ h ∈ dn, h.start + h.gone.length ≤ ls.length ∧ FitL ls h ∧ h.gone ≠ h.come ∧ Lns h.come ∧ h.come.length ≤ 2) ∧ dn.length ≤ 3 ∧ (∀ h ∈ dn, h.start + h.gone.length < i), ⟨_, 0, [], [], none, none, none, rfl, rfl, Sv.same s0, hS.sv s0, upd_same, .nil, .nil, (fun _ h => nomatch h), Nat.zero_le _, fun _ h => nomatch h⟩, ?_⟩
    rintro m σ H5 ⟨i, vs, dn, x4, x5, x6, rfl, rfl, sv, hs, hv, hdd, pw, hok, hn, hlt⟩
    have lvs : vs.length = dn.length := by rw [dpAll_len hdd, List.length_map]
    have hA5 := (hS.tk sv) _ _ hA
    have ml : (ls.map V.str).length = ls.length := List.length_map ..
    refine tAnd_pure (x := decide ((i : Int) ≤ (((ls.map V.str).length : Nat) : Int))) (y := decide (((vs.length : Nat) : Int) < 3)) (fun Q h' => ⟨_, rfl, _, rfl, a, _, rfl, .inr hA5, _, _, rfl, rfl, _, rfl, h'⟩) (fun Q h' => ⟨_, rfl, fo, _, rfl, .inl (SqL.of hv), _, _, rfl, rfl, _, rfl, h'⟩) ?_
    refine ite2 (fun e => ?_) (fun e => ?_)
    rotate_left
    · refine ⟨_, rfl, fo, _, rfl, .inl ⟨SqL.of hv, fun l hl' => ?_⟩⟩
      exact fin H5 vs dn sv hs hv hdd pw hok hn l hl'
    rw [Bool.and_eq_true, decide_eq_true_eq, decide_eq_true_eq, ml] at e
    obtain ⟨e1, e2⟩ := e
    have il : i ≤ ls.length := by omega
    have dn2 : dn.length ≤ 2 := by omega
    refine ⟨fun σ' H' => ∃ m', m' < ls.length + 1 - i ∧ ∃ (i : Nat) (vs : List V) (dn : List Hunk) (x4 x5 x6 : Option V), m' = ls.length + 1 - i ∧ σ' = [some (.ref st), some (.ref a), some (.ref fo), some (.int (i : Int)), x4, x5, x6, none] ∧ Sv st H H' ∧ StAt K H' st sc ns ∧ H' fo = some (.lst vs) ∧ DpAll K H' vs (dn.map hunkD) ∧ (dn.Pairwise fun a b => a.start + a.gone.length < b.start) ∧
        (∀ h ∈ dn, h.start + h.gone.length ≤ ls.length ∧ FitL ls h ∧ h.gone ≠ h.come ∧ Lns h.come ∧ h.come.length ≤ 2) ∧ dn.length ≤ 3 ∧ (∀ h ∈ dn, h.start + h.gone.length < i), fun _ _ h => h, ?_⟩
    -- start
    refine ⟨_, rfl, _, rfl, st, sc, ns, 4, rfl, hs, by decide, by decide, fun d s0' pz s3 hd0 hd1 hpz => ?_⟩
    obtain ⟨d, rfl⟩ : ∃ d' : Nat, d = (d' : Int) := ⟨d.toNat, by omega⟩
    obtain ⟨H6, e6⟩ : ∃ H6, H6 = upd H5 st (.lst (stL s0' pz sc s3)) := ⟨_, rfl⟩
    rw [← e6]
    have sv6 : Sv st H5 H6 := by rw [e6]; exact Sv.at_
    have hs6 : StAt K H6 st sc ns := hs.to sv6 (by rw [e6, upd_same]) hpz
    have hv6 := sv6 _ _ nfs hv
    refine ⟨_, _, rfl, rfl, ?_⟩
    -- many
    refine ⟨_, rfl, st, sc, ns, 3, rfl, hs6, by decide, by decide, fun m s0'' pz' s3' hm0 hm1 hpz' => ?_⟩
    obtain ⟨m, rfl⟩ : ∃ m' : Nat, m = (m' : Int) := ⟨m.toNat, by omega⟩
    obtain ⟨H7, e7⟩ : ∃ H7, H7 = upd H6 st (.lst (stL s0'' pz' sc s3')) := ⟨_, rfl⟩
    rw [← e7]
    have sv7 : Sv st H6 H7 := by rw [e7]; exact Sv.at_
    have hs7 : StAt K H7 st sc ns := hs6.to sv7 (by rw [e7, upd_same]) hpz'
    have hv7 := sv7 _ _ nfs hv6
    have k57 : TK K H5 H7 := (hs.tk sv6).trans (hs6.tk sv7)
    have hA7 := k57 _ _ hA5
    have hdd7 := hunks_keep k57 hdd
    have svH7 : Sv st H H7 := sv.trans (sv6.trans sv7)
    refine ⟨_, rfl, _, rfl, _, _, rfl, rfl, _, rfl, a, _, rfl, .inr hA7, _, _, rfl, rfl, _, rfl, ?_⟩
    refine ite2 (fun e => ?_) (fun e => ?_)
    · refine ⟨_, rfl, fo, _, rfl, .inl ⟨SqL.of hv7, fun l hl' => ?_⟩⟩
      exact fin H7 vs dn svH7 hs7 hv7 hdd7 pw hok hn l hl'
    have hle : i + d + m ≤ ls.length := by
      by_cases q : i + d + m ≤ ls.length
      · exact q
      · exact absurd (decide_eq_true (by rw [ml]; omega)) e
    -- come
    refine ⟨_, rfl, st, sc, ns, 3, rfl, hs7, by decide, by decide, fun nn s0a pza s3a hn0 hn1 hpa => ?_⟩
    obtain ⟨H8, e8⟩ : ∃ H8, H8 = upd H7 st (.lst (stL s0a pza sc s3a)) := ⟨_, rfl⟩
    rw [← e8]
    have sv8 : Sv st H7 H8 := by rw [e8]; exact Sv.at_
    have hs8 : StAt K H8 st sc ns := hs7.to sv8 (by rw [e8, upd_same]) hpa
    have hv8 := sv8 _ _ nfs hv7
    have k58 := k57.trans (hs7.tk sv8)
    refine ⟨nn, rfl, by omega, by omega, fun D hD => ?_⟩
    have nDst : D ≠ st := fun e => by
      obtain ⟨l, q⟩ := hs8.some
      rw [e, q] at hD
      cases hD
    have hsD : sc ≠ D := ne_of_none hs8.hsc hD
    have nfD : fo ≠ D := ne_of_none hv8 hD
    refine lc_range (lo := 0) (n := nn.toNat) (fun t H' => ∃ cs : List Str, H' D = some (.lst (cs.map V.str)) ∧ cs.length = t ∧ Lns cs ∧ Sv st H8 H' ∧ StAt K H' st sc ns ∧ TK K H8 H') ⟨[], upd_same, rfl, (fun _ h => nomatch h), Sv.new hD, hs8.sv (same_new hD), TK.new hD⟩ ?_ ?_
    · rintro t H' ht ⟨cs, hcs, hcn, hcL, hcv, hcS, hck⟩
      refine ⟨rfl, _, rfl, st, sc, ns, 4, rfl, hcS, by decide, by decide, fun d2 t0 tp t3 h0 h4 hp2 => ?_⟩
      obtain ⟨c, hc, hat⟩ := wxyz_at h0 h4
      have hsv : Sv st H' (upd H' st (.lst (stL t0 tp sc t3))) := Sv.at_
      have hs2 : StAt K (upd H' st (.lst (stL t0 tp sc t3))) st sc ns := hcS.to hsv upd_same hp2
      have hcs2 : upd H' st (.lst (stL t0 tp sc t3)) D = some (.lst (cs.map V.str)) := by rw [upd_ne nDst]; exact hcs
      refine ⟨_, d2, c, rfl, rfl, by decide +kernel, hat, _, _, rfl, rfl, (by show (1 : Nat) + 1 ≤ sizeLine; decide), cs.map V.str, hcs2, ?_, cs ++ [(⟨#[c]⟩ : Str) ++ ("\n" : Str)], ?_, ?_, ?_, ?_, ?_, ?_⟩
      · rw [List.length_map, hcn]
        exact Nat.lt_of_lt_of_le (show t < 100 by omega) (by decide)
      · rw [upd_same, List.map_append]; rfl
      · rw [List.length_append, hcn]; rfl
      · intro x hx
        rcases List.mem_append.mp hx with hx | hx
        · exact hcL x hx
        · rw [List.mem_singleton.mp hx]; exact ln_mk c hc
      · exact (hcv.trans hsv).mut hD
      · exact hs2.put hcs2 nDst hsD.symm
      · exact hck.trans ((hcS.tk hsv).trans (TK.lst hcs2))
    rintro H9 ⟨cs, hcs, hcn, hcL, hcv, hcS, hck⟩
    refine ⟨D, _, rfl, .inl ⟨SqL.of hcs, fun tc htc => ?_⟩⟩
    obtain ⟨H10, e10⟩ : ∃ H10, H10 = upd H9 tc (.tup (cs.map V.str)) := ⟨_, rfl⟩
    rw [← e10]
    have s910 : Same H9 H10 := by rw [e10]; exact same_new htc
    have htc10 : SqT K H10 tc (cs.map V.str) := .inl (.inl (by rw [e10, upd_same]))
    have k510 : TK K H5 H10 := k58.trans (hck.trans (TK.same s910))
    have hA10 := k510 _ _ hA5
    have hv10 : H10 fo = some (.lst vs) := s910 _ _ (hcv _ _ nfs hv8)
    have hs10 := hcS.sv s910
    have svH10 : Sv st H H10 := svH7.trans (sv8.trans (hcv.trans (Sv.same s910)))
    have lcut : (cutL ls (i + d) (i + d + m)).length = m := by rw [cutL_length ls hle]; omega
    have okcut : OkL (cutL ls (i + d) (i + d + m)) := fun y hy => lnOk (hL y (cutL_sub hy))
    try dsimp only [gName]
    refine cut (fun σ' H' => ∃ (vs : List V) (dn : List Hunk), σ' = [some (.ref st), some (.ref a), some (.ref fo), some (.int (i : Int)), some (.int ((i : Int) + (d : Int))), some (.int (m : Int)), some (.ref tc), none] ∧ Sv st H H' ∧ StAt K H' st sc ns ∧ H' fo = some (.lst vs) ∧ DpAll K H' vs (dn.map hunkD) ∧ (dn.Pairwise fun a b => a.start + a.gone.length < b.start) ∧
        (∀ h ∈ dn, h.start + h.gone.length ≤ ls.length ∧ FitL ls h ∧ h.gone ≠ h.come ∧ Lns h.come ∧ h.come.length ≤ 2) ∧ dn.length ≤ 3 ∧ (∀ h ∈ dn, h.start + h.gone.length < i + d + m + 1)) (fun nx hnx => ?_) ?_
    · refine ⟨_, rfl, _, rfl, _, rfl, ((i + d : Nat) : Int), congrArg V.int (by omega), _, rfl, _, rfl, _, _, rfl, rfl, ((i + d + m : Nat) : Int), congrArg V.int (by omega), sl_lines hA10 fun H11 q1 s11 hq1 => ⟨q1, _, rfl, hq1, ?_⟩⟩
      refine ne_lines (s11.seqT htc10) hq1 (lns_ok hcL) okcut ⟨_, rfl, ?_⟩
      have hv11 := s11 _ _ hv10
      refine ite2 (fun e => ?_) (fun e => ?_)
      · have ne : cs ≠ cutL ls (i + d) (i + d + m) := fun q => by rw [decide_eq_true q] at e; cases e
        refine ⟨_, rfl, .inl ⟨rfl, _, SqL.of hv11⟩, _, rfl, _, rfl, _, rfl, ((i + d : Nat) : Int), congrArg V.int (by omega), _, rfl, _, rfl, _, _, rfl, rfl, ((i + d + m : Nat) : Int), congrArg V.int (by omega), sl_lines (s11.seqT hA10) fun H12 q2 s12 hq2 => ⟨q2, _, rfl, hq2, ?_⟩⟩
        have s10_12 := s11.trans s12
        refine ⟨_, rfl, by show 3 ≤ sizeLine; decide, fun r hr => ?_⟩
        have hv12 := s12 _ _ hv11
        have eo : ([.int ((i + d : Nat) : Int), .ref q2, .ref tc] : List V) = [.int ((i : Int) + (d : Int)), .ref q2, .ref tc] := by congr 2; try omega
        have h2 : upd H12 r (.tup [.int ((i : Int) + (d : Int)), .ref q2, .ref tc]) fo = some (.lst vs) := by rw [upd_ne (ne_of_none hv12 hr)]; exact hv12
        have lvs' : vs.length < sizeLine := Nat.lt_of_le_of_lt (show vs.length ≤ 10 by omega) (by decide)
        refine ⟨fo, vs, _, rfl, rfl, h2, lvs', ?_⟩
        have tk := (TK.new (K := K) (o := .tup [.int ((i : Int) + (d : Int)), .ref q2, .ref tc]) hr).trans (TK.lst (o := .lst (vs ++ [.ref r])) h2)
        have sr := same_new (o := .tup [.int ((i : Int) + (d : Int)), .ref q2, .ref tc]) hr
        have svr := svH10.trans (Sv.same (s10_12.trans sr))
        refine hnx _ _ ⟨vs ++ [.ref r], dn ++ [⟨i + d, cutL ls (i + d) (i + d + m), cs⟩], rfl, ?_, ?_, upd_same, ?_, ?_, ?_, ?_, ?_⟩
        · exact svr.mut hfo
        · exact (hs10.sv (s10_12.trans sr)).put h2 nfs nfc
        · rw [List.map_append]
          refine dpAll_app (hunks_keep (k510.trans ((TK.same s10_12).trans tk)) hdd) (dpAll_one (dp_hunk (h := ⟨i + d, cutL ls (i + d) (i + d + m), cs⟩) (b := q2) (c := tc) ?_ (tk _ _ hq2) (tk _ _ (s10_12.seqT htc10))))
          show SqT K _ _ [.int ((i + d : Nat) : Int), .ref q2, .ref tc]
          rw [eo]
          exact TK.lst h2 _ _ (.inl (.inl upd_same))
        · refine List.pairwise_append.mpr ⟨pw, List.pairwise_singleton _ _, fun x hx y hy => ?_⟩
          rw [List.mem_singleton.mp hy]
          have := hlt x hx
          show x.start + x.gone.length < i + d
          omega
        · intro h hm
          rcases List.mem_append.mp hm with hm | hm
          · exact hok h hm
          · rw [List.mem_singleton.mp hm]
            refine ⟨?_, ?_, fun q => ne q.symm, hcL, ?_⟩
            · show i + d + (cutL ls (i + d) (i + d + m)).length ≤ _
              rw [lcut]
              exact hle
            · show cutL ls (i + d) (i + d + (cutL ls (i + d) (i + d + m)).length) = _
              rw [lcut]
            · show cs.length ≤ 2
              omega
        · rw [List.length_append, List.length_singleton]; omega
        · intro h hm
          rcases List.mem_append.mp hm with hm | hm
          · have := hlt h hm
            omega
          · rw [List.mem_singleton.mp hm]
            show i + d + (cutL ls (i + d) (i + d + m)).length < _
            rw [lcut]
            omega
      · exact hnx _ _ ⟨vs, dn, rfl, svH10.trans (Sv.same s11), hs10.sv s11, hv11, hunks_keep (k510.trans (TK.same s11)) hdd, pw, hok, hn, fun h hm => by have := hlt h hm; omega⟩
    rintro σ13 H13 ⟨vs', dn', rfl, sv13, hs13, hv13, hdd13, pw', hok', hn', hlt'⟩
    refine ⟨_, rfl, _, rfl, _, _, rfl, rfl, _, _, rfl, rfl, ?_⟩
    refine ⟨_, by omega, i + d + m + 1, vs', dn', some (.int ((i : Int) + (d : Int))), some (.int (m : Int)), some (.ref tc), rfl, ?_, sv13, hs13, hv13, hdd13, pw', hok', hn', hlt'⟩
    show [_, _, _, some (V.int ((i : Int) + (d : Int) + (m : Int) + 1)), _, _, _, _] = _
    rw [show (i : Int) + (d : Int) + (m : Int) + 1 = ((i + d + m + 1 : Nat) : Int) by omega]
end
end VK
end

section
set_option Elab.async false
set_option linter.all false
set_option pp.maxSteps 1500
set_option maxRecDepth 100000
set_option maxHeartbeats 4000000
namespace VK
open PySem L2
theorem op_neDQ {X : Cx} {K : PySem.W.Frag} (hK : X.K = K) (hu : X.A.units + 64 < cLine) : OpR X (compareOp .NotEq) (rNeD K) := by
  subst hK
  exact op_neD hu
abbrev s__law_fits : Stmt := topS 39
theorem sc__law_fits : FnScope ["lines", "patch", "wrong", "k"] ["lines", "patch"] (defScope s__law_fits) := ⟨rfl, rfl, rfl, by decide +kernel, rfl, by decide +kernel, by decide +kernel⟩
abbrev natsD (l : List Nat) : PyData := .tuple (l.map fun n : Nat => PyData.int (n : Int))
/-- what putting on tells -/
def fitD (ls : List Str) (hs : List Hunk) : PyData := if wrongH ls 0 hs = [] then linesD (applyF ls 0 hs) else .list [.str "clash", natsD (wrongH ls 0 hs), .bool true]
def spFits (K : PySem.W.Frag) : Sp := fun vs H Q _ => ∃ (a b : Addr) (ls : List Str) (hs : List Hunk), vs = [.ref a, .ref b] ∧ SqT K H a (ls.map V.str) ∧ Dp K H (.ref b) (hunksD hs) ∧ OkL ls ∧ (∀ h ∈ hs, OkL h.gone) ∧ ls.length ≤ 50000 ∧ hs.length ≤ 1000 ∧ (applyF ls 0 hs).length ≤ 10000 ∧
  ∀ (H' : Hp) (v : V), Same H H' → Dp K H' v (fitD ls hs) → Q v H'
theorem dp_ns {K : PySem.W.Frag} {H : Hp} : ∀ l : List Nat, DpAll K H (natsV l) (l.map fun n : Nat => PyData.int (n : Int))
  | [] => .nil
  | n :: l => .cons (.int _) (dp_ns l)
section
variable {P : Program} {w : World} {K : PySem.W.Frag} {mg : Str → Option Value} {base : Heap}
theorem ok_fits {f fA : Addr} {fd fdA : FuncData} (F : Fun K "_law_fits" "_law_fits" s__law_fits f fd) (T0 : Txt0 mg) (D__law_apply : Df K mg "_law_apply" s__law_apply ["lines", "patch"] fA fdA) : FnOk P w K mg base CX0 2 f fd ["lines", "patch"] (spFits K) := by
  have G__law_apply : FnOk P w K mg base CX0 1 fA fdA ["lines", "patch"] (spApply K) := ok_apply D__law_apply.F T0
  refine F.ok sc__law_fits (fun vs H Q E h => ?_) (fun cdv A outer s H vs Q E hr h => ?_)
  · obtain ⟨a, b, ls, hs, rfl, _⟩ := h
    rfl
  · obtain ⟨a, b, ls, hs, rfl, hA, hB, hok, hokg, hl1, hl2, hlen, k⟩ := h
    refine ⟨_, (pss_cons (ps_set (i := 2) sc__law_fits.nd rfl (Or.inl rfl) (pe_callTy call_tuple_of (by rfl) T0.z_tuple (by decide +kernel) (pa_cons (pe_lc (own := [("k", 3)]) (g := gName 3) (tt := _) rfl sc__law_fits.nd (pi_range1 (by rfl) T0.z_range (pa_cons (pe_callB call_len_seq (by rfl) T0.z_len PySem.boot_len (pa_cons (pv 1) pa_nil)) pa_nil)) (blkOk_by (own := [("k", 3)]) (N := ["lines", "patch", "wrong", "k"]) (sc := defScope s__law_fits) (by decide +kernel)) (fun _ _ _ _ _ => (pg_name (i := 3) sc__law_fits.nd rfl (Or.inl rfl))) (fun _ _ _ _ _ => by exact (pts_one (PW.pt (pw_or (pt_cmpR op_gt (pe_ix (ix_tupQ (K := K) rfl) (pe_ix (ix_tupQ (K := K) rfl) (pv 1) (pv 3) (fun _ _ => rfl)) pe_int (fun _ _ => rfl)) (pe_callB (call_lenQ (K := K) rfl) (by rfl) T0.z_len PySem.boot_len (pa_cons (pv 0) pa_nil)) (nomark _)) (pw_or1 (pt_cmpR (op_neDQ (K := K) rfl hr.units) (pe_slice (sl_tupAQ (K := K) rfl) (pv 0) (po_some (pe_ix (ix_tupQ (K := K) rfl) (pe_ix (ix_tupQ (K := K) rfl) (pv 1) (pv 3) (fun _ _ => rfl)) pe_int (fun _ _ => rfl))) (po_some (pe_op op_add (pe_ix (ix_tupQ (K := K) rfl) (pe_ix (ix_tupQ (K := K) rfl) (pv 1) (pv 3) (fun _ _ => rfl)) pe_int (fun _ _ => rfl)) (pe_callB (call_lenQ (K := K) rfl) (by rfl) T0.z_len PySem.boot_len (pa_cons (pe_ix (ix_tupQ (K := K) rfl) (pe_ix (ix_tupQ (K := K) rfl) (pv 1) (pv 3) (fun _ _ => rfl)) pe_int (fun _ _ => rfl)) pa_nil))))) (pe_ix (ix_tupQ (K := K) rfl) (pe_ix (ix_tupQ (K := K) rfl) (pv 1) (pv 3) (fun _ _ => rfl)) pe_int (fun _ _ => rfl)) (nomark _))))))) (fun _ _ _ _ _ => (pv 3))) pa_nil)))
      (pss_one (ps_ret (pe_ifExp (pt_cmpR op_gt (pe_callB call_len_seq (by rfl) T0.z_len PySem.boot_len (pa_cons (pv 2) pa_nil)) pe_int (nomark _)) (pe_lst (pa_cons pe_str (pa_cons (pv 2) (pa_cons pe_bl pa_nil)))) (pe_call G__law_apply (hr.mono (by decide)) rfl D__law_apply.m D__law_apply.F.kp D__law_apply.b .nil pass0 (pa_cons (pv 0) (pa_cons (pv 1) pa_nil))))))), ?_⟩
    obtain ⟨b', ws, eb, hb, hd⟩ := of_tupD hB
    cases eb
    have lw : ws.length = hs.length := by rw [dpAll_len hd, List.length_map]
    refine ⟨_, rfl, b, _, rfl, .inr hb, _, rfl, by omega, by omega, fun D hD => ?_⟩
    have en : ((ws.length : Nat) : Int).toNat = hs.length := by omega
    rw [en]
    refine lc_range (lo := 0) (n := hs.length) (fun t H' => H' D = some (.lst (natsV (wrongH ls 0 (hs.take t)))) ∧ Same H H') ⟨upd_same, same_new hD⟩ ?_ ?_
    · rintro c H5 hc ⟨hl5, sm⟩
      have ei : (0 : Int) + (c : Nat) = ((c : Nat) : Int) := by omega
      rw [ei]
      obtain ⟨h, ht⟩ : ∃ h, h = hs[c] := ⟨_, rfl⟩
      have hf : hs[c]? = some h := by rw [List.getElem?_eq_getElem hc, ht]
      obtain ⟨v, hv1, hv2⟩ := dpAll_at (hunks_keep (TK.same sm) hd) (k := c) (d := hunkD h) (by rw [List.getElem?_map, hf]; rfl)
      obtain ⟨z, g, m, rfl, hz, hg, hm⟩ := of_hunk hv2
      have hb5 := sm.seqT hb
      have okg : OkL h.gone := hokg h (List.mem_of_getElem? hf)
      have etk : hs.take (c + 1) = hs.take c ++ [h] := by rw [List.take_succ, hf]; rfl
      have ltk : (hs.take c).length = c := by rw [List.length_take]; omega
      have ew : wrongH ls 0 (hs.take (c + 1)) = wrongH ls 0 (hs.take c) ++ (if badH ls h = true then [c] else []) := by
        rw [etk, wrongH_app, ltk, Nat.zero_add, wrongH, wrongH, List.append_nil]
      have lwr : (natsV (wrongH ls 0 (hs.take c))).length < sizeLine := by
        have q := wrongH_len ls (hs.take c) 0
        rw [ltk] at q
        rw [List.length_map]
        exact Nat.lt_of_le_of_lt (show _ ≤ 1000 by omega) (by decide)
      have go : ∀ H7 : Hp, badH ls h = true → upd H7 D (.lst (natsV (wrongH ls 0 (hs.take c)) ++ [.int (c : Int)])) D = some (.lst (natsV (wrongH ls 0 (hs.take (c + 1))))) := fun H7 e => by
        rw [upd_same, ew, if_pos e]
        unfold natsV
        rw [List.map_append]
        rfl
      refine ⟨rfl, ?_⟩
      refine ⟨_, rfl, _, rfl, b, _, _, _, rfl, rfl, hb5, atI_nat hv1, z, _, _, _, rfl, rfl, hz, at_head, _, rfl, a, _, rfl, .inr (sm.seqT hA), _, _, rfl, rfl, _, rfl, ?_⟩
      refine ite2 (fun e => ?_) (fun e => ?_)
      · have hb' : badH ls h = true := by
          have q := of_decide_eq_true e
          rw [List.length_map] at q
          unfold badH
          rw [decide_eq_true (show ls.length < h.start by omega)]
          rfl
        refine iteT ?_
        exact ⟨_, rfl, _, hl5, lwr, go _ hb', same_mut sm hD⟩
      · have nb : ¬ ls.length < h.start := fun q => e (decide_eq_true (by rw [List.length_map]; omega))
        refine ⟨_, rfl, _, rfl, _, rfl, b, _, _, _, rfl, rfl, hb5, atI_nat hv1, z, _, _, _, rfl, rfl, hz, at_head, (h.start : Int), rfl, ?_⟩
        refine ⟨_, rfl, _, rfl, b, _, _, _, rfl, rfl, hb5, atI_nat hv1, z, _, _, _, rfl, rfl, hz, at_head, _, rfl, _, rfl, b, _, _, _, rfl, rfl, hb5, atI_nat hv1, z, _, _, _, rfl, rfl, hz, rfl, g, _, rfl, .inr hg, _, _, rfl, rfl, ((h.start + h.gone.length : Nat) : Int), congrArg V.int (by rw [List.length_map]; exact (Int.natCast_add ..).symm), sl_lines (sm.seqT hA) fun H7 q s7 hq => ?_⟩
        have hb7 := s7.seqT hb5
        have hz7 := s7.seqT hz
        refine ⟨_, rfl, _, rfl, b, _, _, _, rfl, rfl, hb7, atI_nat hv1, z, _, _, _, rfl, rfl, hz7, rfl, ?_⟩
        have okc : OkL (cutL ls h.start (h.start + h.gone.length)) := fun y hy => hok y (cutL_sub hy)
        refine ne_lines hq (s7.seqT hg) okc okg ⟨_, rfl, ?_⟩
        have sm7 := sm.trans s7
        have hl7 := s7 _ _ hl5
        refine ite2 (fun e => ?_) (fun e => ?_)
        · have hb' : badH ls h = true := by
            unfold badH
            rw [e, Bool.or_true]
          exact ⟨_, rfl, _, hl7, lwr, go _ hb', same_mut sm7 hD⟩
        · have hb' : badH ls h = false := by
            unfold badH
            rw [decide_eq_false nb, Bool.false_or]
            cases q : !decide (cutL ls h.start (h.start + h.gone.length) = h.gone) with
            | false => rfl
            | true => exact absurd q e
          refine ⟨?_, sm7⟩
          rw [ew, hb', if_neg (by decide), List.append_nil]
          exact hl7
    · rintro H5 ⟨hl5, sm⟩
      rw [List.take_length] at hl5
      refine ⟨D, _, rfl, .inl ⟨SqL.of hl5, fun wt hwt => ?_⟩⟩
      obtain ⟨H6, e6⟩ : ∃ H6, H6 = upd H5 wt (.tup (natsV (wrongH ls 0 hs))) := ⟨_, rfl⟩
      rw [← e6]
      have s6 : Same H5 H6 := by rw [e6]; exact same_new hwt
      have hw6 : SqT K H6 wt (natsV (wrongH ls 0 hs)) := .inl (.inl (by rw [e6, upd_same]))
      have sm6 := sm.trans s6
      refine ⟨_, rfl, wt, _, rfl, .inr hw6, _, _, rfl, rfl, _, rfl, ?_⟩
      by_cases hw : wrongH ls 0 hs = []
      · refine ite2 (fun e => ?_) (fun _ => ?_)
        · rw [hw] at e
          exact absurd e (by decide)
        refine ⟨_, rfl, _, rfl, a, b, ls, hs, rfl, sm6.seqT hA, dp_keep (TK.same sm6) _ _ (imm_hunks hs) hB, hlen, fun H7 p s7 hp => ?_⟩
        refine k _ _ (sm6.trans s7) ?_
        unfold fitD
        rw [if_pos hw]
        exact dp_lines hp
      · refine ite2 (fun _ => ?_) (fun e => ?_)
        rotate_left
        · exfalso
          apply e
          refine decide_eq_true ?_
          rw [List.length_map]
          have := List.length_pos_iff.mpr hw
          omega
        refine ⟨_, rfl, by show 3 ≤ sizeLine; decide, fun l hl => ?_⟩
        refine k _ _ (sm6.trans (same_new hl)) ?_
        unfold fitD
        rw [if_neg hw]
        exact .lst (SqL.of upd_same) (.cons (.str _) (.cons (.tup ((same_new hl).seqT hw6) (dp_ns _)) (.cons (.bl _) .nil)))
end
end VK
end

section
set_option Elab.async false
set_option linter.all false
set_option pp.maxSteps 1500
set_option maxRecDepth 100000
set_option maxHeartbeats 4000000
namespace VK
open PySem L2
theorem takesN0 {X : Cx} : L2N.Takes X (fun _ _ _ _ => False) := fun _ _ x => by
  obtain ⟨_, _, _, _, _, _, _, _, _, _, _, _, _, _, _, _, z⟩ := x
  exact z.elim
theorem xfC_of {P : Program} {K : PySem.W.Frag} {mg : Str → Option Value} {C fI : Addr} (T : PySem.CfX.CfTxt P K mg C fI) : XfC K C := ⟨T.ga, T.gg, T.exC, T.hdC⟩
abbrev s__law_told : Stmt := topS 38
theorem sc__law_told : FnScope ["lines", "patch", "error"] ["lines", "patch"] (defScope s__law_told) := ⟨rfl, rfl, rfl, by decide +kernel, rfl, by decide +kernel, by decide +kernel⟩
def t_told (K : PySem.W.Frag) (C CV : Addr) : Addr → Value → Option Addr → TS := fun a cls d => tRet (tLst (tCons (tC (.str "clash")) (tCons (tXf a cls d C "paths" (tVar 2)) (tCons (tCB (rIsD K C a cls d) (tCons (tVar 2) (tCons (tC (.ref CV)) tNil))) tNil))))
section
variable {P : Program} {w : World} {K : PySem.W.Frag} {mg : Str → Option Value} {base : Heap}
theorem ok_told {f fG C CV fI : Addr} {fd fdG : FuncData} (F : Fun K "_law_told" "_law_told" s__law_told f fd) (T0 : Txt0 mg) (T : PySem.CfX.CfTxt P K mg C fI) (EC : ExcC K C) (gV : mg "VersionkeptError" = some (.ref CV)) (kV : PySem.W.kitOne K (.ref C) (.ref CV) = some true) (z_isi : mg "isinstance" = none)
    (D_put_on : Df K mg "put_on" s_put_on ["lines", "patch"] fG fdG) : FnOk P w K mg base CX0 2 f fd ["lines", "patch"] (spFits K) := by
  have G_put_on : FnOk P w K mg base (L2N.CX P w) 1 fG fdG ["lines", "patch"] (spPutX K C) := ok_putx D_put_on.F T0 T
  refine F.ok sc__law_told (fun vs H Q E h => ?_) (fun cdv A outer s H vs Q E hr h => ?_)
  · obtain ⟨a, b, ls, hs, rfl, _⟩ := h
    rfl
  · obtain ⟨a, b, ls, hs, rfl, hA, hB, hok, hokg, hl1, hl2, hlen, k⟩ := h
    refine ⟨_, pss_one (L2N.ps_try_as (i := 2) (tb := fun W => tRet (tCallS (spPutX K C) (WE W) (tCons (tVar 0) (tCons (tVar 1) tNil)))) (ts := t_told K C CV) (Wout := fun _ _ _ _ => False) rfl rfl sc__law_told.nd rfl rfl ⟨rfl, by decide, Or.inl T.gC⟩ takesN0
      (fun W pn xe tk _ => pss_one (ps_ret (by exact (pe_callS G_put_on (hr.mono (by decide)) rfl D_put_on.m D_put_on.F.kp D_put_on.b (fun σ => L2N.passAt tk σ) (by exact (pa_cons (pv 0) (pa_cons (pv 1) pa_nil)))))))
      (fun a oe cls d pn hz hf => pss_one (ps_ret (by exact (pe_lst (pa_cons pe_str (pa_cons (pe_xf (xfC_of T) T.noN hz.zc hf (pv 2)) (pa_cons (pe_callB (call_isD EC hz.zc hf) (by rfl) z_isi PyProof.Rows.boot_isinstance (pa_cons (pv 2) (pa_cons (pe_glob (v := .ref CV) (by rfl) gV rfl) pa_nil))) pa_nil)))))))), ?_⟩
    refine ⟨_, rfl, _, rfl, a, b, ls, hs, rfl, hA, hB, hok, hokg, hl1, hl2, fun hw => ⟨Nat.le_trans hlen (by decide), fun H1 p s1 hp => ?_⟩, fun hw H1 d t s1 hd ht => ?_⟩
    · refine k _ _ s1 ?_
      unfold fitD
      rw [if_pos hw]
      exact dp_lines hp
    · refine ⟨true, T.te, fun _ x hx => ?_, fun q => Bool.noConfusion q⟩
      refine ⟨_, rfl, rfl, rfl, d, _, .ref t, rfl, hd, rfl, ?_⟩
      refine ⟨_, rfl, .ref CV, .ref CV, true, d, _, rfl, rfl, rfl, hd, fun u r => r, kV, ?_⟩
      refine ⟨by show 3 ≤ sizeLine; decide, fun l hl => ?_⟩
      have sl := same_new (o := .lst [.str "clash", .ref t, .bl true]) hl
      refine k _ _ (s1.trans sl) ?_
      unfold fitD
      rw [if_neg hw]
      exact .lst (SqL.of upd_same) (.cons (.str _) (.cons (.tup (sl.seqT ht) (dp_ns _)) (.cons (.bl _) .nil)))
end
end VK
end

section
set_option Elab.async false
set_option linter.all false
set_option pp.maxSteps 1500
set_option maxRecDepth 100000
set_option maxHeartbeats 4000000
namespace VK
open PySem L2
def spBoth2 (K : PySem.W.Frag) : Sp := fun vs H Q _ => ∃ (a b : Addr) (f s : List Hunk), vs = [.ref a, .ref b] ∧ Dp K H (.ref a) (hunksD f) ∧ Dp K H (.ref b) (hunksD s) ∧ f.length ≤ 1000 ∧ s.length ≤ 1000 ∧ (f.Pairwise fun a b => a.start + a.gone.length < b.start) ∧ (s.Pairwise fun a b => a.start + a.gone.length < b.start) ∧
  (touchSome f s → ∀ H' : Hp, Same H H' → Q .non H') ∧
  (noTouch f s → ∀ (H' : Hp) (v : V) (bs : List Hunk), Same H H' → Dp K H' v (hunksD bs) → bs.Perm (f ++ s) → (bs.Pairwise fun a b => a.start ≤ b.start) → Q v H')
section
variable {P : Program} {w : World} {K : PySem.W.Frag} {mg : Str → Option Value} {base : Heap}
theorem ok_both2 {f fT : Addr} {fd fdT : FuncData} (F : Fun K "both" "both" s_both f fd) (T0 : Txt0 mg) (z_sorted : mg "sorted" = none) (D_do_touch : Df K mg "do_touch" s_do_touch ["one", "two"] fT fdT) : FnOk P w K mg base CX0 2 f fd ["one", "two"] (spBoth2 K) := by
  have G_do_touch : FnOk P w K mg base CX0 1 fT fdT ["one", "two"] (spTouch K) := ok_touch D_do_touch.F T0
  refine F.ok sc_both (fun vs H Q E h => ?_) (fun cdv A outer s H vs Q E hr h => ?_)
  · obtain ⟨a, b, f, s, rfl, _⟩ := h
    rfl
  · obtain ⟨a, b, f, s, rfl, hA, hB, hf, hs, pf, ps, kT, kN⟩ := h
    refine ⟨_, (pss_cons (ps_if (pt_cmpR op_notN (pe_call G_do_touch (hr.mono (by decide)) rfl D_do_touch.m D_do_touch.F.kp D_do_touch.b .nil pass0 (pa_cons (pv 0) (pa_cons (pv 1) pa_nil))) pe_non (nomark _))
        (pss_one (ps_ret pe_non))
        pss_nil)
      (pss_one (ps_ret (pe_callTy call_tuple_of (by rfl) T0.z_tuple (by decide +kernel) (pa_cons (pe_callB cr_sortedH (by rfl) z_sorted (by decide +kernel) (pa_cons (pe_op op_catA (pv 0) (pv 1)) pa_nil)) pa_nil))))), ?_⟩
    refine ⟨_, rfl, _, rfl, a, b, f, s, rfl, hA, hB, hf, hs, fun H1 v s1 hv => ?_⟩
    rcases hv with ⟨rfl, nt⟩ | ⟨p, rfl, x, hx, y, hy, q⟩
    · have k := kN nt
      refine ⟨rfl, _, rfl, ?_⟩
      refine iteF ?_
      obtain ⟨a', us, ea, ha, hda⟩ := of_tupD hA
      cases ea
      obtain ⟨b', vs, eb, hb, hdb⟩ := of_tupD hB
      cases eb
      have lu : us.length = f.length := by rw [dpAll_len hda, List.length_map]
      have lv : vs.length = s.length := by rw [dpAll_len hdb, List.length_map]
      refine ⟨_, rfl, _, rfl, cat_tupK (s1.seqT ha) (s1.seqT hb) (Nat.le_trans (show us.length + vs.length ≤ 2000 by omega) (by decide)) fun H2 c s2 hc => ?_⟩
      have s02 := s1.trans s2
      have hd : DpAll K H2 (us ++ vs) ((f ++ s).map hunkD) := by
        rw [List.map_append]
        exact dpAll_app (hunks_keep (TK.same s02) hda) (hunks_keep (TK.same s02) hdb)
      have ln : (us ++ vs).length = (f ++ s).length := by rw [List.length_append, List.length_append, lu, lv]
      -- the starts, by the items
      have ne : (f ++ s).Pairwise fun a b => a.start ≠ b.start := by
        refine List.pairwise_append.mpr ⟨pf.imp fun {a b} h => by omega, ps.imp fun {a b} h => by omega, fun a ha b hb e => nt a ha b hb ⟨by omega, by omega⟩⟩
      have at_ : ∀ (i : Nat) (x : V), (us ++ vs)[i]? = some x → ∃ h t g m, (f ++ s)[i]? = some h ∧ x = .ref t ∧ SqT K H2 t [.int (h.start : Int), .ref g, .ref m] := fun i x hx => by
        have hi : i < (f ++ s).length := by rw [← ln]; exact (List.getElem?_eq_some_iff.mp hx).1
        have hf : (f ++ s)[i]? = some (f ++ s)[i] := List.getElem?_eq_getElem hi
        obtain ⟨v, hv1, hv2⟩ := dpAll_at hd (k := i) (d := hunkD (f ++ s)[i]) (by rw [List.getElem?_map, hf]; rfl)
        obtain rfl : v = x := Option.some.inj (hv1.symm.trans hx)
        obtain ⟨z, g, m, rfl, hz, _⟩ := of_hunk hv2
        exact ⟨_, z, g, m, hf, rfl, hz⟩
      refine ⟨c, us ++ vs, (f ++ s).map (fun h => (h.start : Int)), rfl, hc, by rw [ln, List.length_map], fun i x k' hx hk' => ?_, ?_, fun k' ys p hk' hs' hp' hpn => ?_⟩
      · obtain ⟨h, t, g, m, hf, rfl, hz⟩ := at_ i x hx
        rw [List.getElem?_map, hf] at hk'
        cases hk'
        exact ⟨t, g, m, rfl, hz⟩
      · rw [List.pairwise_map]
        exact ne.imp fun {a b} h e => h (Int.ofNat.inj e)
      · obtain ⟨bs, q1, q2, q3⟩ := dpAll_perm hd hk'.symm hp'
        have hd2 : DpAll K (upd H2 p (.lst ys)) ys (bs.map hunkD) := hunks_keep (TK.new hpn) q2
        refine ⟨p, _, rfl, .inl ⟨SqL.of upd_same, fun l hl => ?_⟩⟩
        refine k _ _ bs (s02.trans ((same_new hpn).trans (same_new hl))) (.tup (.inl (.inl upd_same)) (hunks_keep (TK.new hl) hd2)) q1 ?_
        have pw : (ys.map k').Pairwise (· ≤ ·) := by
          rw [List.pairwise_map]
          exact List.Pairwise.imp (fun {a b} h => by
            have := of_decide_eq_false h
            omega) hs'
        rw [q3, List.pairwise_map] at pw
        exact pw.imp fun {a b} h => by omega
    · refine ⟨rfl, _, rfl, ?_⟩
      refine iteT ?_
      exact kT ⟨x, hx, y, hy, q⟩ _ s1
end
end VK
end

section
set_option Elab.async false
set_option linter.all false
set_option pp.maxSteps 1500
set_option maxRecDepth 100000
set_option maxHeartbeats 4000000
namespace VK
open PySem L2
theorem tab_same {H H' : Hp} {Pt : Addr} (t : GxR.TabG H Pt) (s : Same H H') : GxR.TabG H' Pt := by
  obtain ⟨ps, e, ok⟩ := t
  exact ⟨ps, s _ _ e, ok⟩
theorem wrong_none {L : List Str} : ∀ {hs : List Hunk} {i : Nat}, (∀ h ∈ hs, h.start + h.gone.length ≤ L.length ∧ FitL L h) → wrongH L i hs = []
  | [], _, _ => rfl
  | h :: r, i, q => by
    obtain ⟨q1, q2⟩ := q h (List.mem_cons_self ..)
    have e : badH L h = false := by
      unfold badH
      rw [decide_eq_false (show ¬ L.length < h.start by omega), decide_eq_true (show cutL L h.start (h.start + h.gone.length) = h.gone from q2)]
      rfl
    rw [wrongH, e, if_neg (by decide), wrong_none fun x hx => q x (List.mem_cons_of_mem _ hx)]
    rfl
theorem PtOk.fits {L : List Str} {hs : List Hunk} (h : PtOk L hs) : wrongH L 0 hs = [] := wrong_none fun x hx => ⟨(h.sep.ge x hx).2, h.fit x hx⟩
/-- lines as the law has them, in few rows -/
structure RowL (L : List Str) : Prop where
  ln : Lns L
  len : L.length ≤ 300
theorem RowL.row {L : List Str} (h : RowL L) : RowOk L := ⟨lns_ok h.ln, Nat.le_trans h.len (by decide)⟩
theorem fit_ln {L : List Str} {hs : List Hunk} (l : Lns L) (h : ∀ h ∈ hs, FitL L h) : ∀ h ∈ hs, Lns h.gone := fun g hg y hy => by
  have q : y ∈ cutL L g.start (g.start + g.gone.length) := by rw [show cutL L g.start (g.start + g.gone.length) = g.gone from h g hg]; exact hy
  exact l y (cutL_sub q)
theorem come_ln {L : List Str} {hs : List Hunk} {i : Nat} (l : Lns (applyF L i hs)) : ∀ h ∈ hs, Lns h.come := fun h hm x hx => l x (come_sub hm x hx)
theorem come_len {L : List Str} : ∀ {hs : List Hunk} {i : Nat} {h : Hunk}, h ∈ hs → h.come.length ≤ (applyF L i hs).length
  | g :: r, i, h, hm => by
    rw [applyF, List.length_append, List.length_append]
    rcases List.mem_cons.mp hm with rfl | hm
    · omega
    · have := come_len (L := L) (i := g.start + g.gone.length) hm
      omega
/-- a patch between small rows passes is_patch -/
theorem good_of {L : List Str} {hs : List Hunk} (h : PtOk L hs) (rl : RowL L) (rn : RowL (applyF L 0 hs)) : GoodP (-1) hs := by
  have go : ∀ (hs : List Hunk) (k : Nat) (e : Int), Sep L.length k hs → e < (k : Int) → (∀ h ∈ hs, h.gone ≠ h.come ∧ Lns h.gone ∧ Lns h.come ∧ h.gone.length + h.come.length ≤ 100000) → GoodP e hs := by
    intro hs
    induction hs with
    | nil => intro k e _ _ _; trivial
    | cons g r ih =>
      rintro k e ⟨s1, s2, s3⟩ he q
      obtain ⟨q1, q2, q3, q4⟩ := q g (List.mem_cons_self ..)
      refine ⟨by omega, q1, lns_ok q2, lns_ok q3, q4, fun x hx => ?_, ih _ _ s3 (by omega) fun y hy => q y (List.mem_cons_of_mem _ hy)⟩
      rcases List.mem_append.mp hx with hx | hx
      · rw [ln_len (q2 x hx)]; decide
      · rw [ln_len (q3 x hx)]; decide
  refine go hs 0 (-1) h.sep (by decide) fun x hx => ⟨h.ne x hx, fit_ln rl.ln h.fit x hx, come_ln rn.ln x hx, ?_⟩
  have q1 := (h.sep.ge x hx).2
  have q2 := come_len (L := L) (i := 0) hx
  have := rl.len
  have := rn.len
  omega
theorem ok_hunks' {L : List Str} {hs : List Hunk} (h : PtOk L hs) (rl : RowL L) (rn : RowL (applyF L 0 hs)) : OkD 3 (hunksD hs) := okD_hunks fun x hx => ⟨lns_ok (fit_ln rl.ln h.fit x hx), lns_ok (come_ln rn.ln x hx)⟩
theorem carry_len (o hs : List Hunk) : (carryF o hs).length = hs.length := List.length_map ..
theorem carry_mem {o hs : List Hunk} {g : Hunk} (h : g ∈ carryF o hs) : ∃ x ∈ hs, g.gone = x.gone ∧ g.come = x.come := by
  obtain ⟨x, hx, rfl⟩ := List.mem_map.mp h
  exact ⟨x, hx, rfl, rfl⟩
theorem imm_opt (o : Option (Nat × Nat)) : imm (optP o) = true := by
  cases o <;> rfl
theorem okD_opt (o : Option (Nat × Nat)) : OkD 1 (optP o) := by
  cases o with
  | none => exact ⟨rfl, by simp [optP, PyData.depth]⟩
  | some p => exact okD_two (okD_int _) (okD_int _)
theorem imm_two {a b : PyData} (ha : imm a = true) (hb : imm b = true) : imm (.tuple [a, b]) = true := by
  show (imm a && (imm b && true)) = true
  rw [ha, hb]; rfl
abbrev s__law_two : Stmt := topS 42
theorem sc__law_two : FnScope ["lines", "one", "two", "touch", "first", "second", "whole", "done", "later"] ["lines", "one", "two"] (defScope s__law_two) := ⟨rfl, rfl, rfl, by decide +kernel, rfl, by decide +kernel, by decide +kernel⟩
def spTwo (K : PySem.W.Frag) (Pt : Addr) : Sp := fun vs H Q _ => ∃ (a b c : Addr) (L : List Str) (f s : List Hunk), vs = [.ref a, .ref b, .ref c] ∧ SqT K H a (L.map V.str) ∧ Dp K H (.ref b) (hunksD f) ∧ Dp K H (.ref c) (hunksD s) ∧ PtOk L f ∧ PtOk L s ∧ L.length ≤ 100 ∧ Lns L ∧ f.length ≤ 3 ∧ s.length ≤ 3 ∧ (∀ h ∈ f, Lns h.come ∧ h.come.length ≤ 2) ∧ (∀ h ∈ s, Lns h.come ∧ h.come.length ≤ 2) ∧ GxR.TabG H Pt ∧
  ∀ H' : Hp, Sv Pt H H' → GxR.TabG H' Pt → Q (.bl true) H'
/-- rows stay small -/
theorem apply_small {L : List Str} (hl : Lns L) : ∀ {hs : List Hunk} {i : Nat}, i ≤ L.length → Sep L.length i hs → (∀ h ∈ hs, Lns h.come ∧ h.come.length ≤ 2) → Lns (applyF L i hs) ∧ (applyF L i hs).length ≤ L.length - i + 2 * hs.length
  | [], i, _, _, _ => ⟨fun x hx => hl x (List.mem_of_mem_drop hx), by show (L.drop i).length ≤ _; rw [List.length_drop]; omega⟩
  | h :: r, i, hi, ⟨s1, s2, s3⟩, q => by
    obtain ⟨q1, q2⟩ := q h (List.mem_cons_self ..)
    obtain ⟨i1, i2⟩ := apply_small hl (hs := r) (i := h.start + h.gone.length) s2 (s3.le (Nat.le_succ _)) fun x hx => q x (List.mem_cons_of_mem _ hx)
    have e : (cutL L i h.start).length = h.start - i := cutL_length L (by omega)
    refine ⟨fun x hx => ?_, ?_⟩
    · rw [applyF] at hx
      rcases List.mem_append.mp hx with hx | hx
      · rcases List.mem_append.mp hx with hx | hx
        · exact hl x (cutL_sub hx)
        · exact q1 x hx
      · exact i1 x hx
    · rw [applyF, List.length_append, List.length_append, e, List.length_cons]
      omega
/-- two patches of one row that do not touch: what both, carried and commuted give -/
structure TwoW (L : List Str) (f s bs : List Hunk) (S F U : List Str) (cs cf : List Hunk) : Prop where
  bp : bs.Perm (f ++ s)
  pb : PtOk L bs
  lb : bs.length ≤ 6
  pcf : PtOk S cf
  ecf : applyF S 0 cf = U
  ntf : noTouch cf (backF 0 0 s)
  bkf : carryF (backF 0 0 s) cf = f
  pcs : PtOk F cs
  ecs : applyF F 0 cs = U
  nts : noTouch cs (backF 0 0 f)
  bks : carryF (backF 0 0 f) cs = s
  lS : Lns S ∧ S.length ≤ 200
  lF : Lns F ∧ F.length ≤ 200
  lU : Lns U ∧ U.length ≤ 200
  lcs : cs.length = s.length
  lcf : cf.length = f.length
theorem two_facts {L : List Str} {f s : List Hunk} (hL : Lns L) (lL : L.length ≤ 100) (pf : PtOk L f) (ps : PtOk L s) (lf : f.length ≤ 3) (ls : s.length ≤ 3) (cf : ∀ h ∈ f, Lns h.come ∧ h.come.length ≤ 2) (cs : ∀ h ∈ s, Lns h.come ∧ h.come.length ≤ 2) (nt : noTouch f s) :
    ∃ bs, TwoW L f s bs (applyF L 0 s) (applyF L 0 f) (applyF L 0 bs) (carryF f s) (carryF s f) := by
  obtain ⟨U, bs, bp, pb, eU, pcf, ecfU, ntb, cbf, _⟩ := two_one (M := []) (L := L) pf ps nt
  obtain ⟨U2, bs2, bp2, pb2, eU2, pcs, ecsU, ntb2, cbs, _⟩ := two_one (M := []) (L := L) ps pf nt.symm
  have ebs : bs2 = bs := sep_uniq (bp2.trans (List.perm_append_comm.trans bp.symm)) pb2.sep.pw pb.sep.pw
  have lb : bs.length = f.length + s.length := by rw [bp.length_eq, List.length_append]
  have a1 := apply_small hL (Nat.zero_le _) pf.sep cf
  have a2 := apply_small hL (Nat.zero_le _) ps.sep cs
  have cb : ∀ h ∈ bs, Lns h.come ∧ h.come.length ≤ 2 := fun h hm => by
    rcases List.mem_append.mp (bp.mem_iff.mp hm) with hm | hm
    · exact cf h hm
    · exact cs h hm
  have a3 := apply_small hL (Nat.zero_le _) pb.sep cb
  exact ⟨bs, bp, pb, by omega, pcf, ecfU.trans eU.symm, ntb, cbf, pcs, by rw [ecsU, ← eU2, ebs], ntb2, cbs, ⟨a2.1, by omega⟩, ⟨a1.1, by omega⟩, ⟨a3.1, by omega⟩, carry_len .., carry_len ..⟩
theorem both_is {L : List Str} {f s bs b0 : List Hunk} {S F U : List Str} {cs cf : List Hunk} (W : TwoW L f s bs S F U cs cf) (pf : PtOk L f) (ps : PtOk L s) (nt : noTouch f s) (hp : b0.Perm (f ++ s)) (ho : b0.Pairwise fun a b => a.start ≤ b.start) : b0 = bs :=
  sep_uniq (hp.trans W.bp.symm) (parts_apart pf.sep ps.sep pf.fit ps.fit nt hp ho).2.pw W.pb.sep.pw
section
variable {P : Program} {w : World} {K : PySem.W.Frag} {mg : Str → Option Value} {base : Heap}
theorem ok_two {f fT fD fC fP fB fA fU fI fM fK C fIn c Pt : Addr} {fd fdT fdD fdC fdP fdB fdA fdU fdI fdM fdK : FuncData} (F : Fun K "_law_two" "_law_two" s__law_two f fd) (T0 : Txt0 mg) (T : PySem.CfX.CfTxt P K mg C fIn) (TB : GxR.TabB base mg c Pt)
    (z_isi : mg "isinstance" = none) (z_str : mg "str" = none) (z_bool : mg "bool" = none) (z_all : mg "all" = none) (z_sorted : mg "sorted" = none)
    (D__law_touch : Df K mg "_law_touch" s__law_touch ["one", "two"] fT fdT) (D_do_touch : Df K mg "do_touch" s_do_touch ["one", "two"] fD fdD) (D_carried : Df K mg "carried" s_carried ["patch", "over"] fC fdC) (D_place_after : Df K mg "place_after" s_place_after ["patch", "place"] fP fdP)
    (D_both : Df K mg "both" s_both ["one", "two"] fB fdB) (D__law_apply : Df K mg "_law_apply" s__law_apply ["lines", "patch"] fA fdA) (D_put_on : Df K mg "put_on" s_put_on ["lines", "patch"] fU fdU)
    (D_is_patch : DfC K mg "is_patch" s_is_patch ["value"] fI c fdI) (D_commuted : Df K mg "commuted" s_commuted ["first", "second"] fM fdM) (D_turned_back : Df K mg "turned_back" s_turned_back ["patch"] fK fdK) : FnOk P w K mg base CX0 4 f fd ["lines", "one", "two"] (spTwo K Pt) := by
  have G__law_touch : FnOk P w K mg base CX0 1 fT fdT ["one", "two"] (spTouch2 K) := ok_ltouch D__law_touch.F T0
  have G_do_touch : FnOk P w K mg base CX0 1 fD fdD ["one", "two"] (spTouch2 K) := ok_touch2 D_do_touch.F T0
  have G_carried : FnOk P w K mg base CX0 2 fC fdC ["patch", "over"] (spCarried K) := ok_carried D_carried.F T0 D_do_touch D_place_after
  have G_both : FnOk P w K mg base CX0 2 fB fdB ["one", "two"] (spBoth2 K) := ok_both2 D_both.F T0 z_sorted D_do_touch
  have G__law_apply : FnOk P w K mg base CX0 1 fA fdA ["lines", "patch"] (spApply K) := ok_apply D__law_apply.F T0
  have G_put_on : FnOk P w K mg base (L2N.CX P w) 1 fU fdU ["lines", "patch"] (spPutX K C) := ok_putx D_put_on.F T0 T
  have G_is_patch : FnOk P w K mg base CX0 3 fI fdI ["value"] (spIsP K Pt) := ok_isp D_is_patch.F TB T0 z_isi z_str z_bool z_all
  have G_commuted : FnOk P w K mg base CX0 3 fM fdM ["first", "second"] (spCommuted K) := ok_commuted D_commuted.F T0 D_do_touch D_place_after D_turned_back D_carried
  refine F.ok sc__law_two (fun vs H Q E h => ?_) (fun cdv A outer s H vs Q E hr h => ?_)
  · obtain ⟨a, b, c, L, f, s, rfl, _⟩ := h
    rfl
  · obtain ⟨a, b, cc, L, f, s, rfl, hA, hB, hC, pf, ps, lL, hL, lf, ls, cf, cs, tab, k⟩ := h
    refine ⟨_, (pss_cons (ps_set (i := 3) sc__law_two.nd rfl (Or.inl rfl) (pe_call G__law_touch (hr.mono (by decide)) rfl D__law_touch.m D__law_touch.F.kp D__law_touch.b .nil pass0 (pa_cons (pv 1) (pa_cons (pv 2) pa_nil))))
      (pss_cons (ps_if (pt_cmpR (op_neD hr.units) (pe_call G_do_touch (hr.mono (by decide)) rfl D_do_touch.m D_do_touch.F.kp D_do_touch.b .nil pass0 (pa_cons (pv 1) (pa_cons (pv 2) pa_nil))) (pv 3) (nomark _))
        (pss_one (ps_ret pe_bl))
        pss_nil)
      (pss_cons (ps_if (pt_cmpR op_notN (pv 3) pe_non (nomark _))
        (pss_one (ps_ret (pe_and (pe_cmpR op_isN (pe_call G_carried (hr.mono (by decide)) rfl D_carried.m D_carried.F.kp D_carried.b .nil pass0 (pa_cons (pv 1) (pa_cons (pv 2) pa_nil))) pe_non (nomark _)) (pe_one (pe_cmpR op_isN (pe_call G_both (hr.mono (by decide)) rfl D_both.m D_both.F.kp D_both.b .nil pass0 (pa_cons (pv 1) (pa_cons (pv 2) pa_nil))) pe_non (nomark _))))))
        pss_nil)
      (pss_cons (ps_set (i := 4) sc__law_two.nd rfl (Or.inl rfl) (pe_call G__law_apply (hr.mono (by decide)) rfl D__law_apply.m D__law_apply.F.kp D__law_apply.b .nil pass0 (pa_cons (pv 0) (pa_cons (pv 1) pa_nil))))
      (pss_cons (ps_set (i := 5) sc__law_two.nd rfl (Or.inl rfl) (pe_call G__law_apply (hr.mono (by decide)) rfl D__law_apply.m D__law_apply.F.kp D__law_apply.b .nil pass0 (pa_cons (pv 0) (pa_cons (pv 2) pa_nil))))
      (pss_cons (ps_set (i := 6) sc__law_two.nd rfl (Or.inl rfl) (pe_call G_both (hr.mono (by decide)) rfl D_both.m D_both.F.kp D_both.b .nil pass0 (pa_cons (pv 1) (pa_cons (pv 2) pa_nil))))
      (pss_cons (ps_set (i := 7) sc__law_two.nd rfl (Or.inl rfl) (pe_call G_put_on (hr.mono (by decide)) rfl D_put_on.m D_put_on.F.kp D_put_on.b .nil pass_no (pa_cons (pv 0) (pa_cons (pv 6) pa_nil))))
      (pss_cons (ps_if (PW.pt (pw_or (pt_cmpR op_isnot_bl (pe_call G_is_patch (hr.mono (by decide)) rfl D_is_patch.m D_is_patch.F.kp D_is_patch.b .nil pass0 (pa_cons (pv 6) pa_nil)) pe_bl (nomark _)) (pw_or (pt_cmpR (op_neD hr.units) (pe_call G_put_on (hr.mono (by decide)) rfl D_put_on.m D_put_on.F.kp D_put_on.b .nil pass_no (pa_cons (pv 4) (pa_cons (pe_call G_carried (hr.mono (by decide)) rfl D_carried.m D_carried.F.kp D_carried.b .nil pass0 (pa_cons (pv 2) (pa_cons (pv 1) pa_nil))) pa_nil))) (pv 7) (nomark _)) (pw_or1 (pt_cmpR (op_neD hr.units) (pe_call G_put_on (hr.mono (by decide)) rfl D_put_on.m D_put_on.F.kp D_put_on.b .nil pass_no (pa_cons (pv 5) (pa_cons (pe_call G_carried (hr.mono (by decide)) rfl D_carried.m D_carried.F.kp D_carried.b .nil pass0 (pa_cons (pv 1) (pa_cons (pv 2) pa_nil))) pa_nil))) (pv 7) (nomark _))))))
        (pss_one (ps_ret pe_bl))
        pss_nil)
      (pss_cons (ps_set (i := 8) sc__law_two.nd rfl (Or.inl rfl) (pe_call G_carried (hr.mono (by decide)) rfl D_carried.m D_carried.F.kp D_carried.b .nil pass0 (pa_cons (pv 2) (pa_cons (pv 1) pa_nil))))
      (pss_one (ps_ret (pe_and (pe_cmpR (op_eqD hr.units) (pe_call G_commuted (hr.mono (by decide)) rfl D_commuted.m D_commuted.F.kp D_commuted.b .nil pass0 (pa_cons (pv 1) (pa_cons (pv 8) pa_nil))) (pe_tup (pa_cons (pv 2) (pa_cons (pe_call G_carried (hr.mono (by decide)) rfl D_carried.m D_carried.F.kp D_carried.b .nil pass0 (pa_cons (pv 1) (pa_cons (pv 2) pa_nil))) pa_nil))) (nomark _)) (pe_one (pe_cmpR (op_eqD hr.units) (pe_call G_commuted (hr.mono (by decide)) rfl D_commuted.m D_commuted.F.kp D_commuted.b .nil pass0 (pa_cons (pv 2) (pa_cons (pe_call G_carried (hr.mono (by decide)) rfl D_carried.m D_carried.F.kp D_carried.b .nil pass0 (pa_cons (pv 1) (pa_cons (pv 2) pa_nil))) pa_nil))) (pe_tup (pa_cons (pv 1) (pa_cons (pv 8) pa_nil))) (nomark _))))))))))))))), ?_⟩
    have lf1 : f.length ≤ 1000 := by omega
    have ls1 : s.length ≤ 1000 := by omega
    have pwf := pf.sep.pw
    have pws := ps.sep.pw
    refine ⟨_, rfl, _, rfl, b, cc, f, s, rfl, hB, hC, lf1, ls1, fun H1 v1 s1 hv1 o1 => ?_⟩
    have t1 : TK K H H1 := TK.same s1
    refine ⟨_, rfl, _, rfl, b, cc, f, s, rfl, dp_keep t1 _ _ (imm_hunks _) hB, dp_keep t1 _ _ (imm_hunks _) hC, lf1, ls1, fun H2 v2 s2 hv2 o2 => ⟨_, rfl, ?_⟩⟩
    have s12 := s1.trans s2
    have t2 : TK K H H2 := TK.same s12
    refine ne_same hv2 (dp_keep (TK.same s2) _ _ (imm_opt _) hv1) (okD_opt _) (by decide) ?_
    refine ⟨_, rfl, ?_⟩
    refine iteF ?_
    have hB2 := dp_keep t2 _ _ (imm_hunks _) hB
    have hC2 := dp_keep t2 _ _ (imm_hunks _) hC
    rcases o1 with ⟨rfl, e1⟩ | ⟨p, q, rfl, e1⟩
    rotate_left
    · have ts : touchSome f s := by
        refine Classical.byContradiction fun n => ?_
        have nt : noTouch f s := fun x hx y hy z => n ⟨x, hx, y, hy, z⟩
        have e2 : touchF f s = none := touchI_none.mpr nt
        rw [e2] at e1
        cases e1
      refine ⟨_, rfl, rfl, _, rfl, ?_⟩
      refine iteT ?_
      refine ⟨_, rfl, _, rfl, b, cc, f, s, _, rfl, hB2, hC2, lf1, ls1, ps.sep, fun H3 v3 s3 o3 => ?_⟩
      rcases o3 with ⟨rfl, _⟩ | ⟨nt, _⟩
      rotate_left
      · obtain ⟨x, hx, y, hy, z⟩ := ts
        exact absurd z (nt x hx y hy)
      refine ⟨rfl, _, rfl, ?_⟩
      refine iteT ?_
      have s23 : Same H H3 := s12.trans s3
      have t3 : TK K H H3 := TK.same s23
      refine ⟨_, rfl, _, rfl, b, cc, f, s, rfl, dp_keep t3 _ _ (imm_hunks _) hB, dp_keep t3 _ _ (imm_hunks _) hC, lf1, ls1, pwf, pws, fun _ H4 s4 => ⟨rfl, ?_⟩, fun nt => ?_⟩
      rotate_left
      · obtain ⟨x, hx, y, hy, z⟩ := ts
        exact absurd z (nt x hx y hy)
      exact k H4 (Sv.same (s23.trans s4)) (tab_same tab (s23.trans s4))
    have nt : noTouch f s := touchI_none.mp e1
    refine ⟨_, rfl, rfl, _, rfl, ?_⟩
    refine iteF ?_
    obtain ⟨bs, W⟩ := two_facts hL lL pf ps lf ls cf cs nt
    obtain ⟨S, eS⟩ : ∃ S, S = applyF L 0 s := ⟨_, rfl⟩
    obtain ⟨F, eF⟩ : ∃ F, F = applyF L 0 f := ⟨_, rfl⟩
    obtain ⟨cs', ecs⟩ : ∃ c, c = carryF f s := ⟨_, rfl⟩
    obtain ⟨cf', ecf⟩ : ∃ c, c = carryF s f := ⟨_, rfl⟩
    obtain ⟨U, eU⟩ : ∃ U, U = applyF L 0 bs := ⟨_, rfl⟩
    rw [← eS, ← eF, ← ecs, ← ecf, ← eU] at W
    have okL : OkL L := lns_ok hL
    have rL : RowL L := ⟨hL, Nat.le_trans lL (by decide)⟩
    have okgf : ∀ h ∈ f, OkL h.gone := fun h hm => lns_ok (fit_ln hL pf.fit h hm)
    have okgs : ∀ h ∈ s, OkL h.gone := fun h hm => lns_ok (fit_ln hL ps.fit h hm)
    have okgb : ∀ h ∈ bs, OkL h.gone := fun h hm => lns_ok (fit_ln hL W.pb.fit h hm)
    have okcf : ∀ h ∈ cf', OkL h.gone := fun h hm => lns_ok (fit_ln W.lS.1 W.pcf.fit h hm)
    have okcs : ∀ h ∈ cs', OkL h.gone := fun h hm => lns_ok (fit_ln W.lF.1 W.pcs.fit h hm)
    have W1 := W.lb
    have W2 := W.lS.2
    have W3 := W.lF.2
    have W4 := W.lU.2
    have W5 := W.lcs
    have W6 := W.lcf
    refine ⟨_, rfl, _, rfl, a, b, L, f, rfl, t2 _ _ hA, hB2, by rw [← eF]; omega, fun H3 p1 s3 h1 => ?_⟩
    rw [← eF] at h1
    have s03 := s12.trans s3
    have t3 : TK K H H3 := TK.same s03
    refine ⟨_, rfl, _, rfl, a, cc, L, s, rfl, t3 _ _ hA, dp_keep t3 _ _ (imm_hunks _) hC, by rw [← eS]; omega, fun H4 p2 s4 h2 => ?_⟩
    rw [← eS] at h2
    have s04 := s03.trans s4
    have t4 : TK K H H4 := TK.same s04
    refine ⟨_, rfl, _, rfl, b, cc, f, s, rfl, dp_keep t4 _ _ (imm_hunks _) hB, dp_keep t4 _ _ (imm_hunks _) hC, lf1, ls1, pwf, pws, fun ts => ?_, fun _ H5 v3 b0 s5 h3 hp ho => ?_⟩
    · obtain ⟨x, hx, y, hy, z⟩ := ts
      exact absurd z (nt x hx y hy)
    obtain rfl : b0 = bs := both_is W pf ps nt hp ho
    have s05 := s04.trans s5
    have t5 : TK K H H5 := TK.same s05
    obtain ⟨p3, w3, rfl, q3, d3⟩ := of_tupD h3
    have pn : wrongH L 0 b0 = [] := W.pb.fits
    refine ⟨_, rfl, _, rfl, a, p3, L, b0, rfl, t5 _ _ hA, h3, okL, okgb, by omega, by omega, fun _ => ⟨by rw [← eU]; omega, fun H6 p4 s6 h4 => ?_⟩, fun n => absurd pn n⟩
    rw [← eU] at h4
    have s06 := s05.trans s6
    have t6 : TK K H H6 := TK.same s06
    have tab6 := tab_same tab s06
    refine ⟨_, rfl, _, rfl, .inr ⟨p3, w3, [], b0, true, rfl, by rw [List.append_nil]; exact s6.seqT q3, hunks_keep (TK.same s6) d3, good_of W.pb rL (by rw [← eU]; exact ⟨W.lU.1, by omega⟩), .inl ⟨rfl, rfl⟩, tab6, fun H7 sv7 tab7 => ?_⟩⟩
    refine ⟨_, _, rfl, rfl, _, rfl, ?_⟩
    refine iteF ?_
    have t7 : TK K H H7 := t6.trans (tab_tk tab6 sv7)
    have sv07 : Sv Pt H H7 := (Sv.same s06).trans sv7
    have h47 := tab_tk tab6 sv7 _ _ h4
    have h17 : SqT K H7 p1 (F.map V.str) := tab_tk tab6 sv7 _ _ (s6.seqT (s5.seqT (s4.seqT h1)))
    have h27 : SqT K H7 p2 (S.map V.str) := tab_tk tab6 sv7 _ _ (s6.seqT (s5.seqT h2))
    -- put_on(first, carried(two, one)) != done
    refine ⟨_, rfl, _, rfl, _, rfl, cc, b, s, f, _, rfl, dp_keep t7 _ _ (imm_hunks _) hC, dp_keep t7 _ _ (imm_hunks _) hB, ls1, lf1, pf.sep, fun H8 v8 s8 o8 => ?_⟩
    rcases o8 with ⟨rfl, x, hx, y, hy, z⟩ | ⟨_, q8, rfl, d8⟩
    · exact absurd z (nt.symm x hx y hy)
    rw [← ecs] at d8
    have t8 : TK K H H8 := t7.trans (TK.same s8)
    have h18 := s8.seqT h17
    refine ⟨p1, q8, F, cs', rfl, h18, d8, lns_ok W.lF.1, okcs, by omega, by omega, fun _ => ⟨by rw [W.ecs]; omega, fun H9 p9 s9 h9 => ⟨_, rfl, ?_⟩⟩, fun n => absurd W.pcs.fits n⟩
    rw [W.ecs] at h9
    have t9 : TK K H H9 := t8.trans (TK.same s9)
    have s79 := s8.trans s9
    have okU : OkD 1 (linesD U) := okD_lines (lns_ok W.lU.1)
    refine ne_same (dp_lines h9) (dp_lines (s79.seqT h47)) okU (by decide) ?_
    refine ⟨_, rfl, ?_⟩
    refine iteF ?_
    -- put_on(second, carried(one, two)) != done
    refine ⟨_, rfl, _, rfl, _, rfl, b, cc, f, s, _, rfl, dp_keep t9 _ _ (imm_hunks _) hB, dp_keep t9 _ _ (imm_hunks _) hC, lf1, ls1, ps.sep, fun Ha va sa oa => ?_⟩
    rcases oa with ⟨rfl, x, hx, y, hy, z⟩ | ⟨_, qa, rfl, da⟩
    · exact absurd z (nt x hx y hy)
    rw [← ecf] at da
    have ta : TK K H Ha := t9.trans (TK.same sa)
    have s7a := s79.trans sa
    refine ⟨p2, qa, S, cf', rfl, s7a.seqT h27, da, lns_ok W.lS.1, okcf, by omega, by omega, fun _ => ⟨by rw [W.ecf]; omega, fun Hb pb' sb hb => ⟨_, rfl, ?_⟩⟩, fun n => absurd W.pcf.fits n⟩
    rw [W.ecf] at hb
    have tb : TK K H Hb := ta.trans (TK.same sb)
    have s7b := s7a.trans sb
    refine ne_same (dp_lines hb) (dp_lines (s7b.seqT h47)) okU (by decide) ?_
    refine ⟨_, rfl, ?_⟩
    refine iteF ?_
    -- later
    refine ⟨_, rfl, _, rfl, cc, b, s, f, _, rfl, dp_keep tb _ _ (imm_hunks _) hC, dp_keep tb _ _ (imm_hunks _) hB, ls1, lf1, pf.sep, fun Hc vc sc oc => ?_⟩
    rcases oc with ⟨rfl, x, hx, y, hy, z⟩ | ⟨_, qc, rfl, dc⟩
    · exact absurd z (nt.symm x hx y hy)
    rw [← ecs] at dc
    have tc : TK K H Hc := tb.trans (TK.same sc)
    have s7c := s7b.trans sc
    -- commuted(one, later)
    refine ⟨_, rfl, _, rfl, b, qc, f, cs', _, _, L.length, rfl, dp_keep tc _ _ (imm_hunks _) hB, dc, lf1, by omega, pf.sep, pf.back.1.sep, fun _ => ?_, fun Hd vd sd od => ?_⟩
    · rw [W.bks]
      exact ⟨ps.sep, nt⟩
    rcases od with ⟨rfl, x, hx, y, hy, z⟩ | ⟨_, qd, x, y, rfl, hd, dx, dy⟩
    · exact absurd z (W.nts x hx y hy)
    rw [W.bks] at dx dy
    rw [← ecf] at dy
    have td : TK K H Hd := tc.trans (TK.same sd)
    have s7d := s7c.trans sd
    refine ⟨_, rfl, _, rfl, _, rfl, b, cc, f, s, _, rfl, dp_keep td _ _ (imm_hunks _) hB, dp_keep td _ _ (imm_hunks _) hC, lf1, ls1, ps.sep, fun He ve se oe => ?_⟩
    rcases oe with ⟨rfl, x, hx, y, hy, z⟩ | ⟨_, qe, rfl, de⟩
    · exact absurd z (nt x hx y hy)
    rw [← ecf] at de
    have te : TK K H He := td.trans (TK.same se)
    have s7e := s7d.trans se
    have sce := sd.trans se
    have rU : RowL U := ⟨W.lU.1, by omega⟩
    have rF : RowL F := ⟨W.lF.1, by omega⟩
    have rS : RowL S := ⟨W.lS.1, by omega⟩
    have okf : OkD 3 (hunksD f) := ok_hunks' pf rL (by rw [← eF]; exact rF)
    have oks : OkD 3 (hunksD s) := ok_hunks' ps rL (by rw [← eS]; exact rS)
    have okf' : OkD 3 (hunksD cf') := ok_hunks' W.pcf rS (by rw [W.ecf]; exact rU)
    have oks' : OkD 3 (hunksD cs') := ok_hunks' W.pcs rF (by rw [W.ecs]; exact rU)
    refine ⟨by show 2 ≤ sizeLine; decide, fun r hr => ?_⟩
    have tf : TK K H (upd He r (.tup [.ref cc, .ref qe])) := te.trans (TK.new hr)
    have snf : Same Hd (upd He r (.tup [.ref cc, .ref qe])) := se.trans (same_new hr)
    have df : Dp K (upd He r (.tup [.ref cc, .ref qe])) (.ref r) (.tuple [hunksD s, hunksD cf']) := .tup (.inl (.inl upd_same)) (.cons (dp_keep tf _ _ (imm_hunks _) hC) (.cons (dp_keep (TK.new hr) _ _ (imm_hunks _) de) .nil))
    refine eq_same (d := .tuple [hunksD s, hunksD cf']) (dp_keep (TK.same snf) _ _ (imm_two (imm_hunks _) (imm_hunks _)) (.tup hd (.cons dx (.cons dy .nil)))) df (okD_two oks okf') (by decide) ?_
    refine ⟨_, rfl, ?_⟩
    refine iteT ?_
    -- commuted(two, carried(one, two))
    have hBf := dp_keep tf _ _ (imm_hunks _) hB
    have hCf := dp_keep tf _ _ (imm_hunks _) hC
    refine ⟨_, rfl, _, rfl, _, rfl, b, cc, f, s, _, rfl, hBf, hCf, lf1, ls1, ps.sep, fun Hg vg sg og => ?_⟩
    rcases og with ⟨rfl, x, hx, y, hy, z⟩ | ⟨_, qg, rfl, dg⟩
    · exact absurd z (nt x hx y hy)
    rw [← ecf] at dg
    have tg := tf.trans (TK.same sg)
    refine ⟨cc, qg, s, cf', _, _, L.length, rfl, dp_keep tg _ _ (imm_hunks _) hC, dg, ls1, by omega, ps.sep, ps.back.1.sep, fun _ => ?_, fun Hh vh sh oh => ?_⟩
    · rw [W.bkf]
      exact ⟨pf.sep, nt.symm⟩
    rcases oh with ⟨rfl, x, hx, y, hy, z⟩ | ⟨_, qh, x', y', rfl, hh, dx', dy'⟩
    · exact absurd z (W.ntf x hx y hy)
    rw [W.bkf] at dx' dy'
    rw [← ecs] at dy'
    have th := tg.trans (TK.same sh)
    have sch : Same Hc Hh := sce.trans ((same_new hr).trans (sg.trans sh))
    refine ⟨_, rfl, _, rfl, by show 2 ≤ sizeLine; decide, fun r2 hr2 => ?_⟩
    have s2 : Same Hh (upd Hh r2 (.tup [.ref b, .ref qc])) := same_new hr2
    have ti := th.trans (TK.same s2)
    refine eq_same (d := .tuple [hunksD f, hunksD cs']) (dp_keep (TK.same s2) _ _ (imm_two (imm_hunks _) (imm_hunks _)) (.tup hh (.cons dx' (.cons dy' .nil)))) (.tup (.inl (.inl upd_same)) (.cons (dp_keep ti _ _ (imm_hunks _) hB) (.cons (dp_keep (TK.same (sch.trans s2)) _ _ (imm_hunks _) dc) .nil))) (okD_two okf oks') (by decide) ?_
    have sall : Same H7 (upd Hh r2 (.tup [.ref b, .ref qc])) := s7c.trans (sch.trans s2)
    exact k _ (sv07.trans (Sv.same sall)) (tab_same tab7 sall)
end
end VK
end

section
set_option Elab.async false
set_option linter.all false
set_option pp.maxSteps 1500
set_option maxRecDepth 100000
set_option maxHeartbeats 4000000
namespace VK
open PySem L2
abbrev s_patch_between : Stmt := topS 12
theorem sc_patch_between : FnScope ["one", "two"] ["one", "two"] (defScope s_patch_between) := ⟨rfl, rfl, rfl, by decide +kernel, rfl, by decide +kernel, by decide +kernel⟩
section
variable {P : Program} {w : World} {K : PySem.W.Frag} {mg : Str → Option Value} {base : Heap}
theorem ok_between {f fH : Addr} {fd fdH : FuncData} (F : Fun K "patch_between" "patch_between" s_patch_between f fd) (D_hunks_of : Df K mg "hunks_of" s_hunks_of ["one", "two"] fH fdH) (G_hunks_of : FnOk P w K mg base CX0 3 fH fdH ["one", "two"] (spHunksOf K)) : FnOk P w K mg base CX0 4 f fd ["one", "two"] (spHunksOf K) := by
  refine F.ok sc_patch_between (fun vs H Q E h => ?_) (fun cdv A outer s H vs Q E hr h => ?_)
  · obtain ⟨a, b, one, two, rfl, _⟩ := h
    rfl
  · obtain ⟨a, b, one, two, rfl, h⟩ := h
    refine ⟨_, (pss_one (ps_ret (pe_call G_hunks_of (hr.mono (by decide)) rfl D_hunks_of.m D_hunks_of.F.kp D_hunks_of.b .nil pass0 (pa_cons (pv 0) (pa_cons (pv 1) pa_nil))))), ?_⟩
    exact ⟨_, rfl, _, rfl, a, b, one, two, rfl, h⟩
end
end VK
end

section
set_option Elab.async false
set_option linter.all false
set_option pp.maxSteps 1500
set_option maxRecDepth 100000
set_option maxHeartbeats 4000000
namespace VK
open PySem L2
theorem StAt.tab {K : PySem.W.Frag} {H H' : Hp} {st sc Pt : Addr} {ns : List Int} (h : StAt K H st sc ns) (t : GxR.TabG H Pt) (s : Sv Pt H H') : StAt K H' st sc ns := by
  obtain ⟨s0, p, s3, e, hp⟩ := h.at_
  obtain ⟨ps, et, _⟩ := t
  have n1 : st ≠ Pt := by
    rintro rfl
    rw [e] at et
    cases et
  have n2 : sc ≠ Pt := by
    rintro rfl
    rw [h.hsc] at et
    cases et
  exact ⟨⟨s0, p, s3, s _ _ n1 e, hp⟩, s _ _ n2 h.hsc, h.ne⟩
theorem tab_sv {K : PySem.W.Frag} {H H' : Hp} {Pt st sc : Addr} {ns : List Int} (t : GxR.TabG H Pt) (h : StAt K H st sc ns) (s : Sv st H H') : GxR.TabG H' Pt := by
  obtain ⟨ps, e, ok⟩ := t
  obtain ⟨s0, p, s3, e2, _⟩ := h.at_
  refine ⟨ps, s _ _ (fun z => ?_) e, ok⟩
  rw [z, e2] at e
  cases e
theorem sql_same {K : PySem.W.Frag} {H H' : Hp} (s : Same H H') {a : Addr} {xs : List V} (h : SqL K H a xs) : SqL K H' a xs := by
  rcases h with h | h
  · rcases h with h | ⟨x, h⟩
    · exact .inl (.inl (s _ _ h))
    · exact .inl (.inr ⟨x, s _ _ h⟩)
  · exact .inr h
mutual
theorem dpSame {K : PySem.W.Frag} {H H' : Hp} (s : Same H H') : ∀ (d : PyData) (v : V), Dp K H v d → Dp K H' v d
  | .none, _, h => by cases h; exact .non
  | .bool _, _, h => by cases h; exact .bl _
  | .int _, _, h => by cases h; exact .int _
  | .str _, _, h => by cases h; exact .str _
  | .list ds, _, h => by
    cases h with
    | lst q r => exact .lst (sql_same s q) (dpSameAll s ds _ r)
  | .tuple ds, _, h => by
    cases h with
    | tup q r => exact .tup (s.seqT q) (dpSameAll s ds _ r)
  | .dict _, _, h => by cases h
theorem dpSameAll {K : PySem.W.Frag} {H H' : Hp} (s : Same H H') : ∀ (ds : List PyData) (vs : List V), DpAll K H vs ds → DpAll K H' vs ds
  | [], _, h => by cases h; exact .nil
  | d :: ds, _, h => by
    cases h with
    | cons h1 h2 => exact .cons (dpSame s d _ h1) (dpSameAll s ds _ h2)
end
theorem okD_nats (l : List Nat) : OkD 1 (natsD l) := okD_tup fun n _ => okD_int _
theorem okD_bool (b : Bool) : OkD 0 (.bool b) := ⟨rfl, by simp [PyData.depth]⟩
theorem okD_list3 {n : Nat} {a b c : PyData} (ha : OkD n a) (hb : OkD n b) (hc : OkD n c) : OkD (n + 1) (.list [a, b, c]) := by
  refine ⟨?_, ?_⟩
  · show (a.canLay0 && (b.canLay0 && (c.canLay0 && true))) = true
    rw [ha.1, hb.1, hc.1]; rfl
  · simp only [PyData.depth, PyData.depthAll]
    have := ha.2
    have := hb.2
    have := hc.2
    omega
theorem okD_fit {ls : List Str} {hs : List Hunk} (h : OkL (applyF ls 0 hs)) : OkD 2 (fitD ls hs) := by
  unfold fitD
  split
  · exact okD_mono (okD_lines h) (by decide)
  · exact okD_list3 (okD_mono (okD_str (by decide +kernel)) (by decide)) (okD_nats _) (okD_mono (okD_bool _) (by decide))
theorem okD_listP (ps : List (Nat × Nat)) : OkD 2 (.list (ps.map pairD)) := by
  have q := okD_pairs ps
  refine ⟨q.1, ?_⟩
  have := q.2
  simp only [PyData.depth] at this ⊢
  exact this
/-- what stands while the law goes on: the state, the table, the rows and the patches between them -/
structure LH (K : PySem.W.Frag) (Pt st sc : Addr) (ns : List Int) (t0 p0 t1 p1 t2 : Addr) (L : List Str) (f : List Hunk) (M : List Str) (s : List Hunk) (N : List Str) (H : Hp) : Prop where
  st : StAt K H st sc ns
  tab : GxR.TabG H Pt
  L : SqT K H t0 (L.map V.str)
  f : Dp K H (.ref p0) (hunksD f)
  M : SqT K H t1 (M.map V.str)
  s : Dp K H (.ref p1) (hunksD s)
  N : SqT K H t2 (N.map V.str)
section
variable {K : PySem.W.Frag} {Pt st sc : Addr} {ns : List Int} {t0 p0 t1 p1 t2 : Addr} {L M N : List Str} {f s : List Hunk} {H H' : Hp}
theorem LH.go (h : LH K Pt st sc ns t0 p0 t1 p1 t2 L f M s N H) (a : StAt K H' st sc ns) (b : GxR.TabG H' Pt) (t : TK K H H') : LH K Pt st sc ns t0 p0 t1 p1 t2 L f M s N H' :=
  ⟨a, b, t _ _ h.L, dp_keep t _ _ (imm_hunks _) h.f, t _ _ h.M, dp_keep t _ _ (imm_hunks _) h.s, t _ _ h.N⟩
theorem LH.same (h : LH K Pt st sc ns t0 p0 t1 p1 t2 L f M s N H) (q : Same H H') : LH K Pt st sc ns t0 p0 t1 p1 t2 L f M s N H' :=
  h.go (h.st.sv q) (tab_same h.tab q) (TK.same q)
theorem LH.isp (h : LH K Pt st sc ns t0 p0 t1 p1 t2 L f M s N H) (q : Sv Pt H H') (b : GxR.TabG H' Pt) : LH K Pt st sc ns t0 p0 t1 p1 t2 L f M s N H' :=
  h.go (h.st.tab h.tab q) b (tab_tk h.tab q)
theorem LH.draw (h : LH K Pt st sc ns t0 p0 t1 p1 t2 L f M s N H) (q : Sv st H H') (a : StAt K H' st sc ns) : LH K Pt st sc ns t0 p0 t1 p1 t2 L f M s N H' :=
  h.go a (tab_sv h.tab h.st q) (h.st.tk q)
theorem hk_keep (t : TK K H H') {v : V} {hs : List Hunk} (h : Dp K H v (hunksD hs)) : Dp K H' v (hunksD hs) := dp_keep t _ _ (imm_hunks _) h
end
/-! ### plain -/
theorem grow_len {L : List Str} {hs : List Hunk} (h : PtOk L hs) : growF hs = ((applyF L 0 hs).length : Int) - (L.length : Int) := by
  have e : growF hs = - sumD hs := by
    unfold growF sumD
    induction hs with
    | nil => rfl
    | cons a r ih =>
      rw [List.map_cons, List.map_cons, List.sum_cons, List.sum_cons, ih ⟨h.sep.2.2.le (Nat.zero_le _), fun x hx => h.fit x (List.mem_cons_of_mem _ hx), fun x hx => h.ne x (List.mem_cons_of_mem _ hx)⟩]
      omega
  have q := apply_len (L := L) (Nat.le_refl 0) (Nat.zero_le _) h.sep
  rw [q, e]
  omega
theorem apply_any {ls : List Str} {C : Nat} : ∀ {hs : List Hunk} {i : Nat}, (∀ h ∈ hs, h.come.length ≤ C) → (applyF ls i hs).length ≤ ls.length + hs.length * (ls.length + C)
  | [], i, _ => by
    show (ls.drop i).length ≤ _
    rw [List.length_drop]
    omega
  | h :: r, i, q => by
    have q1 := q h (List.mem_cons_self ..)
    have q2 := apply_any (ls := ls) (C := C) (hs := r) (i := h.start + h.gone.length) fun x hx => q x (List.mem_cons_of_mem _ hx)
    have q3 := cutL_len ls i h.start
    rw [applyF, List.length_append, List.length_append, List.length_cons, Nat.succ_mul]
    omega
theorem apply_okL {ls : List Str} (ok : OkL ls) : ∀ {hs : List Hunk} {i : Nat}, (∀ h ∈ hs, OkL h.come) → OkL (applyF ls i hs)
  | [], i, _ => fun x hx => ok x (List.mem_of_mem_drop hx)
  | h :: r, i, q => fun x hx => by
    rw [applyF] at hx
    rcases List.mem_append.mp hx with hx | hx
    · rcases List.mem_append.mp hx with hx | hx
      · exact ok x (cutL_sub hx)
      · exact q h (List.mem_cons_self ..) x hx
    · exact apply_okL ok (fun y hy => q y (List.mem_cons_of_mem _ hy)) x hx
theorem rew_applyF (ls : List Str) : ∀ (hs : List Hunk) (i : Nat), rewF ls 0 i hs = applyF ls i hs
  | [], _ => rfl
  | h :: r, i => by
    rw [rewF, applyF, Nat.sub_zero, rew_applyF ls r]
/-- two patches after one another, the second put ahead -/
theorem swap_facts {L : List Str} {f s : List Hunk} (hL : Lns L) (lL : L.length ≤ 100) (pf : PtOk L f) (ps : PtOk (applyF L 0 f) s) (lf : f.length ≤ 3) (ls : s.length ≤ 3) (cf : ∀ h ∈ f, Lns h.come ∧ h.come.length ≤ 2) (cs : ∀ h ∈ s, Lns h.come ∧ h.come.length ≤ 2) (nt : noTouch s (backF 0 0 f)) :
    ∃ s', s' = carryF (backF 0 0 f) s ∧ PtOk L s' ∧ noTouch f s' ∧ s'.length = s.length ∧ PtOk (applyF L 0 s') (carryF s' f) ∧ applyF (applyF L 0 s') 0 (carryF s' f) = applyF (applyF L 0 f) 0 s ∧ Lns (applyF L 0 s') ∧ (applyF L 0 s').length ≤ 200 ∧ Lns (applyF (applyF L 0 f) 0 s) ∧ (carryF s' f).length = f.length := by
  obtain ⟨b1, b2, b3⟩ := pf.back
  obtain ⟨U, bs, _, _, _, pcs, _, ntb, cbs, _⟩ := two_one (M := []) ps b1 nt
  obtain ⟨s', es⟩ : ∃ s', s' = carryF (backF 0 0 f) s := ⟨_, rfl⟩
  rw [← es, b2] at pcs
  rw [← es, b3] at ntb cbs
  have ls' : s'.length = s.length := by rw [es, carry_len]
  obtain ⟨bs2, W⟩ := two_facts hL lL pf pcs lf (by omega) cf (fun h hm => by
    rw [es] at hm
    obtain ⟨x, hx, _, e⟩ := carry_mem hm
    rw [e]
    exact cs x hx) ntb.symm
  have e2 : applyF L 0 bs2 = applyF (applyF L 0 f) 0 s := by
    rw [← W.ecs, cbs]
  refine ⟨s', es, pcs, ntb.symm, ls', W.pcf, by rw [W.ecf, e2], W.lS.1, W.lS.2, by rw [← e2]; exact W.lU.1, carry_len ..⟩
theorem drawA (n : Nat) : (0 : Int) < (n : Int) + 1 := by omega
theorem drawB {n : Nat} (h : n ≤ 100) : (n : Int) + 1 < 1000000000 := by omega
theorem eight {d : Int} (h0 : 0 ≤ d) (h1 : d < 8) : d = 0 ∨ d = 1 ∨ d = 2 ∨ d = 3 ∨ d = 4 ∨ d = 5 ∨ d = 6 ∨ d = 7 := by omega
theorem wrong_facts {L : List Str} {J : List Hunk} {n : Nat} (hL : Lns L) (hn : (L.take n).length ≤ 100) (lJ : J.length ≤ 11) (pJ : PtOk L J) (lN : (applyF L 0 J).length ≤ 300) (lnN : Lns (applyF L 0 J)) :
    OkL (L.take n ++ [("q\n" : Str)]) ∧ (L.take n ++ [("q\n" : Str)]).length ≤ 101 ∧ OkL (applyF (L.take n ++ [("q\n" : Str)]) 0 J) ∧ (applyF (L.take n ++ [("q\n" : Str)]) 0 J).length ≤ 10000 := by
  have ok : OkL (L.take n ++ [("q\n" : Str)]) := fun x hx => by
    rcases List.mem_append.mp hx with hx | hx
    · exact lns_ok hL x (List.mem_of_mem_take hx)
    · rw [List.mem_singleton.mp hx]; decide +kernel
  have l1 : (L.take n ++ [("q\n" : Str)]).length ≤ 101 := by rw [List.length_append]; show _ + 1 ≤ _; omega
  refine ⟨ok, l1, apply_okL ok fun h hm => lns_ok (come_ln lnN h hm), ?_⟩
  have q := apply_any (ls := L.take n ++ [("q\n" : Str)]) (C := 300) (hs := J) (i := 0) fun h hm => Nat.le_trans (come_len hm) lN
  have q2 : J.length * ((L.take n ++ [("q\n" : Str)]).length + 300) ≤ 11 * 401 := Nat.mul_le_mul lJ (by omega)
  omega
end VK
end

section
set_option Elab.async false
set_option linter.all false
set_option pp.maxSteps 1500
set_option maxRecDepth 100000
set_option maxHeartbeats 4000000
namespace VK
open PySem L2
abbrev s_law : Stmt := topS 44
theorem sc_law : FnScope ["script", "state", "lines", "one", "middle", "two", "last", "made", "three", "whole", "swapped", "other", "wrong", "odd", "hunk"] ["script"] (defScope s_law) := ⟨rfl, rfl, rfl, by decide +kernel, rfl, by decide +kernel, by decide +kernel⟩
def spLaw (K : PySem.W.Frag) (Pt : Addr) : Sp := fun vs H Q _ => ∃ (a : Addr) (ns : List Int), vs = [.ref a] ∧ SqL K H a (ns.map V.int) ∧ GxR.TabG H Pt ∧ ∀ H', Q (.bl true) H'
section
variable {P : Program} {w : World} {K : PySem.W.Frag} {mg : Str → Option Value} {base : Heap}
theorem ok_law {f C CC CV fI c Pt f_common_table f_kept_pairs f_next_pair f_hunks_of f_is_patch f_patch_between f_put_on f_turned_back f_growth f_place_after f_line_after f_do_touch f_carried f_both f_commuted f_joined f_spans_between f_within f_lines_between f_rewritten f_all_joined f_count_changed f__law_draw f__law_lines f__law_table f__law_pairs f__law_hunks f__law_apply f__law_change f__law_touch f__law_told f__law_fits f__law_back f__law_places f__law_two f__law_spans : Addr} {fd d_common_table d_kept_pairs d_next_pair d_hunks_of d_is_patch d_patch_between d_put_on d_turned_back d_growth d_place_after d_line_after d_do_touch d_carried d_both d_commuted d_joined d_spans_between d_within d_lines_between d_rewritten d_all_joined d_count_changed d__law_draw d__law_lines d__law_table d__law_pairs d__law_hunks d__law_apply d__law_change d__law_touch d__law_told d__law_fits d__law_back d__law_places d__law_two d__law_spans : FuncData} (F : Fun K "law" "law" s_law f fd) (T0 : Txt0 mg) (z_sorted : mg "sorted" = none) (z_all : mg "all" = none) (z_any : mg "any" = none) (z_sum : mg "sum" = none) (z_isi : mg "isinstance" = none) (z_str : mg "str" = none) (z_bool : mg "bool" = none) (L : TL K mg C) {tM : Tok} (hc : mg "MOST_PLACES" = some (.int 40000 tM)) (T : PySem.CfX.CfTxt P K mg CC fI) (EC : ExcC K CC) (gV : mg "VersionkeptError" = some (.ref CV)) (kV : PySem.W.kitOne K (.ref CC) (.ref CV) = some true) (TB : GxR.TabB base mg c Pt)
    (D_common_table : Df K mg "common_table" s_common_table ["one", "two"] f_common_table d_common_table)
    (D_kept_pairs : Df K mg "kept_pairs" s_kept_pairs ["one", "two"] f_kept_pairs d_kept_pairs)
    (D_next_pair : Df K mg "next_pair" s_next_pair ["one", "two", "table", "place"] f_next_pair d_next_pair)
    (D_hunks_of : Df K mg "hunks_of" s_hunks_of ["one", "two"] f_hunks_of d_hunks_of)
    (D_is_patch : DfC K mg "is_patch" s_is_patch ["value"] f_is_patch c d_is_patch) (D_patch_between : Df K mg "patch_between" s_patch_between ["one", "two"] f_patch_between d_patch_between)
    (D_put_on : Df K mg "put_on" s_put_on ["lines", "patch"] f_put_on d_put_on)
    (D_turned_back : Df K mg "turned_back" s_turned_back ["patch"] f_turned_back d_turned_back)
    (D_growth : Df K mg "growth" s_growth ["patch"] f_growth d_growth)
    (D_place_after : Df K mg "place_after" s_place_after ["patch", "place"] f_place_after d_place_after)
    (D_line_after : Df K mg "line_after" s_line_after ["patch", "place"] f_line_after d_line_after)
    (D_do_touch : Df K mg "do_touch" s_do_touch ["one", "two"] f_do_touch d_do_touch)
    (D_carried : Df K mg "carried" s_carried ["patch", "over"] f_carried d_carried)
    (D_both : Df K mg "both" s_both ["one", "two"] f_both d_both)
    (D_commuted : Df K mg "commuted" s_commuted ["first", "second"] f_commuted d_commuted)
    (D_joined : Df K mg "joined" s_joined ["first", "second"] f_joined d_joined)
    (D_spans_between : Df K mg "spans_between" s_spans_between ["one", "two"] f_spans_between d_spans_between)
    (D_within : Df K mg "within" s_within ["patch", "low", "high"] f_within d_within)
    (D_lines_between : Df K mg "lines_between" s_lines_between ["hunks", "low", "high"] f_lines_between d_lines_between)
    (D_rewritten : Df K mg "rewritten" s_rewritten ["lines", "low", "hunks"] f_rewritten d_rewritten)
    (D_all_joined : Df K mg "all_joined" s_all_joined ["patches"] f_all_joined d_all_joined)
    (D_count_changed : Df K mg "count_changed" s_count_changed ["patch"] f_count_changed d_count_changed)
    (D__law_draw : Df K mg "_law_draw" s__law_draw ["state", "limit"] f__law_draw d__law_draw)
    (D__law_lines : Df K mg "_law_lines" s__law_lines ["state", "many"] f__law_lines d__law_lines)
    (D__law_table : Df K mg "_law_table" s__law_table ["one", "two"] f__law_table d__law_table)
    (D__law_pairs : Df K mg "_law_pairs" s__law_pairs ["one", "two"] f__law_pairs d__law_pairs)
    (D__law_hunks : Df K mg "_law_hunks" s__law_hunks ["one", "two"] f__law_hunks d__law_hunks)
    (D__law_apply : Df K mg "_law_apply" s__law_apply ["lines", "patch"] f__law_apply d__law_apply)
    (D__law_change : Df K mg "_law_change" s__law_change ["state", "lines"] f__law_change d__law_change)
    (D__law_touch : Df K mg "_law_touch" s__law_touch ["one", "two"] f__law_touch d__law_touch)
    (D__law_told : Df K mg "_law_told" s__law_told ["lines", "patch"] f__law_told d__law_told)
    (D__law_fits : Df K mg "_law_fits" s__law_fits ["lines", "patch"] f__law_fits d__law_fits)
    (D__law_back : Df K mg "_law_back" s__law_back ["patch"] f__law_back d__law_back)
    (D__law_places : Df K mg "_law_places" s__law_places ["patch", "many"] f__law_places d__law_places)
    (D__law_two : Df K mg "_law_two" s__law_two ["lines", "one", "two"] f__law_two d__law_two)
    (D__law_spans : Df K mg "_law_spans" s__law_spans ["hunks"] f__law_spans d__law_spans)
     : FnOk P w K mg base CX0 5 f fd ["script"] (spLaw K Pt) := by
  have G__law_draw : FnOk P w K mg base CX0 1 f__law_draw d__law_draw ["state", "limit"] (spDraw K) := ok_draw D__law_draw.F T0
  have G__law_lines : FnOk P w K mg base CX0 2 f__law_lines d__law_lines ["state", "many"] (spLines K) := ok_lines D__law_lines.F T0 D__law_draw
  have G__law_change : FnOk P w K mg base CX0 2 f__law_change d__law_change ["state", "lines"] (spChange K) := ok_change D__law_change.F T0 D__law_draw
  have G__law_apply : FnOk P w K mg base CX0 1 f__law_apply d__law_apply ["lines", "patch"] (spApply K) := ok_apply D__law_apply.F T0
  have G__law_hunks : FnOk P w K mg base CX0 3 f__law_hunks d__law_hunks ["one", "two"] (spLHunks K) := ok_lhunks D__law_hunks.F T0 D__law_table D__law_pairs
  have G_hunks_of : FnOk P w K mg base CX0 3 f_hunks_of d_hunks_of ["one", "two"] (spHunksOf K) := ok_hunks D_hunks_of.F T0 L hc D_common_table D_next_pair D_kept_pairs
  have G_patch_between : FnOk P w K mg base CX0 4 f_patch_between d_patch_between ["one", "two"] (spHunksOf K) := ok_between D_patch_between.F D_hunks_of G_hunks_of
  have G_is_patch : FnOk P w K mg base CX0 3 f_is_patch d_is_patch ["value"] (spIsP K Pt) := ok_isp D_is_patch.F TB T0 z_isi z_str z_bool z_all
  have G_put_on : FnOk P w K mg base (L2N.CX P w) 1 f_put_on d_put_on ["lines", "patch"] (spPutX K CC) := ok_putx D_put_on.F T0 T
  have G_turned_back : FnOk P w K mg base CX0 1 f_turned_back d_turned_back ["patch"] (spBack K) := ok_back D_turned_back.F T0
  have G__law_back : FnOk P w K mg base CX0 1 f__law_back d__law_back ["patch"] (spBack K) := ok_lback D__law_back.F T0 z_sum
  have G_growth : FnOk P w K mg base CX0 1 f_growth d_growth ["patch"] (spGrow K) := ok_growth D_growth.F T0 z_sum
  have G_count_changed : FnOk P w K mg base CX0 1 f_count_changed d_count_changed ["patch"] (spCount K) := ok_count D_count_changed.F T0 z_sum
  have G_joined : FnOk P w K mg base CX0 2 f_joined d_joined ["first", "second"] (spJoined K) := ok_joined D_joined.F T0 z_sorted D_turned_back D_spans_between D_within D_lines_between D_rewritten
  have G_all_joined : FnOk P w K mg base CX0 3 f_all_joined d_all_joined ["patches"] (spAllJ K) := ok_allJ D_all_joined.F T0 D_joined G_joined
  have G__law_places : FnOk P w K mg base CX0 2 f__law_places d__law_places ["patch", "many"] (spPlaces K) := ok_places D__law_places.F T0 z_sum z_any D_place_after D_line_after
  have G_commuted : FnOk P w K mg base CX0 3 f_commuted d_commuted ["first", "second"] (spCommuted K) := ok_commuted D_commuted.F T0 D_do_touch D_place_after D_turned_back D_carried
  have G__law_touch : FnOk P w K mg base CX0 1 f__law_touch d__law_touch ["one", "two"] (spTouch2 K) := ok_ltouch D__law_touch.F T0
  have G__law_two : FnOk P w K mg base CX0 4 f__law_two d__law_two ["lines", "one", "two"] (spTwo K Pt) := ok_two D__law_two.F T0 T TB z_isi z_str z_bool z_all z_sorted D__law_touch D_do_touch D_carried D_place_after D_both D__law_apply D_put_on D_is_patch D_commuted D_turned_back
  have G__law_told : FnOk P w K mg base CX0 2 f__law_told d__law_told ["lines", "patch"] (spFits K) := ok_told D__law_told.F T0 T EC gV kV z_isi D_put_on
  have G__law_fits : FnOk P w K mg base CX0 2 f__law_fits d__law_fits ["lines", "patch"] (spFits K) := ok_fits D__law_fits.F T0 D__law_apply
  have G_spans_between : FnOk P w K mg base CX0 1 f_spans_between d_spans_between ["one", "two"] (spSpans K) := ok_spans D_spans_between.F T0 z_sorted
  have G__law_spans : FnOk P w K mg base CX0 1 f__law_spans d__law_spans ["hunks"] (spLSpans K) := ok_lspans D__law_spans.F T0 z_sorted
  have G_rewritten : FnOk P w K mg base CX0 1 f_rewritten d_rewritten ["lines", "low", "hunks"] (spRew K) := ok_rew D_rewritten.F T0
  refine F.ok sc_law (fun vs H Q E h => ?_) (fun cdv A outer s H vs Q E hr h => ?_)
  · obtain ⟨a, ns, rfl, _⟩ := h
    rfl
  · obtain ⟨a, ns, rfl, hA, tab, k⟩ := h
    refine ⟨_, (pss_cons (ps_set (i := 1) sc_law.nd rfl (Or.inl rfl) (pe_lst (pa_cons pe_int (pa_cons pe_int (pa_cons (pe_callTy call_list_of (by rfl) T0.z_list (by decide +kernel) (pa_cons (pv 0) pa_nil)) (pa_cons pe_int pa_nil))))))
      (pss_cons (ps_set (i := 2) sc_law.nd rfl (Or.inl rfl) (pe_call G__law_lines (hr.mono (by decide)) rfl D__law_lines.m D__law_lines.F.kp D__law_lines.b .nil pass0 (pa_cons (pv 1) (pa_cons pe_int pa_nil))))
      (pss_cons (ps_set (i := 3) sc_law.nd rfl (Or.inl rfl) (pe_call G__law_change (hr.mono (by decide)) rfl D__law_change.m D__law_change.F.kp D__law_change.b .nil pass0 (pa_cons (pv 1) (pa_cons (pv 2) pa_nil))))
      (pss_cons (ps_set (i := 4) sc_law.nd rfl (Or.inl rfl) (pe_call G__law_apply (hr.mono (by decide)) rfl D__law_apply.m D__law_apply.F.kp D__law_apply.b .nil pass0 (pa_cons (pv 2) (pa_cons (pv 3) pa_nil))))
      (pss_cons (ps_set (i := 5) sc_law.nd rfl (Or.inl rfl) (pe_call G__law_change (hr.mono (by decide)) rfl D__law_change.m D__law_change.F.kp D__law_change.b .nil pass0 (pa_cons (pv 1) (pa_cons (pv 4) pa_nil))))
      (pss_cons (ps_set (i := 6) sc_law.nd rfl (Or.inl rfl) (pe_call G__law_apply (hr.mono (by decide)) rfl D__law_apply.m D__law_apply.F.kp D__law_apply.b .nil pass0 (pa_cons (pv 4) (pa_cons (pv 5) pa_nil))))
      (pss_cons (ps_if (PW.pt (pw_or (pt_cmpR op_isnot_bl (pe_call G_is_patch (hr.mono (by decide)) rfl D_is_patch.m D_is_patch.F.kp D_is_patch.b .nil pass0 (pa_cons (pv 3) pa_nil)) pe_bl (nomark _)) (pw_or (pt_cmpR (op_neD hr.units) (pe_call G_put_on (hr.mono (by decide)) rfl D_put_on.m D_put_on.F.kp D_put_on.b .nil pass_no (pa_cons (pv 2) (pa_cons (pv 3) pa_nil))) (pv 4) (nomark _)) (pw_or (pt_cmpR (op_neD hr.units) (pe_call G_turned_back (hr.mono (by decide)) rfl D_turned_back.m D_turned_back.F.kp D_turned_back.b .nil pass0 (pa_cons (pv 3) pa_nil)) (pe_call G__law_back (hr.mono (by decide)) rfl D__law_back.m D__law_back.F.kp D__law_back.b .nil pass0 (pa_cons (pv 3) pa_nil)) (nomark _)) (pw_or1 (pt_cmpR (op_neD hr.units) (pe_call G_put_on (hr.mono (by decide)) rfl D_put_on.m D_put_on.F.kp D_put_on.b .nil pass_no (pa_cons (pv 4) (pa_cons (pe_call G_turned_back (hr.mono (by decide)) rfl D_turned_back.m D_turned_back.F.kp D_turned_back.b .nil pass0 (pa_cons (pv 3) pa_nil)) pa_nil))) (pv 2) (nomark _)))))))
        (pss_one (ps_ret pe_bl))
        pss_nil)
      (pss_cons (ps_if (PW.pt (pw_or (pt_cmpR op_ne (pe_call G_growth (hr.mono (by decide)) rfl D_growth.m D_growth.F.kp D_growth.b .nil pass0 (pa_cons (pv 3) pa_nil)) (pe_op op_sub (pe_callB call_len_seq (by rfl) T0.z_len PySem.boot_len (pa_cons (pv 4) pa_nil)) (pe_callB call_len_seq (by rfl) T0.z_len PySem.boot_len (pa_cons (pv 2) pa_nil))) (nomark _)) (pw_or1 (pt_cmpR (op_neD hr.units) (pe_call G_count_changed (hr.mono (by decide)) rfl D_count_changed.m D_count_changed.F.kp D_count_changed.b .nil pass0 (pa_cons (pv 3) pa_nil)) (pe_tup (pa_cons (pe_callB (cr_sum rfl) (by rfl) z_sum (by decide +kernel) (pa_cons (pe_lc (own := [("hunk", 14)]) (g := gName 14) (tt := tYes) rfl sc_law.nd (pi_tup (pv 3)) (blkOk_by (own := [("hunk", 14)]) (N := ["script", "state", "lines", "one", "middle", "two", "last", "made", "three", "whole", "swapped", "other", "wrong", "odd", "hunk"]) (sc := defScope s_law) (by decide +kernel)) (fun _ _ _ _ _ => (pg_name (i := 14) sc_law.nd rfl (by first | exact Or.inl rfl | exact Or.inr rfl))) (fun _ _ _ _ _ => pts_nil) (fun _ _ _ _ _ => (pe_callB (call_lenQ (K := K) rfl) (by rfl) T0.z_len PySem.boot_len (pa_cons (pe_ix (ix_tupQ (K := K) rfl) (pv 14) pe_int (fun _ _ => rfl)) pa_nil)))) pa_nil)) (pa_cons (pe_callB (cr_sum rfl) (by rfl) z_sum (by decide +kernel) (pa_cons (pe_lc (own := [("hunk", 14)]) (g := gName 14) (tt := tYes) rfl sc_law.nd (pi_tup (pv 3)) (blkOk_by (own := [("hunk", 14)]) (N := ["script", "state", "lines", "one", "middle", "two", "last", "made", "three", "whole", "swapped", "other", "wrong", "odd", "hunk"]) (sc := defScope s_law) (by decide +kernel)) (fun _ _ _ _ _ => (pg_name (i := 14) sc_law.nd rfl (by first | exact Or.inl rfl | exact Or.inr rfl))) (fun _ _ _ _ _ => pts_nil) (fun _ _ _ _ _ => (pe_callB (call_lenQ (K := K) rfl) (by rfl) T0.z_len PySem.boot_len (pa_cons (pe_ix (ix_tupQ (K := K) rfl) (pv 14) pe_int (fun _ _ => rfl)) pa_nil)))) pa_nil)) pa_nil))) (nomark _)))))
        (pss_one (ps_ret pe_bl))
        pss_nil)
      (pss_cons (ps_set (i := 7) sc_law.nd rfl (Or.inl rfl) (pe_call G_joined (hr.mono (by decide)) rfl D_joined.m D_joined.F.kp D_joined.b .nil pass0 (pa_cons (pv 3) (pa_cons (pv 5) pa_nil))))
      (pss_cons (ps_if (PW.pt (pw_or (pt_cmpR op_isnot_bl (pe_call G_is_patch (hr.mono (by decide)) rfl D_is_patch.m D_is_patch.F.kp D_is_patch.b .nil pass0 (pa_cons (pv 7) pa_nil)) pe_bl (nomark _)) (pw_or (pt_cmpR (op_neD hr.units) (pe_call G_put_on (hr.mono (by decide)) rfl D_put_on.m D_put_on.F.kp D_put_on.b .nil pass_no (pa_cons (pv 2) (pa_cons (pv 7) pa_nil))) (pv 6) (nomark _)) (pw_or1 (pt_cmpR (op_neD hr.units) (pe_call G_turned_back (hr.mono (by decide)) rfl D_turned_back.m D_turned_back.F.kp D_turned_back.b .nil pass0 (pa_cons (pv 7) pa_nil)) (pe_call G_joined (hr.mono (by decide)) rfl D_joined.m D_joined.F.kp D_joined.b .nil pass0 (pa_cons (pe_call G_turned_back (hr.mono (by decide)) rfl D_turned_back.m D_turned_back.F.kp D_turned_back.b .nil pass0 (pa_cons (pv 5) pa_nil)) (pa_cons (pe_call G_turned_back (hr.mono (by decide)) rfl D_turned_back.m D_turned_back.F.kp D_turned_back.b .nil pass0 (pa_cons (pv 3) pa_nil)) pa_nil))) (nomark _))))))
        (pss_one (ps_ret pe_bl))
        pss_nil)
      (pss_cons (ps_set (i := 8) sc_law.nd rfl (Or.inl rfl) (pe_call G__law_change (hr.mono (by decide)) rfl D__law_change.m D__law_change.F.kp D__law_change.b .nil pass0 (pa_cons (pv 1) (pa_cons (pv 6) pa_nil))))
      (pss_cons (ps_set (i := 9) sc_law.nd rfl (Or.inl rfl) (pe_call G_all_joined (hr.mono (by decide)) rfl D_all_joined.m D_all_joined.F.kp D_all_joined.b .nil pass0 (pa_cons (pe_lst (pa_cons (pv 3) (pa_cons (pv 5) (pa_cons (pv 8) pa_nil)))) pa_nil)))
      (pss_cons (ps_if (PW.pt (pw_or (pt_cmpR (op_neD hr.units) (pv 9) (pe_call G_joined (hr.mono (by decide)) rfl D_joined.m D_joined.F.kp D_joined.b .nil pass0 (pa_cons (pv 7) (pa_cons (pv 8) pa_nil))) (nomark _)) (pw_or (pt_cmpR (op_neD hr.units) (pe_call G_put_on (hr.mono (by decide)) rfl D_put_on.m D_put_on.F.kp D_put_on.b .nil pass_no (pa_cons (pv 2) (pa_cons (pv 9) pa_nil))) (pe_call G__law_apply (hr.mono (by decide)) rfl D__law_apply.m D__law_apply.F.kp D__law_apply.b .nil pass0 (pa_cons (pv 6) (pa_cons (pv 8) pa_nil))) (nomark _)) (pw_or1 (pt_cmpR (op_neD hr.units) (pe_call G_put_on (hr.mono (by decide)) rfl D_put_on.m D_put_on.F.kp D_put_on.b .nil pass_no (pa_cons (pv 2) (pa_cons (pe_call G_joined (hr.mono (by decide)) rfl D_joined.m D_joined.F.kp D_joined.b .nil pass0 (pa_cons (pv 3) (pa_cons (pe_call G_joined (hr.mono (by decide)) rfl D_joined.m D_joined.F.kp D_joined.b .nil pass0 (pa_cons (pv 5) (pa_cons (pv 8) pa_nil))) pa_nil))) pa_nil))) (pe_call G__law_apply (hr.mono (by decide)) rfl D__law_apply.m D__law_apply.F.kp D__law_apply.b .nil pass0 (pa_cons (pv 6) (pa_cons (pv 8) pa_nil))) (nomark _))))))
        (pss_one (ps_ret pe_bl))
        pss_nil)
      (pss_cons (ps_if (PW.pt (pw_or (pt_cmpR (op_neD hr.units) (pe_call G_joined (hr.mono (by decide)) rfl D_joined.m D_joined.F.kp D_joined.b .nil pass0 (pa_cons (pv 3) (pa_cons (pe_call G_turned_back (hr.mono (by decide)) rfl D_turned_back.m D_turned_back.F.kp D_turned_back.b .nil pass0 (pa_cons (pv 3) pa_nil)) pa_nil))) (pe_tup pa_nil) (nomark _)) (pw_or (pt_cmpR (op_neD hr.units) (pe_call G_joined (hr.mono (by decide)) rfl D_joined.m D_joined.F.kp D_joined.b .nil pass0 (pa_cons (pe_tup pa_nil) (pa_cons (pv 3) pa_nil))) (pv 3) (nomark _)) (pw_or (pt_cmpR (op_neD hr.units) (pe_call G_joined (hr.mono (by decide)) rfl D_joined.m D_joined.F.kp D_joined.b .nil pass0 (pa_cons (pv 3) (pa_cons (pe_tup pa_nil) pa_nil))) (pv 3) (nomark _)) (pw_or1 (pt_not (pt_val (pe_call G__law_places (hr.mono (by decide)) rfl D__law_places.m D__law_places.F.kp D__law_places.b .nil pass0 (pa_cons (pv 3) (pa_cons (pe_callB call_len_seq (by rfl) T0.z_len PySem.boot_len (pa_cons (pv 2) pa_nil)) pa_nil))))))))))
        (pss_one (ps_ret pe_bl))
        pss_nil)
      (pss_cons (ps_set (i := 10) sc_law.nd rfl (Or.inl rfl) (pe_call G_commuted (hr.mono (by decide)) rfl D_commuted.m D_commuted.F.kp D_commuted.b .nil pass0 (pa_cons (pv 3) (pa_cons (pv 5) pa_nil))))
      (pss_cons (ps_if (pt_cmpR op_ne (pe_cmpR op_isN (pv 10) pe_non (nomark _)) (pe_cmpR op_notN (pe_call G__law_touch (hr.mono (by decide)) rfl D__law_touch.m D__law_touch.F.kp D__law_touch.b .nil pass0 (pa_cons (pe_call G_turned_back (hr.mono (by decide)) rfl D_turned_back.m D_turned_back.F.kp D_turned_back.b .nil pass0 (pa_cons (pv 3) pa_nil)) (pa_cons (pv 5) pa_nil))) pe_non (nomark _)) (nomark _))
        (pss_one (ps_ret pe_bl))
        pss_nil)
      (pss_cons (ps_if (PW.pt (pw_and (pt_cmpR op_notN (pv 10) pe_non (nomark _)) (pw_and1 (pt_cmpR (op_neD hr.units) (pe_call G_put_on (hr.mono (by decide)) rfl D_put_on.m D_put_on.F.kp D_put_on.b .nil pass_no (pa_cons (pe_call G_put_on (hr.mono (by decide)) rfl D_put_on.m D_put_on.F.kp D_put_on.b .nil pass_no (pa_cons (pv 2) (pa_cons (pe_ix ix_tup (pv 10) pe_int (fun _ _ => rfl)) pa_nil))) (pa_cons (pe_ix ix_tup (pv 10) pe_int (fun _ _ => rfl)) pa_nil))) (pv 6) (nomark _)))))
        (pss_one (ps_ret pe_bl))
        pss_nil)
      (pss_cons (ps_set (i := 11) sc_law.nd rfl (Or.inl rfl) (pe_call G__law_change (hr.mono (by decide)) rfl D__law_change.m D__law_change.F.kp D__law_change.b .nil pass0 (pa_cons (pv 1) (pa_cons (pv 2) pa_nil))))
      (pss_cons (ps_if (PW.pt (pw_or (pt_not (pt_val (pe_call G__law_two (hr.mono (by decide)) rfl D__law_two.m D__law_two.F.kp D__law_two.b .nil pass0 (pa_cons (pv 2) (pa_cons (pv 3) (pa_cons (pv 11) pa_nil)))))) (pw_or1 (pt_cmpR (op_neD hr.units) (pe_call G_patch_between (hr.mono (by decide)) rfl D_patch_between.m D_patch_between.F.kp D_patch_between.b .nil pass0 (pa_cons (pv 2) (pa_cons (pv 6) pa_nil))) (pe_call G__law_hunks (hr.mono (by decide)) rfl D__law_hunks.m D__law_hunks.F.kp D__law_hunks.b .nil pass0 (pa_cons (pv 2) (pa_cons (pv 6) pa_nil))) (nomark _)))))
        (pss_one (ps_ret pe_bl))
        pss_nil)
      (pss_cons (ps_set (i := 12) sc_law.nd rfl (Or.inl rfl) (pe_op op_catA (pe_slice sl_tupA (pv 2) po_none (po_some (pe_call G__law_draw (hr.mono (by decide)) rfl D__law_draw.m D__law_draw.F.kp D__law_draw.b .nil pass0 (pa_cons (pv 1) (pa_cons (pe_op op_add (pe_callB call_len_seq (by rfl) T0.z_len PySem.boot_len (pa_cons (pv 2) pa_nil)) pe_int) pa_nil))))) (pe_tup (pa_cons pe_str pa_nil))))
      (pss_cons (ps_if (PW.pt (pw_or (pt_cmpR (op_neD hr.units) (pe_call G__law_told (hr.mono (by decide)) rfl D__law_told.m D__law_told.F.kp D__law_told.b .nil pass0 (pa_cons (pv 12) (pa_cons (pv 7) pa_nil))) (pe_call G__law_fits (hr.mono (by decide)) rfl D__law_fits.m D__law_fits.F.kp D__law_fits.b .nil pass0 (pa_cons (pv 12) (pa_cons (pv 7) pa_nil))) (nomark _)) (pw_or1 (pt_cmpR (op_neD hr.units) (pe_call G_spans_between (hr.mono (by decide)) rfl D_spans_between.m D_spans_between.F.kp D_spans_between.b .nil pass0 (pa_cons (pv 3) (pa_cons (pv 11) pa_nil))) (pe_call G__law_spans (hr.mono (by decide)) rfl D__law_spans.m D__law_spans.F.kp D__law_spans.b .nil pass0 (pa_cons (pe_op op_catA (pv 3) (pv 11)) pa_nil)) (nomark _)))))
        (pss_one (ps_ret pe_bl))
        pss_nil)
      (pss_cons (ps_if (pt_cmpR (op_neD hr.units) (pe_call G_rewritten (hr.mono (by decide)) rfl D_rewritten.m D_rewritten.F.kp D_rewritten.b .nil pass0 (pa_cons (pv 2) (pa_cons pe_int (pa_cons (pe_callTy call_list_of (by rfl) T0.z_list (by decide +kernel) (pa_cons (pv 3) pa_nil)) pa_nil)))) (pv 4) (nomark _))
        (pss_one (ps_ret pe_bl))
        pss_nil)
      (pss_cons (ps_set (i := 13) sc_law.nd rfl (Or.inl rfl) (pe_lst (pa_cons (pe_callTy call_list_of (by rfl) T0.z_list (by decide +kernel) (pa_cons (pv 3) pa_nil)) (pa_cons (pe_tup (pa_cons (pe_tup (pa_cons pe_int (pa_cons (pe_tup pa_nil) (pa_cons (pe_tup pa_nil) pa_nil)))) pa_nil)) (pa_cons (pe_tup (pa_cons (pe_tup (pa_cons pe_int (pa_cons (pe_tup (pa_cons pe_str pa_nil)) (pa_cons (pe_tup (pa_cons pe_str pa_nil)) pa_nil)))) pa_nil)) (pa_cons (pe_tup (pa_cons (pe_tup (pa_cons pe_int (pa_cons (pe_tup (pa_cons pe_str pa_nil)) (pa_cons (pe_tup pa_nil) pa_nil)))) (pa_cons (pe_tup (pa_cons pe_int (pa_cons (pe_tup (pa_cons pe_str pa_nil)) (pa_cons (pe_tup pa_nil) pa_nil)))) pa_nil))) (pa_cons (pe_tup (pa_cons (pe_tup (pa_cons pe_int (pa_cons pe_str (pa_cons (pe_tup (pa_cons pe_str pa_nil)) pa_nil)))) pa_nil)) (pa_cons pe_non (pa_cons (pe_tup (pa_cons (pe_tup (pa_cons pe_bl (pa_cons (pe_tup pa_nil) (pa_cons (pe_tup (pa_cons pe_str pa_nil)) pa_nil)))) pa_nil)) (pa_cons (pe_tup (pa_cons (pe_tup (pa_cons pe_int (pa_cons (pe_tup (pa_cons pe_int pa_nil)) (pa_cons (pe_tup pa_nil) pa_nil)))) pa_nil)) pa_nil))))))))))
      (pss_one (ps_ret (pe_cmpR op_is_bl (pe_call G_is_patch (hr.mono (by decide)) rfl D_is_patch.m D_is_patch.F.kp D_is_patch.b .nil pass0 (pa_cons (pe_ix ix_list (pv 13) (pe_call G__law_draw (hr.mono (by decide)) rfl D__law_draw.m D__law_draw.F.kp D__law_draw.b .nil pass0 (pa_cons (pv 1) (pa_cons pe_int pa_nil))) (fun _ _ => rfl)) pa_nil)) pe_bl (nomark _))))))))))))))))))))))))))), ?_⟩
    refine ⟨_, rfl, a, _, rfl, .inl hA, fun sc hsc => ⟨by show 4 ≤ sizeLine; decide, fun st hst => ?_⟩⟩
    have ssc := same_new (o := .lst (ns.map V.int)) hsc
    have sst := same_new (o := .lst [.int 0, .int 0, .ref sc, .int 1]) hst
    obtain ⟨H1, e1⟩ : ∃ H1, H1 = upd (upd H sc (.lst (ns.map V.int))) st (.lst [.int 0, .int 0, .ref sc, .int 1]) := ⟨_, rfl⟩
    rw [← e1]
    rw [← e1] at sst
    have nsc : sc ≠ st := by
      intro e
      rw [e, upd_same] at hst
      cases hst
    have hS1 : StAt K H1 st sc ns := ⟨⟨0, 0, 1, by rw [e1, upd_same], Int.le_refl _⟩, sst _ _ upd_same, nsc⟩
    have tab1 : GxR.TabG H1 Pt := tab_same tab (ssc.trans sst)
    refine ⟨_, rfl, st, sc, ns, 10, rfl, hS1, by decide, by decide, fun H2 t0 L sv2 hS2 ht0 hL hl0 => ?_⟩
    have tab2 := tab_sv tab1 hS1 sv2
    have hB2 : SqT K H2 t0 (L.map V.str) := .inl (.inl ht0)
    have l10 : L.length ≤ 10 := by omega
    refine ⟨_, rfl, _, rfl, st, sc, t0, ns, L, rfl, hS2, hB2, hL, by omega, fun H3 v3 f sv3 hS3 d3 pf lf cf => ?_⟩
    obtain ⟨p0, wf, rfl, _, _⟩ := of_tupD d3
    have tab3 := tab_sv tab2 hS2 sv3
    have hB3 := hS2.tk sv3 _ _ hB2
    obtain ⟨lnM, leM⟩ := apply_small hL (Nat.zero_le _) pf.sep cf
    obtain ⟨M, eM⟩ : ∃ M, M = applyF L 0 f := ⟨_, rfl⟩
    rw [← eM] at lnM leM
    refine ⟨_, rfl, _, rfl, t0, p0, L, f, rfl, hB3, d3, by rw [← eM]; omega, fun H4 t1 s4 h4 => ?_⟩
    rw [← eM] at h4
    have hS4 := hS3.sv s4
    have tab4 := tab_same tab3 s4
    have hB4 := s4.seqT hB3
    have d34 := hk_keep (TK.same s4) d3
    refine ⟨_, rfl, _, rfl, st, sc, t1, ns, M, rfl, hS4, h4, lnM, by omega, fun H5 v5 s sv5 hS5 d5 ps ls cs => ?_⟩
    obtain ⟨p1, ws, rfl, _, _⟩ := of_tupD d5
    have tab5 := tab_sv tab4 hS4 sv5
    have k45 := hS4.tk sv5
    have hB5 := k45 _ _ hB4
    have d35 := hk_keep k45 d34
    have h45 := k45 _ _ h4
    obtain ⟨lnN, leN⟩ := apply_small lnM (Nat.zero_le _) ps.sep cs
    obtain ⟨N, eN⟩ : ∃ N, N = applyF M 0 s := ⟨_, rfl⟩
    rw [← eN] at lnN leN
    refine ⟨_, rfl, _, rfl, t1, p1, M, s, rfl, h45, d5, by rw [← eN]; omega, fun H6 t2 s6 h6 => ?_⟩
    rw [← eN] at h6
    have L6 : LH K Pt st sc ns t0 p0 t1 p1 t2 L f M s N H6 := ⟨hS5.sv s6, tab_same tab5 s6, s6.seqT hB5, hk_keep (TK.same s6) d35, s6.seqT h45, hk_keep (TK.same s6) d5, h6⟩
    have rL : RowL L := ⟨hL, by omega⟩
    have rM : RowL M := ⟨lnM, by omega⟩
    have rN : RowL N := ⟨lnN, by omega⟩
    have okL : OkL L := lns_ok hL
    have okM : OkL M := lns_ok lnM
    have okN : OkL N := lns_ok lnN
    have lf1 : f.length ≤ 1000 := by omega
    have ls1 : s.length ≤ 1000 := by omega
    have okgf : ∀ h ∈ f, OkL h.gone := fun h hm => lns_ok (fit_ln hL pf.fit h hm)
    obtain ⟨bk1, bk2, bk3⟩ := pf.back
    rw [← eM] at bk1 bk2
    obtain ⟨fB, efB⟩ : ∃ fB, fB = backF 0 0 f := ⟨_, rfl⟩
    rw [← efB] at bk1 bk2 bk3
    have lfB : fB.length = f.length := by rw [efB, back_len]
    have okfB : OkD 3 (hunksD fB) := ok_hunks' bk1 rM (by rw [bk2]; exact rL)
    have okf : OkD 3 (hunksD f) := ok_hunks' pf rL (by rw [← eM]; exact rM)
    have okDL : OkD 1 (linesD L) := okD_lines okL
    have okDM : OkD 1 (linesD M) := okD_lines okM
    have okDN : OkD 1 (linesD N) := okD_lines okN
    -- is_patch(one), put_on(lines, one), turned_back(one)
    obtain ⟨a6, w6, ea6, q6, dd6⟩ := of_tupD L6.f
    cases ea6
    refine ⟨_, rfl, _, rfl, .inr ⟨p0, w6, [], f, true, rfl, by rw [List.append_nil]; exact q6, dd6, good_of pf rL (by rw [← eM]; exact rM), .inl ⟨rfl, rfl⟩, L6.tab, fun H7 sv7 tab7 => ?_⟩⟩
    have L7 := L6.isp sv7 tab7
    refine ⟨_, _, rfl, rfl, _, rfl, ?_⟩
    refine iteF ?_
    refine ⟨_, rfl, _, rfl, t0, p0, L, f, rfl, L7.L, L7.f, okL, okgf, by omega, by omega, fun _ => ⟨by rw [← eM]; omega, fun H8 p8 s8 h8 => ⟨_, rfl, ?_⟩⟩, fun n => absurd pf.fits n⟩
    rw [← eM] at h8
    have L8 := L7.same s8
    refine ne_same (dp_lines h8) (dp_lines L8.M) okDM (by decide) ?_
    refine ⟨_, rfl, ?_⟩
    refine iteF ?_
    refine ⟨_, rfl, p0, f, _, rfl, L8.f, lf1, pf.sep, fun H9 v9 s9 d9 => ?_⟩
    rw [← efB] at d9
    have L9 := L8.same s9
    refine ⟨_, rfl, p0, f, _, rfl, L9.f, lf1, pf.sep, fun H10 v10 s10 d10 => ?_⟩
    rw [← efB] at d10
    have L10 := L9.same s10
    refine ne_same (hk_keep (TK.same s10) d9) d10 okfB (by decide) ?_
    refine ⟨_, rfl, ?_⟩
    refine iteF ?_
    refine ⟨_, rfl, _, rfl, p0, f, _, rfl, L10.f, lf1, pf.sep, fun H11 v11 s11 d11 => ?_⟩
    rw [← efB] at d11
    obtain ⟨p11, w11, rfl, _, _⟩ := of_tupD d11
    have L11 := L10.same s11
    have okgB : ∀ h ∈ fB, OkL h.gone := fun h hm => lns_ok (fit_ln lnM bk1.fit h hm)
    refine ⟨t1, p11, M, fB, rfl, L11.M, d11, okM, okgB, by omega, by omega, fun _ => ⟨by rw [bk2]; omega, fun H12 p12 s12 h12 => ⟨_, rfl, ?_⟩⟩, fun n => absurd bk1.fits n⟩
    rw [bk2] at h12
    have L12 := L11.same s12
    refine ne_same (dp_lines h12) (dp_lines L12.L) okDL (by decide) ?_
    refine ⟨_, rfl, ?_⟩
    refine iteF ?_
    -- growth, count_changed
    have eg : growF f = (M.length : Int) - (L.length : Int) := by rw [eM]; exact grow_len pf
    refine ⟨_, rfl, p0, f, rfl, L12.f, lf1, fun H13 s13 => ?_⟩
    have L13 := L12.same s13
    refine ⟨_, rfl, t1, _, rfl, .inr L13.M, _, rfl, t0, _, rfl, .inr L13.L, _, _, rfl, rfl, rfl, ?_⟩
    refine ⟨_, rfl, ?_⟩
    refine ite2 (fun e => absurd e (by rw [List.length_map, List.length_map]; show ¬ (!decide (V.int (growF f) = V.int ((M.length : Int) - (L.length : Int)))) = true; rw [eg]; simp)) (fun _ => ?_)
    refine ⟨_, rfl, p0, f, rfl, L13.f, lf1, fun H14 p14 s14 h14 => ?_⟩
    have L14 := L13.same s14
    obtain ⟨a14, w14, ea14, q14, dd14⟩ := of_tupD L14.f
    cases ea14
    have lw14 : w14.length = f.length := by rw [dpAll_len dd14, List.length_map]
    refine ⟨_, rfl, p0, rfl, ⟨_, q14⟩, fun D hD => ?_⟩
    refine lc_tup (xs := w14) (fun t H' => H' D = some (.lst (((f.take t).map fun h => (h.gone.length : Int)).map V.int)) ∧ Same H14 H') ⟨upd_same, same_new hD⟩ (fun t H' _ h => h.2.seqT q14) ?_ ?_
    · rintro t x H3 hx ⟨hys, s3⟩
      have ht : t < f.length := by rw [← lw14]; exact (List.getElem?_eq_some_iff.mp hx).1
      have hrt : f[t]? = some f[t] := List.getElem?_eq_getElem ht
      obtain ⟨v, hv1, hv2⟩ := dpAll_at (hunks_keep (TK.same s3) dd14) (k := t) (d := hunkD f[t]) (by rw [List.getElem?_map, hrt]; rfl)
      obtain rfl : v = x := Option.some.inj (hv1.symm.trans hx)
      obtain ⟨z, g, m, rfl, hz, hg, hm⟩ := of_hunk hv2
      have etk : f.take (t + 1) = f.take t ++ [f[t]] := by rw [List.take_succ, hrt]; rfl
      refine ⟨rfl, _, rfl, z, _, _, _, rfl, rfl, hz, rfl, g, _, rfl, .inr hg, _, hys, ?_, ?_, same_mut s3 hD⟩
      · rw [List.length_map, List.length_map, List.length_take]
        exact Nat.lt_of_le_of_lt (show min t f.length ≤ 1000 by omega) (by decide)
      · rw [upd_same, etk, List.map_append, List.map_append, List.length_map]
        rfl
    rintro H15 ⟨hys, s15⟩
    rw [lw14, List.take_length] at hys
    have L15 := L14.same s15
    refine ⟨D, _, rfl, SqL.of hys, ?_⟩
    refine ⟨_, rfl, p0, rfl, ⟨_, s15.seqT q14⟩, fun D2 hD2 => ?_⟩
    refine lc_tup (xs := w14) (fun t H' => H' D2 = some (.lst (((f.take t).map fun h => (h.come.length : Int)).map V.int)) ∧ Same H15 H') ⟨upd_same, same_new hD2⟩ (fun t H' _ h => h.2.seqT (s15.seqT q14)) ?_ ?_
    · rintro t x H3 hx ⟨hys, s3⟩
      have ht : t < f.length := by rw [← lw14]; exact (List.getElem?_eq_some_iff.mp hx).1
      have hrt : f[t]? = some f[t] := List.getElem?_eq_getElem ht
      obtain ⟨v, hv1, hv2⟩ := dpAll_at (hunks_keep (TK.same (s15.trans s3)) dd14) (k := t) (d := hunkD f[t]) (by rw [List.getElem?_map, hrt]; rfl)
      obtain rfl : v = x := Option.some.inj (hv1.symm.trans hx)
      obtain ⟨z, g, m, rfl, hz, hg, hm⟩ := of_hunk hv2
      have etk : f.take (t + 1) = f.take t ++ [f[t]] := by rw [List.take_succ, hrt]; rfl
      refine ⟨rfl, _, rfl, z, _, _, _, rfl, rfl, hz, rfl, m, _, rfl, .inr hm, _, hys, ?_, ?_, same_mut s3 hD2⟩
      · rw [List.length_map, List.length_map, List.length_take]
        exact Nat.lt_of_le_of_lt (show min t f.length ≤ 1000 by omega) (by decide)
      · rw [upd_same, etk, List.map_append, List.map_append, List.length_map]
        rfl
    rintro H16 ⟨hys2, s16⟩
    rw [lw14, List.take_length] at hys2
    refine ⟨D2, _, rfl, SqL.of hys2, by show 2 ≤ sizeLine; decide, fun p17 hp17 => ?_⟩
    have s17 := same_new (o := .tup [.int ((f.map fun h => (h.gone.length : Int)).sum), .int ((f.map fun h => (h.come.length : Int)).sum)]) hp17
    have s14' := s15.trans (s16.trans s17)
    have L17 := L14.same s14'
    refine ne_same (d := .tuple [.int ((f.map fun h => (h.gone.length : Int)).sum), .int ((f.map fun h => (h.come.length : Int)).sum)]) (.tup (s14'.seqT h14) (.cons (.int _) (.cons (.int _) .nil))) (.tup (.inl (.inl upd_same)) (.cons (.int _) (.cons (.int _) .nil))) (okD_two (okD_int _) (okD_int _)) (by decide) ?_
    refine ⟨_, rfl, ?_⟩
    refine iteF ?_
    -- made
    subst efB
    subst eN
    subst eM
    obtain ⟨J, eJ⟩ : ∃ J, J = jF L f s := ⟨_, rfl⟩
    obtain ⟨pJ, aJ⟩ := jF_ok pf ps
    rw [← eJ] at pJ aJ
    have lJ : J.length ≤ 11 := by
      have q := sep_len (Nat.zero_le _) pJ.sep
      omega
    have okgJ : ∀ h ∈ J, OkL h.gone := fun h hm => lns_ok (fit_ln hL pJ.fit h hm)
    obtain ⟨j1, j2, j3, j4, j5, j6, j7, j8⟩ := joined_args pf ps rL.row rM.row rN.row
    refine ⟨_, rfl, _, rfl, p0, p1, L, f, s, rfl, L17.f, L17.s, pf, ps, j1, j2, j3, j4, j5, j6, j7, j8, fun H18 v18 s18 d18 => ?_⟩
    have d18 : Dp K H18 v18 (hunksD J) := by rw [eJ]; exact d18
    have L18 := L17.same s18
    obtain ⟨p7, w7, rfl, q7, dd7⟩ := of_tupD d18
    refine ⟨_, rfl, _, rfl, .inr ⟨p7, w7, [], J, true, rfl, by rw [List.append_nil]; exact q7, dd7, good_of pJ rL (by rw [aJ]; exact rN), .inl ⟨rfl, rfl⟩, L18.tab, fun H19 sv19 tab19 => ?_⟩⟩
    have L19 := L18.isp sv19 tab19
    have d19 := hk_keep (tab_tk L18.tab sv19) d18
    refine ⟨_, _, rfl, rfl, _, rfl, ?_⟩
    refine iteF ?_
    refine ⟨_, rfl, _, rfl, t0, p7, L, J, rfl, L19.L, d19, okL, okgJ, by omega, by omega, fun _ => ⟨by rw [aJ]; omega, fun H20 p20 s20 h20 => ⟨_, rfl, ?_⟩⟩, fun n => absurd pJ.fits n⟩
    rw [aJ] at h20
    have L20 := L19.same s20
    have d20 := hk_keep (TK.same s20) d19
    refine ne_same (dp_lines h20) (dp_lines L20.N) okDN (by decide) ?_
    refine ⟨_, rfl, ?_⟩
    refine iteF ?_
    -- turned_back(made) != joined(turned_back(two), turned_back(one))
    obtain ⟨bs1, bs2, bs3⟩ := ps.back
    refine ⟨_, rfl, p7, J, _, rfl, d20, by omega, pJ.sep, fun H21 v21 s21 d21 => ?_⟩
    have L21 := L20.same s21
    refine ⟨_, rfl, p1, s, _, rfl, L21.s, ls1, ps.sep, fun H22 v22 s22 d22 => ?_⟩
    have L22 := L21.same s22
    obtain ⟨p22, w22, rfl, _, _⟩ := of_tupD d22
    refine ⟨_, rfl, p0, f, _, rfl, L22.f, lf1, pf.sep, fun H23 v23 s23 d23 => ?_⟩
    have L23 := L22.same s23
    obtain ⟨p23, w23, rfl, _, _⟩ := of_tupD d23
    have pb' : PtOk (applyF (applyF (applyF L 0 f) 0 s) 0 (backF 0 0 s)) (backF 0 0 f) := by rw [bs2]; exact bk1
    obtain ⟨i1, i2, i3, i4, i5, i6, i7, i8⟩ := joined_args bs1 pb' rN.row (by rw [bs2]; exact rM.row) (by rw [bs2, bk2]; exact rL.row)
    refine ⟨p22, p23, _, backF 0 0 s, backF 0 0 f, rfl, hk_keep (TK.same s23) d22, d23, bs1, pb', i1, i2, i3, i4, i5, i6, i7, i8, fun H24 v24 s24 d24 => ?_⟩
    rw [bs2, bs3] at d24
    have L24 := L23.same s24
    have eb : backF 0 0 J = joinedF (applyF L 0 f) s (backF 0 0 f) := by rw [eJ]; exact joined_swap ..
    rw [eb] at d21
    have pbJ := pJ.back
    have okbJ : OkD 3 (hunksD (joinedF (applyF L 0 f) s (backF 0 0 f))) := by
      rw [← eb]
      exact ok_hunks' pbJ.1 (by rw [aJ]; exact rN) (by rw [pbJ.2.1]; exact rL)
    refine ne_same (hk_keep (TK.same (s22.trans (s23.trans s24))) d21) d24 okbJ (by decide) ?_
    refine ⟨_, rfl, ?_⟩
    refine iteF ?_
    have d24J := hk_keep (TK.same (s21.trans (s22.trans (s23.trans s24)))) d20
    -- three
    refine ⟨_, rfl, _, rfl, st, sc, t2, ns, _, rfl, L24.st, L24.N, lnN, by omega, fun H25 v25 h sv25 hS25 d25 ph lh ch => ?_⟩
    obtain ⟨p8, w25, rfl, _, _⟩ := of_tupD d25
    have L25 := L24.draw sv25 hS25
    have d25J := hk_keep (L24.st.tk sv25) d24J
    obtain ⟨lnT, leT⟩ := apply_small lnN (Nat.zero_le _) ph.sep ch
    have rT : RowL (applyF (applyF (applyF L 0 f) 0 s) 0 h) := ⟨lnT, by omega⟩
    have okDT : OkD 1 (linesD (applyF (applyF (applyF L 0 f) 0 s) 0 h)) := okD_lines (lns_ok lnT)
    -- whole
    refine ⟨_, rfl, _, rfl, _, rfl, by show 3 ≤ sizeLine; decide, fun l26 hl26 => ?_⟩
    have s26 := same_new (o := .lst [.ref p0, .ref p1, .ref p8]) hl26
    have L26 := L25.same s26
    have d26h := hk_keep (TK.same s26) d25
    refine ⟨l26, p0, p1, p8, L, f, s, h, rfl, upd_same, L26.f, L26.s, d26h, pf, ps, ph, rL.row, rM.row, rN.row, rT.row, fun H27 v27 s27 d27 => ?_⟩
    obtain ⟨W, eW⟩ : ∃ W, W = jF L J h := ⟨_, rfl⟩
    rw [← eJ, ← eW] at d27
    obtain ⟨p9, w27, rfl, _, _⟩ := of_tupD d27
    have L27 := L26.same s27
    have d27J := hk_keep (TK.same (s26.trans s27)) d25J
    have d27h := hk_keep (TK.same s27) d26h
    have phJ : PtOk (applyF L 0 J) h := by rw [aJ]; exact ph
    obtain ⟨pW, aW⟩ := jF_ok pJ phJ
    rw [← eW] at pW aW
    rw [aJ] at aW
    have lW : W.length ≤ 11 := by
      have q := sep_len (Nat.zero_le _) pW.sep
      omega
    obtain ⟨g1, g2, g3, g4, g5, g6, g7, g8⟩ := joined_args pJ phJ rL.row (by rw [aJ]; exact rN.row) (by rw [aJ]; exact rT.row)
    refine ⟨_, rfl, _, rfl, _, rfl, p7, p8, L, J, h, rfl, d27J, d27h, pJ, phJ, g1, g2, g3, g4, g5, g6, g7, g8, fun H28 v28 s28 d28 => ?_⟩
    have d28 : Dp K H28 v28 (hunksD W) := by rw [eW]; exact d28
    have L28 := L27.same s28
    have d28W := hk_keep (TK.same s28) d27
    have okW : OkD 3 (hunksD W) := ok_hunks' pW rL (by rw [aW]; exact rT)
    refine ne_same d28W d28 okW (by decide) ?_
    refine ⟨_, rfl, ?_⟩
    refine iteF ?_
    have okgW : ∀ h ∈ W, OkL h.gone := fun h hm => lns_ok (fit_ln hL pW.fit h hm)
    refine ⟨_, rfl, _, rfl, t0, p9, L, W, rfl, L28.L, d28W, okL, okgW, by omega, by omega, fun _ => ⟨by rw [aW]; omega, fun H29 p29 s29 h29 => ?_⟩, fun n => absurd pW.fits n⟩
    rw [aW] at h29
    have L29 := L28.same s29
    have d29h := hk_keep (TK.same (s28.trans s29)) d27h
    refine ⟨_, rfl, _, rfl, t2, p8, _, h, rfl, L29.N, d29h, by omega, fun H30 p30 s30 h30 => ?_⟩
    have L30 := L29.same s30
    have d30h := hk_keep (TK.same s30) d29h
    refine ne_same (dp_lines (s30.seqT h29)) (dp_lines h30) okDT (by decide) ?_
    refine ⟨_, rfl, ?_⟩
    refine iteF ?_
    -- put_on(lines, joined(one, joined(two, three))) != _law_apply(last, three)
    obtain ⟨pX, aX⟩ := jF_ok ps ph
    obtain ⟨X, eX⟩ : ∃ X, X = jF (applyF L 0 f) s h := ⟨_, rfl⟩
    rw [← eX] at pX aX
    obtain ⟨pY, aY⟩ := jF_ok pf pX
    obtain ⟨Y, eY⟩ : ∃ Y, Y = jF L f X := ⟨_, rfl⟩
    rw [← eY] at pY aY
    rw [aX] at aY
    have lY : Y.length ≤ 11 := by
      have q := sep_len (Nat.zero_le _) pY.sep
      omega
    obtain ⟨x1, x2, x3, x4, x5, x6, x7, x8⟩ := joined_args ps ph rM.row rN.row rT.row
    obtain ⟨y1, y2, y3, y4, y5, y6, y7, y8⟩ := joined_args pf pX rL.row rM.row (by rw [aX]; exact rT.row)
    refine ⟨_, rfl, _, rfl, _, rfl, _, rfl, p1, p8, _, s, h, rfl, L30.s, d30h, ps, ph, x1, x2, x3, x4, x5, x6, x7, x8, fun H31 v31 s31 d31 => ?_⟩
    have d31 : Dp K H31 v31 (hunksD X) := by rw [eX]; exact d31
    have L31 := L30.same s31
    obtain ⟨p31, w31, rfl, _, _⟩ := of_tupD d31
    refine ⟨p0, p31, L, f, X, rfl, L31.f, d31, pf, pX, y1, y2, y3, y4, y5, y6, y7, y8, fun H32 v32 s32 d32 => ?_⟩
    have d32 : Dp K H32 v32 (hunksD Y) := by rw [eY]; exact d32
    have L32 := L31.same s32
    obtain ⟨p32, w32, rfl, _, _⟩ := of_tupD d32
    have okgY : ∀ h ∈ Y, OkL h.gone := fun h hm => lns_ok (fit_ln hL pY.fit h hm)
    refine ⟨t0, p32, L, Y, rfl, L32.L, d32, okL, okgY, by omega, by omega, fun _ => ⟨by rw [aY]; omega, fun H33 p33 s33 h33 => ?_⟩, fun n => absurd pY.fits n⟩
    rw [aY] at h33
    have L33 := L32.same s33
    have d33h := hk_keep (TK.same (s31.trans (s32.trans s33))) d30h
    refine ⟨_, rfl, _, rfl, t2, p8, _, h, rfl, L33.N, d33h, by omega, fun H34 p34 s34 h34 => ?_⟩
    have L34 := L33.same s34
    refine ne_same (dp_lines (s34.seqT h33)) (dp_lines h34) okDT (by decide) ?_
    refine ⟨_, rfl, ?_⟩
    refine iteF ?_
    have s30' := s31.trans (s32.trans (s33.trans s34))
    have d34J := hk_keep (TK.same (s28.trans (s29.trans (s30.trans s30')))) d27J
    -- joined(one, turned_back(one)) != ()
    have okNil : OkD 3 (hunksD []) := okD_hunks fun _ h => nomatch h
    have rBL : RowOk (applyF (applyF L 0 f) 0 (backF 0 0 f)) := by rw [bk2]; exact rL.row
    obtain ⟨z1, z2, z3, z4, z5, z6, z7, z8⟩ := joined_args pf bk1 rL.row rM.row rBL
    refine ⟨_, rfl, _, rfl, p0, f, _, rfl, L34.f, lf1, pf.sep, fun H35 v35 s35 d35 => ?_⟩
    have L35 := L34.same s35
    obtain ⟨p35, w35, rfl, _, _⟩ := of_tupD d35
    refine ⟨p0, p35, L, f, _, rfl, L35.f, d35, pf, bk1, z1, z2, z3, z4, z5, z6, z7, z8, fun H36 v36 s36 d36 => ?_⟩
    rw [joined_self] at d36
    have L36 := L35.same s36
    refine ⟨by show 0 ≤ sizeLine; decide, fun q36 hq36 => ?_⟩
    have s37 := same_new (o := .tup []) hq36
    have L37 := L36.same s37
    refine ne_same (hk_keep (TK.same s37) d36) (.tup (.inl (.inl upd_same)) .nil) okNil (by decide) ?_
    refine ⟨_, rfl, ?_⟩
    refine iteF ?_
    -- joined((), one) != one
    refine ⟨by show 0 ≤ sizeLine; decide, fun q38 hq38 => ?_⟩
    have s38 := same_new (o := .tup []) hq38
    have L38 := L37.same s38
    obtain ⟨u1, u2, u3, u4, u5, u6, u7, u8⟩ := joined_args (ptOk_nil L) (show PtOk (applyF L 0 []) f from pf) rL.row (show RowOk (applyF L 0 []) from rL.row) (show RowOk (applyF (applyF L 0 []) 0 f) from rM.row)
    refine ⟨_, rfl, q38, p0, L, [], f, rfl, .tup (.inl (.inl upd_same)) .nil, L38.f, ptOk_nil L, pf, u1, u2, u3, u4, u5, u6, u7, u8, fun H39 v39 s39 d39 => ?_⟩
    have d39 : Dp K H39 v39 (hunksD f) := by rw [← jF_nil pf]; exact d39
    have L39 := L38.same s39
    refine ⟨_, rfl, ?_⟩
    refine ne_same d39 L39.f okf (by decide) ?_
    refine ⟨_, rfl, ?_⟩
    refine iteF ?_
    -- joined(one, ()) != one
    refine ⟨_, rfl, by show 0 ≤ sizeLine; decide, fun q40 hq40 => ?_⟩
    have s40 := same_new (o := .tup []) hq40
    have L40 := L39.same s40
    obtain ⟨n1, n2, n3, n4, n5, n6, n7, n8⟩ := joined_args pf (ptOk_nil (applyF L 0 f)) rL.row rM.row (show RowOk (applyF (applyF L 0 f) 0 []) from rM.row)
    refine ⟨p0, q40, L, f, [], rfl, L40.f, .tup (.inl (.inl upd_same)) .nil, pf, ptOk_nil _, n1, n2, n3, n4, n5, n6, n7, n8, fun H41 v41 s41 d41 => ?_⟩
    have L41 := L40.same s41
    rw [joined_back bk1, bk3] at d41
    refine ⟨_, rfl, ?_⟩
    refine ne_same d41 L41.f okf (by decide) ?_
    refine ⟨_, rfl, ?_⟩
    refine iteF ?_
    -- not _law_places(one, len(lines))
    refine ⟨_, rfl, _, rfl, t0, _, rfl, .inr L41.L, p0, f, (L.map V.str).length, _, rfl, L41.f, lf1, by rw [List.length_map]; omega, pf.sep, fun H42 s42 => ?_⟩
    have L42 := L41.same s42
    have d42J := hk_keep (TK.same (s35.trans (s36.trans (s37.trans (s38.trans (s39.trans (s40.trans (s41.trans s42)))))))) d34J
    refine ⟨_, rfl, ?_⟩
    refine iteF ?_
    -- swapped
    have lL100 : L.length ≤ 100 := by omega
    have lL5 : L.length ≤ 50000 := Nat.le_trans lL100 (by decide)
    refine ⟨_, rfl, _, rfl, p0, p1, f, s, _, _, L.length, rfl, L42.f, L42.s, lf1, ls1, pf.sep, bk1.sep, fun nt => ?_, fun H43 v43 s43 o43 => ?_⟩
    · obtain ⟨s', es', q1, q2, _⟩ := swap_facts hL lL100 pf ps lf ls cf cs nt
      rw [← es']
      exact ⟨q1.sep, q2⟩
    have L43 := L42.same s43
    try dsimp only [gName]
    refine cut (fun σ' H' => σ' = [some (.ref a), some (.ref st), some (.ref t0), some (.ref p0), some (.ref t1), some (.ref p1), some (.ref t2), some (.ref p7), some (.ref p8), some (.ref p9), some (v43), none, none, none, none] ∧ Same H43 H') (fun nx hn => ?_) ?_
    · refine ⟨_, rfl, rfl, _, rfl, p0, f, _, rfl, L43.f, lf1, pf.sep, fun G1 w1 g1 e1 => ?_⟩
      obtain ⟨q1, z1, rfl, _, _⟩ := of_tupD e1
      refine ⟨_, rfl, q1, p1, _, s, rfl, e1, hk_keep (TK.same g1) L43.s, by rw [back_len]; exact lf1, ls1, fun G2 w2 g2 e2 o2 => ?_⟩
      rcases o43 with ⟨rfl, ts⟩ | ⟨nt, p, x, y, rfl, _⟩
      · rcases o2 with ⟨rfl, e⟩ | ⟨p, q, rfl, e⟩
        · obtain ⟨x, hx, y, hy, z⟩ := ts
          exact absurd z ((touchI_none.mp e).symm x hx y hy)
        · refine ⟨rfl, rfl, _, rfl, ?_⟩
          refine iteF ?_
          exact hn _ _ ⟨rfl, g1.trans g2⟩
      · rcases o2 with ⟨rfl, e⟩ | ⟨p', q, rfl, e⟩
        · refine ⟨rfl, rfl, _, rfl, ?_⟩
          refine iteF ?_
          exact hn _ _ ⟨rfl, g1.trans g2⟩
        · have e' : touchF (backF 0 0 f) s = none := touchI_none.mpr nt.symm
          rw [e'] at e
          cases e
    rintro σ44 H44 ⟨rfl, s44⟩
    have L44 := L43.same s44
    refine cut (fun σ' H' => σ' = [some (.ref a), some (.ref st), some (.ref t0), some (.ref p0), some (.ref t1), some (.ref p1), some (.ref t2), some (.ref p7), some (.ref p8), some (.ref p9), some (v43), none, none, none, none] ∧ Same H44 H') (fun nx hn => ?_) ?_
    · rcases o43 with ⟨rfl, ts⟩ | ⟨nt, p, x, y, rfl, hp, dx, dy⟩
      · refine ⟨_, rfl, rfl, _, rfl, ?_⟩
        refine iteF ?_
        exact hn _ _ ⟨rfl, Same.refl _⟩
      · refine ⟨_, rfl, rfl, _, rfl, ?_⟩
        refine iteT ?_
        obtain ⟨s', es', ps', _, ls', pf', af', lnS, leS, _, lcf⟩ := swap_facts hL lL100 pf ps lf ls cf cs nt
        rw [← es'] at dx dy
        have hp4 := s44.seqT hp
        have okg1 : ∀ h ∈ s', OkL h.gone := fun h hm => lns_ok (fit_ln hL ps'.fit h hm)
        have okg2 : ∀ h ∈ carryF s' f, OkL h.gone := fun h hm => lns_ok (fit_ln lnS pf'.fit h hm)
        refine ⟨_, rfl, _, rfl, p, _, _, _, rfl, rfl, hp4, at_head, t0, x, L, s', rfl, L44.L, hk_keep (TK.same s44) dx, okL, okg1, lL5, by rw [ls']; exact ls1, fun _ => ⟨Nat.le_trans leS (by decide), fun G1 q1 g1 e1 => ?_⟩, fun n => absurd ps'.fits n⟩
        refine ⟨_, rfl, p, _, _, _, rfl, rfl, g1.seqT hp4, rfl, q1, y, _, carryF s' f, rfl, e1, hk_keep (TK.same (s44.trans g1)) dy, lns_ok lnS, okg2, Nat.le_trans leS (by decide), by rw [lcf]; exact lf1, fun _ => ⟨by rw [af']; exact Nat.le_trans rN.len (by decide), fun G2 q2 g2 e2 => ⟨_, rfl, ?_⟩⟩, fun n => absurd pf'.fits n⟩
        rw [af'] at e2
        refine ne_same (dp_lines e2) (dp_lines ((L44.same g1).same g2).N) okDN (by decide) ?_
        refine ⟨_, rfl, ?_⟩
        refine iteF ?_
        exact hn _ _ ⟨rfl, g1.trans g2⟩
    rintro σ45 H45 ⟨rfl, s45⟩
    have L45 := L44.same s45
    have d45J := hk_keep (TK.same (s43.trans (s44.trans s45))) d42J
    -- other
    refine ⟨_, rfl, _, rfl, st, sc, t0, ns, L, rfl, L45.st, L45.L, hL, rL.len, fun H46 v46 g sv46 hS46 d46 pg lg cg => ?_⟩
    obtain ⟨p11, w46, rfl, _, _⟩ := of_tupD d46
    have L46 := L45.draw sv46 hS46
    have d46J := hk_keep (L45.st.tk sv46) d45J
    refine ⟨_, rfl, _, rfl, _, rfl, t0, p0, p11, L, f, g, rfl, L46.L, L46.f, d46, pf, pg, lL100, hL, lf, lg, cf, cg, L46.tab, fun H47 sv47 tab47 => ?_⟩
    have L47 := L46.isp sv47 tab47
    have d47J := hk_keep (tab_tk L46.tab sv47) d46J
    have d47g := hk_keep (tab_tk L46.tab sv47) d46
    refine ⟨_, rfl, ?_⟩
    refine iteF ?_
    have lN3 := rN.len
    have lN1 : (applyF (applyF L 0 f) 0 s).length ≤ 1000 := Nat.le_trans lN3 (by decide)
    have lL1 : L.length ≤ 1000 := Nat.le_trans lL100 (by decide)
    refine ⟨_, rfl, _, rfl, t0, t2, L, _, rfl, L47.L, L47.N, lL1, lN1, Nat.le_trans (Nat.mul_le_mul lL100 lN3) (by decide), fun H48 v48 s48 d48 => ?_⟩
    have L48 := L47.same s48
    refine ⟨_, rfl, _, rfl, t0, t2, L, _, rfl, L48.L, L48.N, lL1, lN1, fun H49 v49 s49 d49 => ?_⟩
    have L49 := L48.same s49
    have okH : OkD 3 (hunksD (hunksL L (applyF (applyF L 0 f) 0 s))) := okD_hunks fun h hh => ⟨fun y hy => okL y ((hunksF_sub hh).1 y hy), fun y hy => okN y ((hunksF_sub hh).2 y hy)⟩
    refine ne_same (hk_keep (TK.same s49) d48) d49 okH (by decide) ?_
    refine ⟨_, rfl, ?_⟩
    refine iteF ?_
    have d49J := hk_keep (TK.same (s48.trans s49)) d47J
    have d49g := hk_keep (TK.same (s48.trans s49)) d47g
    -- wrong
    refine ⟨_, rfl, ?_⟩
    try dsimp only [tNoPart]
    refine ⟨_, rfl, _, rfl, t0, _, rfl, .inr L49.L, _, _, rfl, rfl, st, sc, ns, _, rfl, L49.st, by rw [List.length_map]; exact drawA L.length, by rw [List.length_map]; exact drawB lL100, fun d s0 pz s3 hd0 hd1 hpz => ?_⟩
    obtain ⟨dn, rfl⟩ : ∃ d' : Nat, d = (d' : Int) := ⟨d.toNat, (Int.toNat_of_nonneg hd0).symm⟩
    have sv50 : Sv st H49 (upd H49 st (.lst (stL s0 pz sc s3))) := Sv.at_
    have L50 := L49.draw sv50 (L49.st.to sv50 upd_same hpz)
    have d50J := hk_keep (L49.st.tk sv50) d49J
    have d50g := hk_keep (L49.st.tk sv50) d49g
    obtain ⟨H50, e50⟩ : ∃ h, h = upd H49 st (.lst (stL s0 pz sc s3)) := ⟨_, rfl⟩
    rw [← e50] at L50 d50J d50g
    rw [← e50]
    refine ⟨_, rfl, ?_⟩
    refine sl_linesTo L50.L fun H51 p51 s51 h51 => ?_
    refine ⟨by show 1 ≤ sizeLine; decide, fun q52 hq52 => ?_⟩
    have s52 := same_new (o := .tup [.str "q\n"]) hq52
    have lW0 : (L.take dn).length ≤ 100 := by rw [List.length_take]; exact Nat.le_trans (Nat.min_le_right _ _) lL100
    refine cat_linesB (ys := [("q\n" : Str)]) (s52.seqT h51) (.inl (.inl upd_same)) (Nat.le_trans (Nat.add_le_add_right lW0 1) (by decide)) fun H53 p12 s53 h53 => ?_
    have s50 := s51.trans (s52.trans s53)
    have L53 := L50.same s50
    have d53J := hk_keep (TK.same s50) d50J
    have d53g := hk_keep (TK.same s50) d50g
    obtain ⟨R, eR⟩ : ∃ R, R = L.take dn ++ [("q\n" : Str)] := ⟨_, rfl⟩
    rw [← eR] at h53
    obtain ⟨okR, lR, okRJ, lRJ⟩ : OkL R ∧ R.length ≤ 101 ∧ OkL (applyF R 0 J) ∧ (applyF R 0 J).length ≤ 10000 := by
      rw [eR]
      exact wrong_facts hL lW0 lJ pJ (by rw [aJ]; exact rN.len) (by rw [aJ]; exact lnN)
    have lJ1 : J.length ≤ 1000 := Nat.le_trans lJ (by decide)
    have lR5 : R.length ≤ 50000 := Nat.le_trans lR (by decide)
    refine ⟨_, rfl, _, rfl, p12, p7, R, J, rfl, h53, d53J, okR, okgJ, lR5, lJ1, lRJ, fun H54 v54 s54 d54 => ?_⟩
    refine ⟨_, rfl, _, rfl, p12, p7, R, J, rfl, s54.seqT h53, hk_keep (TK.same s54) d53J, okR, okgJ, lR5, lJ1, lRJ, fun H55 v55 s55 d55 => ?_⟩
    refine ne_same (dpSame s55 _ _ d54) d55 (okD_fit okRJ) (by decide) ?_
    refine ⟨_, rfl, ?_⟩
    refine iteF ?_
    have s53' := s54.trans s55
    have L55 := L53.same s53'
    have d55g := hk_keep (TK.same s53') d53g
    have lg1 : g.length ≤ 1000 := Nat.le_trans lg (by decide)
    -- spans
    refine ⟨_, rfl, _, rfl, p0, p11, f, g, rfl, L55.f, d55g, lf1, lg1, fun H56 l56 ws56 s56 _ hl56 dw56 => ?_⟩
    have L56 := L55.same s56
    have d56g := hk_keep (TK.same s56) d55g
    obtain ⟨a56, wf56, ea56, qf56, df56⟩ := of_tupD L56.f
    cases ea56
    obtain ⟨b56, wg56, eb56, qg56, dg56⟩ := of_tupD d56g
    cases eb56
    have lwf : wf56.length = f.length := by rw [dpAll_len df56, List.length_map]
    have lwg : wg56.length = g.length := by rw [dpAll_len dg56, List.length_map]
    refine ⟨_, rfl, _, rfl, cat_tupK qf56 qg56 (by rw [lwf, lwg]; exact Nat.le_trans (Nat.add_le_add lf lg) (by decide)) fun H57 p57 s57 h57 => ?_⟩
    have dfg : DpAll K H57 (wf56 ++ wg56) ((f ++ g).map hunkD) := by
      rw [List.map_append]
      exact dpAll_app (hunks_keep (TK.same s57) df56) (hunks_keep (TK.same s57) dg56)
    refine ⟨p57, f ++ g, rfl, .tup h57 dfg, by rw [List.length_append]; exact Nat.le_trans (Nat.add_le_add lf lg) (by decide), fun H58 l58 ws58 s58 hl58 dw58 => ?_⟩
    have s567 := s57.trans s58
    have dA : Dp K H58 (.ref l56) (.list ((spansF f g).map pairD)) := .lst (SqL.of (s567 _ _ hl56)) (dpAll_keep (TK.same s567) _ _ (immAll_map _ imm_pair _) dw56)
    refine ne_same dA (.lst (SqL.of hl58) dw58) (okD_listP _) (by decide) ?_
    refine ⟨_, rfl, ?_⟩
    refine iteF ?_
    have L58 := L56.same s567
    -- rewritten
    obtain ⟨a58, wf58, ea58, qf58, df58⟩ := of_tupD L58.f
    cases ea58
    refine ⟨_, rfl, _, rfl, p0, _, rfl, .inr qf58, fun l59 hl59 => ?_⟩
    have s59 := same_new (o := .lst wf58) hl59
    have L59 := L58.same s59
    refine ⟨t0, l59, L, f, wf58, 0, rfl, L59.L, upd_same, hunks_keep (TK.same s59) df58, fun _ _ => Nat.zero_le _, by rw [rew_applyF]; exact Nat.le_trans rM.len (by decide), fun H60 p60 s60 h60 => ⟨_, rfl, ?_⟩⟩
    rw [rew_applyF] at h60
    have L60 := L59.same s60
    refine ne_same (dp_lines h60) (dp_lines L60.M) okDM (by decide) ?_
    refine ⟨_, rfl, ?_⟩
    refine iteF ?_
    -- odd
    obtain ⟨a60, wf60, ea60, qf60, _⟩ := of_tupD L60.f
    cases ea60
    refine ⟨_, rfl, p0, _, rfl, .inr qf60, fun o1 zo1 => ?_⟩
    have no1 : o1 ≠ st := fun e => by
      obtain ⟨l, q⟩ := L60.st.some
      rw [e, q] at zo1
      cases zo1
    obtain ⟨H61, e61⟩ : ∃ h, h = upd H60 o1 (.lst wf60) := ⟨_, rfl⟩
    rw [← e61]
    have L61 : LH K Pt st sc ns t0 p0 t1 p1 t2 L f (applyF L 0 f) s (applyF (applyF L 0 f) 0 s) H61 := by rw [e61]; exact L60.same (same_new zo1)
    have h61 : H61 o1 = some (.lst wf60) := by rw [e61, upd_same]
    have okA : OkL [("a" : Str)] := fun x hx => by rw [List.mem_singleton.mp hx]; decide +kernel
    refine ⟨by show 0 ≤ sizeLine; decide, fun ob1 zob1 => ?_⟩
    obtain ⟨Hob1, eob1⟩ : ∃ h, h = upd H61 ob1 (.tup []) := ⟨_, rfl⟩
    rw [← eob1]
    have sob1 : Same H61 Hob1 := by rw [eob1]; exact same_new zob1
    have qob1 : SqT K Hob1 ob1 [] := by rw [eob1]; exact .inl (.inl upd_same)
    refine ⟨by show 0 ≤ sizeLine; decide, fun ob2 zob2 => ?_⟩
    obtain ⟨Hob2, eob2⟩ : ∃ h, h = upd Hob1 ob2 (.tup []) := ⟨_, rfl⟩
    rw [← eob2]
    have sob2 : Same Hob1 Hob2 := by rw [eob2]; exact same_new zob2
    have qob2 : SqT K Hob2 ob2 [] := by rw [eob2]; exact .inl (.inl upd_same)
    refine ⟨by show 3 ≤ sizeLine; decide, fun ob3 zob3 => ?_⟩
    obtain ⟨Hob3, eob3⟩ : ∃ h, h = upd Hob2 ob3 (.tup [.int 0, .ref ob1, .ref ob2]) := ⟨_, rfl⟩
    rw [← eob3]
    have sob3 : Same Hob2 Hob3 := by rw [eob3]; exact same_new zob3
    have qob3 : SqT K Hob3 ob3 [.int 0, .ref ob1, .ref ob2] := by rw [eob3]; exact .inl (.inl upd_same)
    refine ⟨by show 1 ≤ sizeLine; decide, fun ob4 zob4 => ?_⟩
    obtain ⟨Hob4, eob4⟩ : ∃ h, h = upd Hob3 ob4 (.tup [.ref ob3]) := ⟨_, rfl⟩
    rw [← eob4]
    have sob4 : Same Hob3 Hob4 := by rw [eob4]; exact same_new zob4
    have qob4 : SqT K Hob4 ob4 [.ref ob3] := by rw [eob4]; exact .inl (.inl upd_same)
    refine ⟨by show 1 ≤ sizeLine; decide, fun oc1 zoc1 => ?_⟩
    obtain ⟨Hoc1, eoc1⟩ : ∃ h, h = upd Hob4 oc1 (.tup [.str "a"]) := ⟨_, rfl⟩
    rw [← eoc1]
    have soc1 : Same Hob4 Hoc1 := by rw [eoc1]; exact same_new zoc1
    have qoc1 : SqT K Hoc1 oc1 [.str "a"] := by rw [eoc1]; exact .inl (.inl upd_same)
    refine ⟨by show 1 ≤ sizeLine; decide, fun oc2 zoc2 => ?_⟩
    obtain ⟨Hoc2, eoc2⟩ : ∃ h, h = upd Hoc1 oc2 (.tup [.str "a"]) := ⟨_, rfl⟩
    rw [← eoc2]
    have soc2 : Same Hoc1 Hoc2 := by rw [eoc2]; exact same_new zoc2
    have qoc2 : SqT K Hoc2 oc2 [.str "a"] := by rw [eoc2]; exact .inl (.inl upd_same)
    refine ⟨by show 3 ≤ sizeLine; decide, fun oc3 zoc3 => ?_⟩
    obtain ⟨Hoc3, eoc3⟩ : ∃ h, h = upd Hoc2 oc3 (.tup [.int 0, .ref oc1, .ref oc2]) := ⟨_, rfl⟩
    rw [← eoc3]
    have soc3 : Same Hoc2 Hoc3 := by rw [eoc3]; exact same_new zoc3
    have qoc3 : SqT K Hoc3 oc3 [.int 0, .ref oc1, .ref oc2] := by rw [eoc3]; exact .inl (.inl upd_same)
    refine ⟨by show 1 ≤ sizeLine; decide, fun oc4 zoc4 => ?_⟩
    obtain ⟨Hoc4, eoc4⟩ : ∃ h, h = upd Hoc3 oc4 (.tup [.ref oc3]) := ⟨_, rfl⟩
    rw [← eoc4]
    have soc4 : Same Hoc3 Hoc4 := by rw [eoc4]; exact same_new zoc4
    have qoc4 : SqT K Hoc4 oc4 [.ref oc3] := by rw [eoc4]; exact .inl (.inl upd_same)
    refine ⟨by show 1 ≤ sizeLine; decide, fun od1 zod1 => ?_⟩
    obtain ⟨Hod1, eod1⟩ : ∃ h, h = upd Hoc4 od1 (.tup [.str "a"]) := ⟨_, rfl⟩
    rw [← eod1]
    have sod1 : Same Hoc4 Hod1 := by rw [eod1]; exact same_new zod1
    have qod1 : SqT K Hod1 od1 [.str "a"] := by rw [eod1]; exact .inl (.inl upd_same)
    refine ⟨by show 0 ≤ sizeLine; decide, fun od2 zod2 => ?_⟩
    obtain ⟨Hod2, eod2⟩ : ∃ h, h = upd Hod1 od2 (.tup []) := ⟨_, rfl⟩
    rw [← eod2]
    have sod2 : Same Hod1 Hod2 := by rw [eod2]; exact same_new zod2
    have qod2 : SqT K Hod2 od2 [] := by rw [eod2]; exact .inl (.inl upd_same)
    refine ⟨by show 3 ≤ sizeLine; decide, fun od3 zod3 => ?_⟩
    obtain ⟨Hod3, eod3⟩ : ∃ h, h = upd Hod2 od3 (.tup [.int 1, .ref od1, .ref od2]) := ⟨_, rfl⟩
    rw [← eod3]
    have sod3 : Same Hod2 Hod3 := by rw [eod3]; exact same_new zod3
    have qod3 : SqT K Hod3 od3 [.int 1, .ref od1, .ref od2] := by rw [eod3]; exact .inl (.inl upd_same)
    refine ⟨by show 1 ≤ sizeLine; decide, fun od4 zod4 => ?_⟩
    obtain ⟨Hod4, eod4⟩ : ∃ h, h = upd Hod3 od4 (.tup [.str "b"]) := ⟨_, rfl⟩
    rw [← eod4]
    have sod4 : Same Hod3 Hod4 := by rw [eod4]; exact same_new zod4
    have qod4 : SqT K Hod4 od4 [.str "b"] := by rw [eod4]; exact .inl (.inl upd_same)
    refine ⟨by show 0 ≤ sizeLine; decide, fun od5 zod5 => ?_⟩
    obtain ⟨Hod5, eod5⟩ : ∃ h, h = upd Hod4 od5 (.tup []) := ⟨_, rfl⟩
    rw [← eod5]
    have sod5 : Same Hod4 Hod5 := by rw [eod5]; exact same_new zod5
    have qod5 : SqT K Hod5 od5 [] := by rw [eod5]; exact .inl (.inl upd_same)
    refine ⟨by show 3 ≤ sizeLine; decide, fun od6 zod6 => ?_⟩
    obtain ⟨Hod6, eod6⟩ : ∃ h, h = upd Hod5 od6 (.tup [.int 2, .ref od4, .ref od5]) := ⟨_, rfl⟩
    rw [← eod6]
    have sod6 : Same Hod5 Hod6 := by rw [eod6]; exact same_new zod6
    have qod6 : SqT K Hod6 od6 [.int 2, .ref od4, .ref od5] := by rw [eod6]; exact .inl (.inl upd_same)
    refine ⟨by show 2 ≤ sizeLine; decide, fun od7 zod7 => ?_⟩
    obtain ⟨Hod7, eod7⟩ : ∃ h, h = upd Hod6 od7 (.tup [.ref od3, .ref od6]) := ⟨_, rfl⟩
    rw [← eod7]
    have sod7 : Same Hod6 Hod7 := by rw [eod7]; exact same_new zod7
    have qod7 : SqT K Hod7 od7 [.ref od3, .ref od6] := by rw [eod7]; exact .inl (.inl upd_same)
    refine ⟨by show 1 ≤ sizeLine; decide, fun oe1 zoe1 => ?_⟩
    obtain ⟨Hoe1, eoe1⟩ : ∃ h, h = upd Hod7 oe1 (.tup [.str "b"]) := ⟨_, rfl⟩
    rw [← eoe1]
    have soe1 : Same Hod7 Hoe1 := by rw [eoe1]; exact same_new zoe1
    have qoe1 : SqT K Hoe1 oe1 [.str "b"] := by rw [eoe1]; exact .inl (.inl upd_same)
    refine ⟨by show 3 ≤ sizeLine; decide, fun oe2 zoe2 => ?_⟩
    obtain ⟨Hoe2, eoe2⟩ : ∃ h, h = upd Hoe1 oe2 (.tup [.int 0, .str "a", .ref oe1]) := ⟨_, rfl⟩
    rw [← eoe2]
    have soe2 : Same Hoe1 Hoe2 := by rw [eoe2]; exact same_new zoe2
    have qoe2 : SqT K Hoe2 oe2 [.int 0, .str "a", .ref oe1] := by rw [eoe2]; exact .inl (.inl upd_same)
    refine ⟨by show 1 ≤ sizeLine; decide, fun oe3 zoe3 => ?_⟩
    obtain ⟨Hoe3, eoe3⟩ : ∃ h, h = upd Hoe2 oe3 (.tup [.ref oe2]) := ⟨_, rfl⟩
    rw [← eoe3]
    have soe3 : Same Hoe2 Hoe3 := by rw [eoe3]; exact same_new zoe3
    have qoe3 : SqT K Hoe3 oe3 [.ref oe2] := by rw [eoe3]; exact .inl (.inl upd_same)
    refine ⟨by show 0 ≤ sizeLine; decide, fun of1 zof1 => ?_⟩
    obtain ⟨Hof1, eof1⟩ : ∃ h, h = upd Hoe3 of1 (.tup []) := ⟨_, rfl⟩
    rw [← eof1]
    have sof1 : Same Hoe3 Hof1 := by rw [eof1]; exact same_new zof1
    have qof1 : SqT K Hof1 of1 [] := by rw [eof1]; exact .inl (.inl upd_same)
    refine ⟨by show 1 ≤ sizeLine; decide, fun of2 zof2 => ?_⟩
    obtain ⟨Hof2, eof2⟩ : ∃ h, h = upd Hof1 of2 (.tup [.str "a"]) := ⟨_, rfl⟩
    rw [← eof2]
    have sof2 : Same Hof1 Hof2 := by rw [eof2]; exact same_new zof2
    have qof2 : SqT K Hof2 of2 [.str "a"] := by rw [eof2]; exact .inl (.inl upd_same)
    refine ⟨by show 3 ≤ sizeLine; decide, fun of3 zof3 => ?_⟩
    obtain ⟨Hof3, eof3⟩ : ∃ h, h = upd Hof2 of3 (.tup [.bl true, .ref of1, .ref of2]) := ⟨_, rfl⟩
    rw [← eof3]
    have sof3 : Same Hof2 Hof3 := by rw [eof3]; exact same_new zof3
    have qof3 : SqT K Hof3 of3 [.bl true, .ref of1, .ref of2] := by rw [eof3]; exact .inl (.inl upd_same)
    refine ⟨by show 1 ≤ sizeLine; decide, fun of4 zof4 => ?_⟩
    obtain ⟨Hof4, eof4⟩ : ∃ h, h = upd Hof3 of4 (.tup [.ref of3]) := ⟨_, rfl⟩
    rw [← eof4]
    have sof4 : Same Hof3 Hof4 := by rw [eof4]; exact same_new zof4
    have qof4 : SqT K Hof4 of4 [.ref of3] := by rw [eof4]; exact .inl (.inl upd_same)
    refine ⟨by show 1 ≤ sizeLine; decide, fun og1 zog1 => ?_⟩
    obtain ⟨Hog1, eog1⟩ : ∃ h, h = upd Hof4 og1 (.tup [.int 5]) := ⟨_, rfl⟩
    rw [← eog1]
    have sog1 : Same Hof4 Hog1 := by rw [eog1]; exact same_new zog1
    have qog1 : SqT K Hog1 og1 [.int 5] := by rw [eog1]; exact .inl (.inl upd_same)
    refine ⟨by show 0 ≤ sizeLine; decide, fun og2 zog2 => ?_⟩
    obtain ⟨Hog2, eog2⟩ : ∃ h, h = upd Hog1 og2 (.tup []) := ⟨_, rfl⟩
    rw [← eog2]
    have sog2 : Same Hog1 Hog2 := by rw [eog2]; exact same_new zog2
    have qog2 : SqT K Hog2 og2 [] := by rw [eog2]; exact .inl (.inl upd_same)
    refine ⟨by show 3 ≤ sizeLine; decide, fun og3 zog3 => ?_⟩
    obtain ⟨Hog3, eog3⟩ : ∃ h, h = upd Hog2 og3 (.tup [.int 0, .ref og1, .ref og2]) := ⟨_, rfl⟩
    rw [← eog3]
    have sog3 : Same Hog2 Hog3 := by rw [eog3]; exact same_new zog3
    have qog3 : SqT K Hog3 og3 [.int 0, .ref og1, .ref og2] := by rw [eog3]; exact .inl (.inl upd_same)
    refine ⟨by show 1 ≤ sizeLine; decide, fun og4 zog4 => ?_⟩
    obtain ⟨Hog4, eog4⟩ : ∃ h, h = upd Hog3 og4 (.tup [.ref og3]) := ⟨_, rfl⟩
    rw [← eog4]
    have sog4 : Same Hog3 Hog4 := by rw [eog4]; exact same_new zog4
    have qog4 : SqT K Hog4 og4 [.ref og3] := by rw [eog4]; exact .inl (.inl upd_same)
    refine ⟨by show 8 ≤ sizeLine; decide, fun oz zoz => ?_⟩
    obtain ⟨Hz, ez⟩ : ∃ h, h = upd Hog4 oz (.lst [.ref o1, .ref ob4, .ref oc4, .ref od7, .ref oe3, .non, .ref of4, .ref og4]) := ⟨_, rfl⟩
    rw [← ez]
    have cog4 : Same Hog4 Hz := by rw [ez]; exact same_new zoz
    have hz : Hz oz = some (.lst [.ref o1, .ref ob4, .ref oc4, .ref od7, .ref oe3, .non, .ref of4, .ref og4]) := by rw [ez, upd_same]
    have cog3 : Same Hog3 Hz := sog4.trans cog4
    have cog2 : Same Hog2 Hz := sog3.trans cog3
    have cog1 : Same Hog1 Hz := sog2.trans cog2
    have cof4 : Same Hof4 Hz := sog1.trans cog1
    have cof3 : Same Hof3 Hz := sof4.trans cof4
    have cof2 : Same Hof2 Hz := sof3.trans cof3
    have cof1 : Same Hof1 Hz := sof2.trans cof2
    have coe3 : Same Hoe3 Hz := sof1.trans cof1
    have coe2 : Same Hoe2 Hz := soe3.trans coe3
    have coe1 : Same Hoe1 Hz := soe2.trans coe2
    have cod7 : Same Hod7 Hz := soe1.trans coe1
    have cod6 : Same Hod6 Hz := sod7.trans cod7
    have cod5 : Same Hod5 Hz := sod6.trans cod6
    have cod4 : Same Hod4 Hz := sod5.trans cod5
    have cod3 : Same Hod3 Hz := sod4.trans cod4
    have cod2 : Same Hod2 Hz := sod3.trans cod3
    have cod1 : Same Hod1 Hz := sod2.trans cod2
    have coc4 : Same Hoc4 Hz := sod1.trans cod1
    have coc3 : Same Hoc3 Hz := soc4.trans coc4
    have coc2 : Same Hoc2 Hz := soc3.trans coc3
    have coc1 : Same Hoc1 Hz := soc2.trans coc2
    have cob4 : Same Hob4 Hz := soc1.trans coc1
    have cob3 : Same Hob3 Hz := sob4.trans cob4
    have cob2 : Same Hob2 Hz := sob3.trans cob3
    have cob1 : Same Hob1 Hz := sob2.trans cob2
    have c61 : Same H61 Hz := sob1.trans cob1
    have Lz := L61.same c61
    have ho1 := c61 _ _ h61
    obtain ⟨lst, hst⟩ := Lz.st.some
    refine ⟨_, rfl, _, rfl, st, sc, ns, 8, rfl, Lz.st, by decide, by decide, fun d s0 pz s3 hd0 hd1 hpz => ?_⟩
    have sva : Sv st Hz (upd Hz st (.lst (stL s0 pz sc s3))) := Sv.at_
    have tka := Lz.st.tk sva
    have La := Lz.draw sva (Lz.st.to sva upd_same hpz)
    obtain ⟨Ha, ea⟩ : ∃ h, h = upd Hz st (.lst (stL s0 pz sc s3)) := ⟨_, rfl⟩
    rw [← ea] at sva tka La
    rw [← ea]
    have noz : oz ≠ st := fun e => by
      have q := L61.st.some
      obtain ⟨l, q⟩ := q
      rw [e] at zoz
      have q3 := (sob1.trans (sob2.trans (sob3.trans (sob4.trans (soc1.trans (soc2.trans (soc3.trans (soc4.trans (sod1.trans (sod2.trans (sod3.trans (sod4.trans (sod5.trans (sod6.trans (sod7.trans (soe1.trans (soe2.trans (soe3.trans (sof1.trans (sof2.trans (sof3.trans (sof4.trans (sog1.trans (sog2.trans (sog3.trans (sog4)))))))))))))))))))))))))) _ _ q
      rw [zoz] at q3
      cases q3
    have hza : SqL K Ha oz [.ref o1, .ref ob4, .ref oc4, .ref od7, .ref oe3, .non, .ref of4, .ref og4] := SqL.of (sva _ _ noz hz)
    have ho1a := sva _ _ no1 ho1
    have rob1 := tka _ _ (cob1.seqT qob1)
    have rob2 := tka _ _ (cob2.seqT qob2)
    have rob3 := tka _ _ (cob3.seqT qob3)
    have rob4 := tka _ _ (cob4.seqT qob4)
    have roc1 := tka _ _ (coc1.seqT qoc1)
    have roc2 := tka _ _ (coc2.seqT qoc2)
    have roc3 := tka _ _ (coc3.seqT qoc3)
    have roc4 := tka _ _ (coc4.seqT qoc4)
    have rod1 := tka _ _ (cod1.seqT qod1)
    have rod2 := tka _ _ (cod2.seqT qod2)
    have rod3 := tka _ _ (cod3.seqT qod3)
    have rod4 := tka _ _ (cod4.seqT qod4)
    have rod5 := tka _ _ (cod5.seqT qod5)
    have rod6 := tka _ _ (cod6.seqT qod6)
    have rod7 := tka _ _ (cod7.seqT qod7)
    have roe1 := tka _ _ (coe1.seqT qoe1)
    have roe2 := tka _ _ (coe2.seqT qoe2)
    have roe3 := tka _ _ (coe3.seqT qoe3)
    have rof1 := tka _ _ (cof1.seqT qof1)
    have rof2 := tka _ _ (cof2.seqT qof2)
    have rof3 := tka _ _ (cof3.seqT qof3)
    have rof4 := tka _ _ (cof4.seqT qof4)
    have rog1 := tka _ _ (cog1.seqT qog1)
    have rog2 := tka _ _ (cog2.seqT qog2)
    have rog3 := tka _ _ (cog3.seqT qog3)
    have rog4 := tka _ _ (cog4.seqT qog4)
    have fin : ∀ H' : Hp, Q (.bl (decide (false = false))) H' := fun H' => k H'
    have hd : d = 0 ∨ d = 1 ∨ d = 2 ∨ d = 3 ∨ d = 4 ∨ d = 5 ∨ d = 6 ∨ d = 7 := eight hd0 hd1
    rcases hd with rfl | rfl | rfl | rfl | rfl | rfl | rfl | rfl
    · refine ⟨oz, _, _, _, rfl, rfl, hza, rfl, _, rfl, .inl ⟨.type "list", .base (.lst ho1a), kit_ty (by decide +kernel), ⟨_, _, rfl, rfl, fin _⟩⟩⟩
    · refine ⟨oz, _, _, _, rfl, rfl, hza, rfl, _, rfl, .inr ⟨ob4, [], [.ref ob3], [], false, rfl, rob4, .nil, trivial, .inr ⟨_, rfl, ⟨ob3, _, _, _, rfl, rob3, .inr (.inr (.inr (.inl ⟨0, ob1, ob2, [], rfl, by decide, rfl, rfl, rob1, rob2, fun _ h => nomatch h⟩)))⟩, rfl⟩, La.tab, fun H' _ _ => ⟨_, _, rfl, rfl, fin _⟩⟩⟩
    · refine ⟨oz, _, _, _, rfl, rfl, hza, rfl, _, rfl, .inr ⟨oc4, [], [.ref oc3], [], false, rfl, roc4, .nil, trivial, .inr ⟨_, rfl, ⟨oc3, _, _, _, rfl, roc3, .inr (.inr (.inr (.inl ⟨0, oc1, oc2, ["a"], rfl, by decide, rfl, rfl, roc1, roc2, okA⟩)))⟩, rfl⟩, La.tab, fun H' _ _ => ⟨_, _, rfl, rfl, fin _⟩⟩⟩
    · refine ⟨oz, _, _, _, rfl, rfl, hza, rfl, _, rfl, .inr ⟨od7, [.ref od3], [.ref od6], [⟨1, ["a"], []⟩], false, rfl, rod7, .cons (dp_hunk rod3 rod1 rod2) .nil, ⟨by decide, (fun e => nomatch e), okA, (fun _ h => nomatch h), by decide, (fun x hx => by rw [List.mem_singleton.mp hx]; decide), trivial⟩, .inr ⟨_, rfl, ⟨od6, _, _, _, rfl, rod6, .inl ⟨2, rfl, by decide⟩⟩, rfl⟩, La.tab, fun H' _ _ => ⟨_, _, rfl, rfl, fin _⟩⟩⟩
    · refine ⟨oz, _, _, _, rfl, rfl, hza, rfl, _, rfl, .inr ⟨oe3, [], [.ref oe2], [], false, rfl, roe3, .nil, trivial, .inr ⟨_, rfl, ⟨oe2, _, _, _, rfl, roe2, .inr (.inr (.inl ⟨0, "a", rfl, by decide, rfl⟩))⟩, rfl⟩, La.tab, fun H' _ _ => ⟨_, _, rfl, rfl, fin _⟩⟩⟩
    · refine ⟨oz, _, _, _, rfl, rfl, hza, rfl, _, rfl, .inl ⟨.type "NoneType", .base .non, kit_ty (by decide +kernel), ⟨_, _, rfl, rfl, fin _⟩⟩⟩
    · refine ⟨oz, _, _, _, rfl, rfl, hza, rfl, _, rfl, .inr ⟨of4, [], [.ref of3], [], false, rfl, rof4, .nil, trivial, .inr ⟨_, rfl, ⟨of3, _, _, _, rfl, rof3, .inr (.inl ⟨true, rfl⟩)⟩, rfl⟩, La.tab, fun H' _ _ => ⟨_, _, rfl, rfl, fin _⟩⟩⟩
    · refine ⟨oz, _, _, _, rfl, rfl, hza, rfl, _, rfl, .inr ⟨og4, [], [.ref og3], [], false, rfl, rog4, .nil, trivial, .inr ⟨_, rfl, ⟨og3, _, _, _, rfl, rog3, .inr (.inr (.inr (.inr ⟨0, og1, og2, 5, rfl, by decide, rfl, rfl, rog1, rog2⟩)))⟩, rfl⟩, La.tab, fun H' _ _ => ⟨_, _, rfl, rfl, fin _⟩⟩⟩
end
end VK
end

section
set_option Elab.async false
set_option linter.all false
set_option maxRecDepth 100000
set_option maxHeartbeats 8000000
namespace LamX
open PySem PySem.Spec PyProof.Rows L2
/-- as walk_ofTs; the head's facts of the table of the def nmI are given to F -/
theorem walk_ofTsP {l : PySem.W.OpenLaw} {n k : Nat} {q : Program} {loose : List Str} {XP : (Str → Option Value) → Heap → Prop} {YP : World → Heap → Prop} {d : DefRec} {K : Params → PySem.W.Frag} {CX : World → CXT} {x nmI : Str}
    (hn : l.most = some n) (hn2 : n ≤ sizeLine) (hdf : d.params.defaults = []) (hr : Room k callerA) (hrec : ((recsOf q).find? fun e => e.name == nmI).isSome = true) (hY : ∀ (w : World) (h : Heap), YP w h → (K w.params).In h)
    (F : ∀ (w : World) (mg : Str → Option Value) (fa : Addr) (h : Heap), YP w h → (K w.params).In h → h.Ns mainGlobals mg → mg d.name = some (.ref fa) →
      (∀ c P : Addr, PySem.W.tabIn (K w.params) nmI = some (c, P) → PySem.W.CodeHd h c P ∧ h.get? P = some { cls := .none, data := .fields #[] }) → LawAtS l w (K w.params) (CX w) k n x mg fa h)
    (hCX : ∀ (w : World) (H : Hp) (s : Shared) (e : Value) (s' : Shared), CX w [] H s (fun _ _ _ => False) e s' → False) :
    PySem.W.WalkO q loose XP YP l.row.toRowW d [] (fun f vs => PySem.call f vs) := by
  refine Att.attach_callB hn hdf fun w s₀ s₁ mg mb fa o pm cd doc a vs ns G Y ho hd hcd hmg hobj hints hlen hbits hg => ?_
  have KX := hY w _ Y
  obtain ⟨dI, hdI⟩ := Option.isSome_iff_exists.mp hrec
  obtain ⟨fd, cs, sp, hT, nT, C, hb, hsp, hF⟩ := F w mg fa _ Y KX G.T.g hmg fun c P e => PySem.W.tab_of G.T KX hdI e
  exact law_callTs KX G.T.g G.T.b G.T.builtins G.T.nolimit hg hT nT C G.T.bmain hobj hints (Nat.le_trans hlen hn2) hr hF hb (fun H hH hS => hsp H a ns hlen hbits hH hS) fun H e s' => hCX w H s₁ e s'
end LamX
namespace VK
open PySem L2
/-- an error of the class at S is what «except S» names -/
theorem exm_selfK {K : PySem.W.Frag} {S : Addr} (h1 : PySem.W.subIn K (.ref S) (.type "BaseException") = some true) (h2 : PySem.W.isClsIn K S = true) (h3 : PySem.W.typeIn K (.ref S) = some (.type "type")) (h4 : PySem.W.subIn K (.ref S) (.ref S) = some true) :
    PySem.W.exmOne K (.ref S) (.ref S) = some true := by
  have e1 : (PySem.W.subIn K (.ref S) (.type "BaseException") == some true) = true := by rw [h1] <;> rfl
  have e2 : ((PySem.W.clsIn K S).isSome && PySem.W.typeIn K (.ref S) == some (.type "type")) = true := by
    have h2' : (PySem.W.clsIn K S).isSome = true := h2
    rw [h2', h3] <;> rfl
  show (if (PySem.W.subIn K (.ref S) (.type "BaseException") == some true) = true then (if ((PySem.W.clsIn K S).isSome && PySem.W.typeIn K (.ref S) == some (.type "type")) = true then PySem.W.subIn K (.ref S) (.ref S) else none) else none) = some true
  rw [if_pos e1, if_pos e2]
  exact h4
theorem tabB_of {base : Heap} {mg : Str → Option Value} {c P : Addr} (h : LamX.TabB base mg c P) : GxR.TabB base mg c P := ⟨h.code, h.bm, h.gP⟩
theorem funC_mk {K : PySem.W.Frag} {x qual : Str} {st : Stmt} {f c : Addr} {oc : Value} {od an : Option Addr} {osl : Array (Option Value)} {kV doc pm ct : Value} (l : K.lookup f = some ⟨oc, od, .func (PySem.W.fnOf x qual (defArgs st) (defBody st) (defScope st) .none kV doc pm an (.ref c) ct), osl⟩)
    (h : PySem.W.codeIn K (.ref c) qual = true) (k : PySem.W.keepIn K (.ref f) = true) : FunC K x qual st f c (PySem.W.fnOf x qual (defArgs st) (defBody st) (defScope st) .none kV doc pm an (.ref c) ct) := ⟨⟨oc, od, kV, doc, pm, an, ct, osl, rfl, l, h⟩, k⟩
theorem tabIn_mk {K : PySem.W.Frag} {x qual : Str} {st : Stmt} {f c Pt : Addr} {oc oc2 : Value} {od an od2 : Option Addr} {osl osl2 : Array (Option Value)} {kV doc pm ct : Value} {vs : Array Value} (a : PySem.W.nsIn K mainGlobals x = some (some (.ref f)))
    (l : K.lookup f = some ⟨oc, od, .func (PySem.W.fnOf x qual (defArgs st) (defBody st) (defScope st) .none kV doc pm an (.ref c) ct), osl⟩) (l2 : K.lookup c = some ⟨oc2, od2, .fields vs, osl2⟩) (e : vs[11]? = some (.ref Pt)) : PySem.W.tabIn K x = some (c, Pt) := by
  unfold PySem.W.tabIn
  rw [a]
  dsimp only
  rw [l]
  dsimp only [PySem.W.fnOf]
  rw [l2]
  dsimp only
  rw [e]
theorem all_mk {l : PySem.W.OpenLaw} {w : World} {K : PySem.W.Frag} {h : Heap} {mg : Str → Option Value} {fa C cI Pt CC CV fI f_0 f_1 f_2 f_3 f_4 f_5 f_6 f_7 f_8 f_9 f_10 f_11 f_12 f_13 f_14 f_15 f_16 f_17 f_18 f_19 f_20 f_21 f_22 f_23 f_24 f_25 f_26 f_27 f_28 f_29 f_30 f_31 f_32 f_33 f_34 f_35 f_36 : Addr} (X : K.In h) (G : h.Ns mainGlobals mg) (hfa : mg "law" = some (.ref fa))
    {od_0 an_0 od_1 an_1 od_2 an_2 od_3 an_3 od_4 an_4 od_5 an_5 od_6 an_6 od_7 an_7 od_8 an_8 od_9 an_9 od_10 an_10 od_11 an_11 od_12 an_12 od_13 an_13 od_14 an_14 od_15 an_15 od_16 an_16 od_17 an_17 od_18 an_18 od_19 an_19 od_20 an_20 od_21 an_21 od_22 an_22 od_23 an_23 od_24 an_24 od_25 an_25 od_26 an_26 od_27 an_27 od_28 an_28 od_29 an_29 od_30 an_30 od_31 an_31 od_32 an_32 od_33 an_33 od_34 an_34 od_35 an_35 od_36 an_36 odI : Option Addr} {sl_0 sl_1 sl_2 sl_3 sl_4 sl_5 sl_6 sl_7 sl_8 sl_9 sl_10 sl_11 sl_12 sl_13 sl_14 sl_15 sl_16 sl_17 sl_18 sl_19 sl_20 sl_21 sl_22 sl_23 sl_24 sl_25 sl_26 sl_27 sl_28 sl_29 sl_30 sl_31 sl_32 sl_33 sl_34 sl_35 sl_36 slI : Array (Option Value)} {oc_0 kV_0 dc_0 pm_0 ct_0 cd_0 oc_1 kV_1 dc_1 pm_1 ct_1 cd_1 oc_2 kV_2 dc_2 pm_2 ct_2 cd_2 oc_3 kV_3 dc_3 pm_3 ct_3 cd_3 oc_4 kV_4 dc_4 pm_4 ct_4 oc_5 kV_5 dc_5 pm_5 ct_5 cd_5 oc_6 kV_6 dc_6 pm_6 ct_6 cd_6 oc_7 kV_7 dc_7 pm_7 ct_7 cd_7 oc_8 kV_8 dc_8 pm_8 ct_8 cd_8 oc_9 kV_9 dc_9 pm_9 ct_9 cd_9 oc_10 kV_10 dc_10 pm_10 ct_10 cd_10 oc_11 kV_11 dc_11 pm_11 ct_11 cd_11 oc_12 kV_12 dc_12 pm_12 ct_12 cd_12 oc_13 kV_13 dc_13 pm_13 ct_13 cd_13 oc_14 kV_14 dc_14 pm_14 ct_14 cd_14 oc_15 kV_15 dc_15 pm_15 ct_15 cd_15 oc_16 kV_16 dc_16 pm_16 ct_16 cd_16 oc_17 kV_17 dc_17 pm_17 ct_17 cd_17 oc_18 kV_18 dc_18 pm_18 ct_18 cd_18 oc_19 kV_19 dc_19 pm_19 ct_19 cd_19 oc_20 kV_20 dc_20 pm_20 ct_20 cd_20 oc_21 kV_21 dc_21 pm_21 ct_21 cd_21 oc_22 kV_22 dc_22 pm_22 ct_22 cd_22 oc_23 kV_23 dc_23 pm_23 ct_23 cd_23 oc_24 kV_24 dc_24 pm_24 ct_24 cd_24 oc_25 kV_25 dc_25 pm_25 ct_25 cd_25 oc_26 kV_26 dc_26 pm_26 ct_26 cd_26 oc_27 kV_27 dc_27 pm_27 ct_27 cd_27 oc_28 kV_28 dc_28 pm_28 ct_28 cd_28 oc_29 kV_29 dc_29 pm_29 ct_29 cd_29 oc_30 kV_30 dc_30 pm_30 ct_30 cd_30 oc_31 kV_31 dc_31 pm_31 ct_31 cd_31 oc_32 kV_32 dc_32 pm_32 ct_32 cd_32 oc_33 kV_33 dc_33 pm_33 ct_33 cd_33 oc_34 kV_34 dc_34 pm_34 ct_34 cd_34 oc_35 kV_35 dc_35 pm_35 ct_35 cd_35 oc_36 kV_36 dc_36 pm_36 ct_36 cd_36 ocI : Value}
    {vsI : Array Value}
    (a_0 : PySem.W.nsIn K mainGlobals "common_table" = some (some (.ref f_0))) (l_0 : K.lookup f_0 = some ⟨oc_0, od_0, .func (PySem.W.fnOf "common_table" "common_table" (defArgs s_common_table) (defBody s_common_table) (defScope s_common_table) .none kV_0 dc_0 pm_0 an_0 cd_0 ct_0), sl_0⟩) (c_0 : PySem.W.codeIn K cd_0 "common_table" = true) (k_0 : PySem.W.keepIn K (.ref f_0) = true)
    (a_1 : PySem.W.nsIn K mainGlobals "kept_pairs" = some (some (.ref f_1))) (l_1 : K.lookup f_1 = some ⟨oc_1, od_1, .func (PySem.W.fnOf "kept_pairs" "kept_pairs" (defArgs s_kept_pairs) (defBody s_kept_pairs) (defScope s_kept_pairs) .none kV_1 dc_1 pm_1 an_1 cd_1 ct_1), sl_1⟩) (c_1 : PySem.W.codeIn K cd_1 "kept_pairs" = true) (k_1 : PySem.W.keepIn K (.ref f_1) = true)
    (a_2 : PySem.W.nsIn K mainGlobals "next_pair" = some (some (.ref f_2))) (l_2 : K.lookup f_2 = some ⟨oc_2, od_2, .func (PySem.W.fnOf "next_pair" "next_pair" (defArgs s_next_pair) (defBody s_next_pair) (defScope s_next_pair) .none kV_2 dc_2 pm_2 an_2 cd_2 ct_2), sl_2⟩) (c_2 : PySem.W.codeIn K cd_2 "next_pair" = true) (k_2 : PySem.W.keepIn K (.ref f_2) = true)
    (a_3 : PySem.W.nsIn K mainGlobals "hunks_of" = some (some (.ref f_3))) (l_3 : K.lookup f_3 = some ⟨oc_3, od_3, .func (PySem.W.fnOf "hunks_of" "hunks_of" (defArgs s_hunks_of) (defBody s_hunks_of) (defScope s_hunks_of) .none kV_3 dc_3 pm_3 an_3 cd_3 ct_3), sl_3⟩) (c_3 : PySem.W.codeIn K cd_3 "hunks_of" = true) (k_3 : PySem.W.keepIn K (.ref f_3) = true)
    (a_4 : PySem.W.nsIn K mainGlobals "is_patch" = some (some (.ref f_4))) (l_4 : K.lookup f_4 = some ⟨oc_4, od_4, .func (PySem.W.fnOf "is_patch" "is_patch" (defArgs s_is_patch) (defBody s_is_patch) (defScope s_is_patch) .none kV_4 dc_4 pm_4 an_4 (.ref cI) ct_4), sl_4⟩) (c_4 : PySem.W.codeIn K (.ref cI) "is_patch" = true) (k_4 : PySem.W.keepIn K (.ref f_4) = true)
    (a_5 : PySem.W.nsIn K mainGlobals "patch_between" = some (some (.ref f_5))) (l_5 : K.lookup f_5 = some ⟨oc_5, od_5, .func (PySem.W.fnOf "patch_between" "patch_between" (defArgs s_patch_between) (defBody s_patch_between) (defScope s_patch_between) .none kV_5 dc_5 pm_5 an_5 cd_5 ct_5), sl_5⟩) (c_5 : PySem.W.codeIn K cd_5 "patch_between" = true) (k_5 : PySem.W.keepIn K (.ref f_5) = true)
    (a_6 : PySem.W.nsIn K mainGlobals "put_on" = some (some (.ref f_6))) (l_6 : K.lookup f_6 = some ⟨oc_6, od_6, .func (PySem.W.fnOf "put_on" "put_on" (defArgs s_put_on) (defBody s_put_on) (defScope s_put_on) .none kV_6 dc_6 pm_6 an_6 cd_6 ct_6), sl_6⟩) (c_6 : PySem.W.codeIn K cd_6 "put_on" = true) (k_6 : PySem.W.keepIn K (.ref f_6) = true)
    (a_7 : PySem.W.nsIn K mainGlobals "turned_back" = some (some (.ref f_7))) (l_7 : K.lookup f_7 = some ⟨oc_7, od_7, .func (PySem.W.fnOf "turned_back" "turned_back" (defArgs s_turned_back) (defBody s_turned_back) (defScope s_turned_back) .none kV_7 dc_7 pm_7 an_7 cd_7 ct_7), sl_7⟩) (c_7 : PySem.W.codeIn K cd_7 "turned_back" = true) (k_7 : PySem.W.keepIn K (.ref f_7) = true)
    (a_8 : PySem.W.nsIn K mainGlobals "growth" = some (some (.ref f_8))) (l_8 : K.lookup f_8 = some ⟨oc_8, od_8, .func (PySem.W.fnOf "growth" "growth" (defArgs s_growth) (defBody s_growth) (defScope s_growth) .none kV_8 dc_8 pm_8 an_8 cd_8 ct_8), sl_8⟩) (c_8 : PySem.W.codeIn K cd_8 "growth" = true) (k_8 : PySem.W.keepIn K (.ref f_8) = true)
    (a_9 : PySem.W.nsIn K mainGlobals "place_after" = some (some (.ref f_9))) (l_9 : K.lookup f_9 = some ⟨oc_9, od_9, .func (PySem.W.fnOf "place_after" "place_after" (defArgs s_place_after) (defBody s_place_after) (defScope s_place_after) .none kV_9 dc_9 pm_9 an_9 cd_9 ct_9), sl_9⟩) (c_9 : PySem.W.codeIn K cd_9 "place_after" = true) (k_9 : PySem.W.keepIn K (.ref f_9) = true)
    (a_10 : PySem.W.nsIn K mainGlobals "line_after" = some (some (.ref f_10))) (l_10 : K.lookup f_10 = some ⟨oc_10, od_10, .func (PySem.W.fnOf "line_after" "line_after" (defArgs s_line_after) (defBody s_line_after) (defScope s_line_after) .none kV_10 dc_10 pm_10 an_10 cd_10 ct_10), sl_10⟩) (c_10 : PySem.W.codeIn K cd_10 "line_after" = true) (k_10 : PySem.W.keepIn K (.ref f_10) = true)
    (a_11 : PySem.W.nsIn K mainGlobals "do_touch" = some (some (.ref f_11))) (l_11 : K.lookup f_11 = some ⟨oc_11, od_11, .func (PySem.W.fnOf "do_touch" "do_touch" (defArgs s_do_touch) (defBody s_do_touch) (defScope s_do_touch) .none kV_11 dc_11 pm_11 an_11 cd_11 ct_11), sl_11⟩) (c_11 : PySem.W.codeIn K cd_11 "do_touch" = true) (k_11 : PySem.W.keepIn K (.ref f_11) = true)
    (a_12 : PySem.W.nsIn K mainGlobals "carried" = some (some (.ref f_12))) (l_12 : K.lookup f_12 = some ⟨oc_12, od_12, .func (PySem.W.fnOf "carried" "carried" (defArgs s_carried) (defBody s_carried) (defScope s_carried) .none kV_12 dc_12 pm_12 an_12 cd_12 ct_12), sl_12⟩) (c_12 : PySem.W.codeIn K cd_12 "carried" = true) (k_12 : PySem.W.keepIn K (.ref f_12) = true)
    (a_13 : PySem.W.nsIn K mainGlobals "both" = some (some (.ref f_13))) (l_13 : K.lookup f_13 = some ⟨oc_13, od_13, .func (PySem.W.fnOf "both" "both" (defArgs s_both) (defBody s_both) (defScope s_both) .none kV_13 dc_13 pm_13 an_13 cd_13 ct_13), sl_13⟩) (c_13 : PySem.W.codeIn K cd_13 "both" = true) (k_13 : PySem.W.keepIn K (.ref f_13) = true)
    (a_14 : PySem.W.nsIn K mainGlobals "commuted" = some (some (.ref f_14))) (l_14 : K.lookup f_14 = some ⟨oc_14, od_14, .func (PySem.W.fnOf "commuted" "commuted" (defArgs s_commuted) (defBody s_commuted) (defScope s_commuted) .none kV_14 dc_14 pm_14 an_14 cd_14 ct_14), sl_14⟩) (c_14 : PySem.W.codeIn K cd_14 "commuted" = true) (k_14 : PySem.W.keepIn K (.ref f_14) = true)
    (a_15 : PySem.W.nsIn K mainGlobals "joined" = some (some (.ref f_15))) (l_15 : K.lookup f_15 = some ⟨oc_15, od_15, .func (PySem.W.fnOf "joined" "joined" (defArgs s_joined) (defBody s_joined) (defScope s_joined) .none kV_15 dc_15 pm_15 an_15 cd_15 ct_15), sl_15⟩) (c_15 : PySem.W.codeIn K cd_15 "joined" = true) (k_15 : PySem.W.keepIn K (.ref f_15) = true)
    (a_16 : PySem.W.nsIn K mainGlobals "spans_between" = some (some (.ref f_16))) (l_16 : K.lookup f_16 = some ⟨oc_16, od_16, .func (PySem.W.fnOf "spans_between" "spans_between" (defArgs s_spans_between) (defBody s_spans_between) (defScope s_spans_between) .none kV_16 dc_16 pm_16 an_16 cd_16 ct_16), sl_16⟩) (c_16 : PySem.W.codeIn K cd_16 "spans_between" = true) (k_16 : PySem.W.keepIn K (.ref f_16) = true)
    (a_17 : PySem.W.nsIn K mainGlobals "within" = some (some (.ref f_17))) (l_17 : K.lookup f_17 = some ⟨oc_17, od_17, .func (PySem.W.fnOf "within" "within" (defArgs s_within) (defBody s_within) (defScope s_within) .none kV_17 dc_17 pm_17 an_17 cd_17 ct_17), sl_17⟩) (c_17 : PySem.W.codeIn K cd_17 "within" = true) (k_17 : PySem.W.keepIn K (.ref f_17) = true)
    (a_18 : PySem.W.nsIn K mainGlobals "lines_between" = some (some (.ref f_18))) (l_18 : K.lookup f_18 = some ⟨oc_18, od_18, .func (PySem.W.fnOf "lines_between" "lines_between" (defArgs s_lines_between) (defBody s_lines_between) (defScope s_lines_between) .none kV_18 dc_18 pm_18 an_18 cd_18 ct_18), sl_18⟩) (c_18 : PySem.W.codeIn K cd_18 "lines_between" = true) (k_18 : PySem.W.keepIn K (.ref f_18) = true)
    (a_19 : PySem.W.nsIn K mainGlobals "rewritten" = some (some (.ref f_19))) (l_19 : K.lookup f_19 = some ⟨oc_19, od_19, .func (PySem.W.fnOf "rewritten" "rewritten" (defArgs s_rewritten) (defBody s_rewritten) (defScope s_rewritten) .none kV_19 dc_19 pm_19 an_19 cd_19 ct_19), sl_19⟩) (c_19 : PySem.W.codeIn K cd_19 "rewritten" = true) (k_19 : PySem.W.keepIn K (.ref f_19) = true)
    (a_20 : PySem.W.nsIn K mainGlobals "all_joined" = some (some (.ref f_20))) (l_20 : K.lookup f_20 = some ⟨oc_20, od_20, .func (PySem.W.fnOf "all_joined" "all_joined" (defArgs s_all_joined) (defBody s_all_joined) (defScope s_all_joined) .none kV_20 dc_20 pm_20 an_20 cd_20 ct_20), sl_20⟩) (c_20 : PySem.W.codeIn K cd_20 "all_joined" = true) (k_20 : PySem.W.keepIn K (.ref f_20) = true)
    (a_21 : PySem.W.nsIn K mainGlobals "count_changed" = some (some (.ref f_21))) (l_21 : K.lookup f_21 = some ⟨oc_21, od_21, .func (PySem.W.fnOf "count_changed" "count_changed" (defArgs s_count_changed) (defBody s_count_changed) (defScope s_count_changed) .none kV_21 dc_21 pm_21 an_21 cd_21 ct_21), sl_21⟩) (c_21 : PySem.W.codeIn K cd_21 "count_changed" = true) (k_21 : PySem.W.keepIn K (.ref f_21) = true)
    (a_22 : PySem.W.nsIn K mainGlobals "_law_draw" = some (some (.ref f_22))) (l_22 : K.lookup f_22 = some ⟨oc_22, od_22, .func (PySem.W.fnOf "_law_draw" "_law_draw" (defArgs s__law_draw) (defBody s__law_draw) (defScope s__law_draw) .none kV_22 dc_22 pm_22 an_22 cd_22 ct_22), sl_22⟩) (c_22 : PySem.W.codeIn K cd_22 "_law_draw" = true) (k_22 : PySem.W.keepIn K (.ref f_22) = true)
    (a_23 : PySem.W.nsIn K mainGlobals "_law_lines" = some (some (.ref f_23))) (l_23 : K.lookup f_23 = some ⟨oc_23, od_23, .func (PySem.W.fnOf "_law_lines" "_law_lines" (defArgs s__law_lines) (defBody s__law_lines) (defScope s__law_lines) .none kV_23 dc_23 pm_23 an_23 cd_23 ct_23), sl_23⟩) (c_23 : PySem.W.codeIn K cd_23 "_law_lines" = true) (k_23 : PySem.W.keepIn K (.ref f_23) = true)
    (a_24 : PySem.W.nsIn K mainGlobals "_law_table" = some (some (.ref f_24))) (l_24 : K.lookup f_24 = some ⟨oc_24, od_24, .func (PySem.W.fnOf "_law_table" "_law_table" (defArgs s__law_table) (defBody s__law_table) (defScope s__law_table) .none kV_24 dc_24 pm_24 an_24 cd_24 ct_24), sl_24⟩) (c_24 : PySem.W.codeIn K cd_24 "_law_table" = true) (k_24 : PySem.W.keepIn K (.ref f_24) = true)
    (a_25 : PySem.W.nsIn K mainGlobals "_law_pairs" = some (some (.ref f_25))) (l_25 : K.lookup f_25 = some ⟨oc_25, od_25, .func (PySem.W.fnOf "_law_pairs" "_law_pairs" (defArgs s__law_pairs) (defBody s__law_pairs) (defScope s__law_pairs) .none kV_25 dc_25 pm_25 an_25 cd_25 ct_25), sl_25⟩) (c_25 : PySem.W.codeIn K cd_25 "_law_pairs" = true) (k_25 : PySem.W.keepIn K (.ref f_25) = true)
    (a_26 : PySem.W.nsIn K mainGlobals "_law_hunks" = some (some (.ref f_26))) (l_26 : K.lookup f_26 = some ⟨oc_26, od_26, .func (PySem.W.fnOf "_law_hunks" "_law_hunks" (defArgs s__law_hunks) (defBody s__law_hunks) (defScope s__law_hunks) .none kV_26 dc_26 pm_26 an_26 cd_26 ct_26), sl_26⟩) (c_26 : PySem.W.codeIn K cd_26 "_law_hunks" = true) (k_26 : PySem.W.keepIn K (.ref f_26) = true)
    (a_27 : PySem.W.nsIn K mainGlobals "_law_apply" = some (some (.ref f_27))) (l_27 : K.lookup f_27 = some ⟨oc_27, od_27, .func (PySem.W.fnOf "_law_apply" "_law_apply" (defArgs s__law_apply) (defBody s__law_apply) (defScope s__law_apply) .none kV_27 dc_27 pm_27 an_27 cd_27 ct_27), sl_27⟩) (c_27 : PySem.W.codeIn K cd_27 "_law_apply" = true) (k_27 : PySem.W.keepIn K (.ref f_27) = true)
    (a_28 : PySem.W.nsIn K mainGlobals "_law_change" = some (some (.ref f_28))) (l_28 : K.lookup f_28 = some ⟨oc_28, od_28, .func (PySem.W.fnOf "_law_change" "_law_change" (defArgs s__law_change) (defBody s__law_change) (defScope s__law_change) .none kV_28 dc_28 pm_28 an_28 cd_28 ct_28), sl_28⟩) (c_28 : PySem.W.codeIn K cd_28 "_law_change" = true) (k_28 : PySem.W.keepIn K (.ref f_28) = true)
    (a_29 : PySem.W.nsIn K mainGlobals "_law_touch" = some (some (.ref f_29))) (l_29 : K.lookup f_29 = some ⟨oc_29, od_29, .func (PySem.W.fnOf "_law_touch" "_law_touch" (defArgs s__law_touch) (defBody s__law_touch) (defScope s__law_touch) .none kV_29 dc_29 pm_29 an_29 cd_29 ct_29), sl_29⟩) (c_29 : PySem.W.codeIn K cd_29 "_law_touch" = true) (k_29 : PySem.W.keepIn K (.ref f_29) = true)
    (a_30 : PySem.W.nsIn K mainGlobals "_law_told" = some (some (.ref f_30))) (l_30 : K.lookup f_30 = some ⟨oc_30, od_30, .func (PySem.W.fnOf "_law_told" "_law_told" (defArgs s__law_told) (defBody s__law_told) (defScope s__law_told) .none kV_30 dc_30 pm_30 an_30 cd_30 ct_30), sl_30⟩) (c_30 : PySem.W.codeIn K cd_30 "_law_told" = true) (k_30 : PySem.W.keepIn K (.ref f_30) = true)
    (a_31 : PySem.W.nsIn K mainGlobals "_law_fits" = some (some (.ref f_31))) (l_31 : K.lookup f_31 = some ⟨oc_31, od_31, .func (PySem.W.fnOf "_law_fits" "_law_fits" (defArgs s__law_fits) (defBody s__law_fits) (defScope s__law_fits) .none kV_31 dc_31 pm_31 an_31 cd_31 ct_31), sl_31⟩) (c_31 : PySem.W.codeIn K cd_31 "_law_fits" = true) (k_31 : PySem.W.keepIn K (.ref f_31) = true)
    (a_32 : PySem.W.nsIn K mainGlobals "_law_back" = some (some (.ref f_32))) (l_32 : K.lookup f_32 = some ⟨oc_32, od_32, .func (PySem.W.fnOf "_law_back" "_law_back" (defArgs s__law_back) (defBody s__law_back) (defScope s__law_back) .none kV_32 dc_32 pm_32 an_32 cd_32 ct_32), sl_32⟩) (c_32 : PySem.W.codeIn K cd_32 "_law_back" = true) (k_32 : PySem.W.keepIn K (.ref f_32) = true)
    (a_33 : PySem.W.nsIn K mainGlobals "_law_places" = some (some (.ref f_33))) (l_33 : K.lookup f_33 = some ⟨oc_33, od_33, .func (PySem.W.fnOf "_law_places" "_law_places" (defArgs s__law_places) (defBody s__law_places) (defScope s__law_places) .none kV_33 dc_33 pm_33 an_33 cd_33 ct_33), sl_33⟩) (c_33 : PySem.W.codeIn K cd_33 "_law_places" = true) (k_33 : PySem.W.keepIn K (.ref f_33) = true)
    (a_34 : PySem.W.nsIn K mainGlobals "_law_two" = some (some (.ref f_34))) (l_34 : K.lookup f_34 = some ⟨oc_34, od_34, .func (PySem.W.fnOf "_law_two" "_law_two" (defArgs s__law_two) (defBody s__law_two) (defScope s__law_two) .none kV_34 dc_34 pm_34 an_34 cd_34 ct_34), sl_34⟩) (c_34 : PySem.W.codeIn K cd_34 "_law_two" = true) (k_34 : PySem.W.keepIn K (.ref f_34) = true)
    (a_35 : PySem.W.nsIn K mainGlobals "_law_spans" = some (some (.ref f_35))) (l_35 : K.lookup f_35 = some ⟨oc_35, od_35, .func (PySem.W.fnOf "_law_spans" "_law_spans" (defArgs s__law_spans) (defBody s__law_spans) (defScope s__law_spans) .none kV_35 dc_35 pm_35 an_35 cd_35 ct_35), sl_35⟩) (c_35 : PySem.W.codeIn K cd_35 "_law_spans" = true) (k_35 : PySem.W.keepIn K (.ref f_35) = true)
    (a_36 : PySem.W.nsIn K mainGlobals "law" = some (some (.ref f_36))) (l_36 : K.lookup f_36 = some ⟨oc_36, od_36, .func (PySem.W.fnOf "law" "law" (defArgs s_law) (defBody s_law) (defScope s_law) .none kV_36 dc_36 pm_36 an_36 cd_36 ct_36), sl_36⟩) (c_36 : PySem.W.codeIn K cd_36 "law" = true) (k_36 : PySem.W.keepIn K (.ref f_36) = true)
    (gC : PySem.W.nsIn K mainGlobals "TooLarge" = some (some (.ref C))) (xC : PySem.W.excIn K C [.type "ValueError", .type "Exception", .type "BaseException", .type "object"] "ValueError.__new__" = true) (kC : PySem.W.keepIn K (.ref C) = true) (sC : PySem.W.subIn K (.ref C) (.type "BaseException") = some true) (tC : PySem.W.typeIn K (.ref C) = some (.type "type"))
    {tM : Tok} (gM : PySem.W.nsIn K mainGlobals "MOST_PLACES" = some (some (.int 40000 tM)))
    (lI : K.lookup cI = some ⟨ocI, odI, .fields vsI, slI⟩) (eI : vsI[11]? = some (.ref Pt)) (nI : K.lookup Pt = none)
    {nmC qC : Str} {NC : Addr} {bsC bmC : List Value} {snC : List Str} {subC : List Value} {abC : Bool} {colC : Option Bool} {ddC : Option Addr} {m0 m1 m2 m3 m5 : Option Value}
    {ocF dcF pmF ctF cclF clF : Value} {odF anF cddF cldF : Option Addr} {slF ccsF cslF : Array (Option Value)} {vsF : Array Value} {fileF : Str} {tfF : Tok} {aCd aCc : Addr}
    (gX : PySem.W.nsIn K mainGlobals "Conflict" = some (some (.ref CC)))
    (xX : K.lookup CC = some (PySem.excClassObj nmC qC CC NC bsC bmC true snC subC abC colC ddC m0 m1 m2 m3 m5 "ValueError.__new__")) (rX : PySem.HandSPX.refsVE bmC = true)
    (saX : PySem.W.findIn K (.ref CC) "__setattr__" = some (some (.builtin "object.__setattr__"))) (gaX : PySem.W.findIn K (.ref CC) "__getattribute__" = some (some (.builtin "BaseException.__getattribute__"))) (ggX : PySem.W.findIn K (.ref CC) "__getattr__" = some none) (nbX : PySem.W.findIn K (.ref CC) "paths" = some none)
    (inX : PySem.W.findIn K (.ref CC) "__init__" = some (some (.ref fI))) (tiX : PySem.W.typeIn K (.ref fI) = some (.type "function")) (kX : PySem.W.keepIn K (.ref CC) = true) (eX : PySem.W.subIn K (.ref CC) (.type "BaseException") = some true) (vX : PySem.W.subIn K (.ref CC) (.type "ValueError") = some true) (sX : PySem.W.subIn K (.ref CC) (.ref CC) = some true)
    (tX : PySem.W.typeIn K (.ref CC) = some (.type "type")) (hX : PySem.W.hasDictIn K CC = true) (iX : PySem.W.isClsIn K CC = true) (z_super : PySem.W.nsIn K mainGlobals "super" = some none) (tpX : PySem.W.nsIn K cStatics "thirdparty.any" = some none)
    (alX : PySem.W.ks_superIn K CC CC "__init__" = some (some (.builtin "ValueError.__init__"))) (htX : (l.prog.main.scope.names.lookup ("super" : Str)).isSome = false)
    (lF : K.lookup fI = some ⟨ocF, odF, .func (PySem.W.fnX "__init__" "Conflict.__init__" PySem.CfX.iA PySem.CfX.iB PySem.CfX.iS [("__class__", aCc)] .none .none dcF pmF anF (.ref aCd) ctF), slF⟩) (cF : PySem.W.codeIn K (.ref aCd) "Conflict.__init__" = true)
    (lG : K.lookup aCd = some ⟨cclF, cddF, .fields vsF, ccsF⟩) (eG : vsF[2]? = some (.str fileF tfF)) (fG : ((l.prog.main.file : Str) == fileF) = true)
    (lH : K.lookup aCc = some ⟨clF, cldF, .cell (some (.ref CC)), cslF⟩)
    (gV : PySem.W.nsIn K mainGlobals "VersionkeptError" = some (some (.ref CV))) (kV : PySem.W.kitOne K (.ref CC) (.ref CV) = some true)
    (haX : PySem.W.findIn K (.ref CC) "__class__" = some (some (.builtin "object.__class__"))) (hnX : PySem.W.specialIn K (.builtin "object.__class__") "__get__" = some (some (.builtin "getset_descriptor.__get__"))) (htkX : PySem.W.takesIn K (.builtin "object.__class__") = some true) (hmX : PySem.W.mroIn K CC (.type "object") = some true)
    (z_len : PySem.W.nsIn K mainGlobals "len" = some none) (z_int : PySem.W.nsIn K mainGlobals "int" = some none) (z_range : PySem.W.nsIn K mainGlobals "range" = some none) (z_tuple : PySem.W.nsIn K mainGlobals "tuple" = some none) (z_list : PySem.W.nsIn K mainGlobals "list" = some none) (z_min : PySem.W.nsIn K mainGlobals "min" = some none) (z_max : PySem.W.nsIn K mainGlobals "max" = some none) (z_enumerate : PySem.W.nsIn K mainGlobals "enumerate" = some none) (z_sorted : PySem.W.nsIn K mainGlobals "sorted" = some none) (z_all : PySem.W.nsIn K mainGlobals "all" = some none) (z_any : PySem.W.nsIn K mainGlobals "any" = some none) (z_sum : PySem.W.nsIn K mainGlobals "sum" = some none) (z_isinstance : PySem.W.nsIn K mainGlobals "isinstance" = some none) (z_str : PySem.W.nsIn K mainGlobals "str" = some none) (z_bool : PySem.W.nsIn K mainGlobals "bool" = some none)
    (tab : ∀ c P : Addr, PySem.W.tabIn K "is_patch" = some (c, P) → PySem.W.CodeHd h c P ∧ h.get? P = some { cls := .none, data := .fields #[] }) : LamX.LawAtS l w K CX0 5 63 "script" mg fa h := by
  have e := hfa.symm.trans (PySem.W.mg_of X G a_36)
  cases e
  obtain ⟨hC, hT⟩ := tab cI Pt (tabIn_mk (st := s_is_patch) a_4 l_4 lI eI)
  have T0 : Txt0 mg := ⟨PySem.W.mg_none_of X G z_len, PySem.W.mg_none_of X G z_int, PySem.W.mg_none_of X G z_range, PySem.W.mg_none_of X G z_tuple, PySem.W.mg_none_of X G z_list, PySem.W.mg_none_of X G z_min, PySem.W.mg_none_of X G z_max, PySem.W.mg_none_of X G z_enumerate⟩
  have T : PySem.CfX.CfTxt l.prog K mg CC fI :=
    { gC := PySem.W.mg_of X G gX, cls := ⟨nmC, qC, NC, bsC, bmC, snC, subC, abC, colC, ddC, m0, m1, m2, m3, m5, xX, rX⟩, sa := saX, ga := gaX, gg := ggX, noN := nbX, iC := inX, tC := tiX, kC := kX, exC := eX, hB := vX, hCC := sX, tyC := tX, hdC := hX, te := exm_selfK eX iX tX sX, sup := PySem.W.mg_none_of X G z_super, tp := tpX, along := alX, htop := htX,
      fn := ⟨_, _, _, _, _, _, _, _, _, lF, cF, ⟨_, _, _, _, _, _, lG, eG, fG⟩, ⟨_, _, _, lH⟩⟩ }
  have F_0 := fun_mk (st := s_common_table) l_0 c_0 k_0
  have D_0 : Df K mg "common_table" s_common_table ["one", "two"] f_0 _ := ⟨F_0, PySem.W.mg_of X G a_0, F_0.binds fun _ _ _ _ _ _ us hl => match us, hl with | [_, _], _ => rfl⟩
  have F_1 := fun_mk (st := s_kept_pairs) l_1 c_1 k_1
  have D_1 : Df K mg "kept_pairs" s_kept_pairs ["one", "two"] f_1 _ := ⟨F_1, PySem.W.mg_of X G a_1, F_1.binds fun _ _ _ _ _ _ us hl => match us, hl with | [_, _], _ => rfl⟩
  have F_2 := fun_mk (st := s_next_pair) l_2 c_2 k_2
  have D_2 : Df K mg "next_pair" s_next_pair ["one", "two", "table", "place"] f_2 _ := ⟨F_2, PySem.W.mg_of X G a_2, F_2.binds fun _ _ _ _ _ _ us hl => match us, hl with | [_, _, _, _], _ => rfl⟩
  have F_3 := fun_mk (st := s_hunks_of) l_3 c_3 k_3
  have D_3 : Df K mg "hunks_of" s_hunks_of ["one", "two"] f_3 _ := ⟨F_3, PySem.W.mg_of X G a_3, F_3.binds fun _ _ _ _ _ _ us hl => match us, hl with | [_, _], _ => rfl⟩
  have F_4 := funC_mk (st := s_is_patch) l_4 c_4 k_4
  have F_5 := fun_mk (st := s_patch_between) l_5 c_5 k_5
  have D_5 : Df K mg "patch_between" s_patch_between ["one", "two"] f_5 _ := ⟨F_5, PySem.W.mg_of X G a_5, F_5.binds fun _ _ _ _ _ _ us hl => match us, hl with | [_, _], _ => rfl⟩
  have F_6 := fun_mk (st := s_put_on) l_6 c_6 k_6
  have D_6 : Df K mg "put_on" s_put_on ["lines", "patch"] f_6 _ := ⟨F_6, PySem.W.mg_of X G a_6, F_6.binds fun _ _ _ _ _ _ us hl => match us, hl with | [_, _], _ => rfl⟩
  have F_7 := fun_mk (st := s_turned_back) l_7 c_7 k_7
  have D_7 : Df K mg "turned_back" s_turned_back ["patch"] f_7 _ := ⟨F_7, PySem.W.mg_of X G a_7, F_7.binds fun _ _ _ _ _ _ us hl => match us, hl with | [_], _ => rfl⟩
  have F_8 := fun_mk (st := s_growth) l_8 c_8 k_8
  have D_8 : Df K mg "growth" s_growth ["patch"] f_8 _ := ⟨F_8, PySem.W.mg_of X G a_8, F_8.binds fun _ _ _ _ _ _ us hl => match us, hl with | [_], _ => rfl⟩
  have F_9 := fun_mk (st := s_place_after) l_9 c_9 k_9
  have D_9 : Df K mg "place_after" s_place_after ["patch", "place"] f_9 _ := ⟨F_9, PySem.W.mg_of X G a_9, F_9.binds fun _ _ _ _ _ _ us hl => match us, hl with | [_, _], _ => rfl⟩
  have F_10 := fun_mk (st := s_line_after) l_10 c_10 k_10
  have D_10 : Df K mg "line_after" s_line_after ["patch", "place"] f_10 _ := ⟨F_10, PySem.W.mg_of X G a_10, F_10.binds fun _ _ _ _ _ _ us hl => match us, hl with | [_, _], _ => rfl⟩
  have F_11 := fun_mk (st := s_do_touch) l_11 c_11 k_11
  have D_11 : Df K mg "do_touch" s_do_touch ["one", "two"] f_11 _ := ⟨F_11, PySem.W.mg_of X G a_11, F_11.binds fun _ _ _ _ _ _ us hl => match us, hl with | [_, _], _ => rfl⟩
  have F_12 := fun_mk (st := s_carried) l_12 c_12 k_12
  have D_12 : Df K mg "carried" s_carried ["patch", "over"] f_12 _ := ⟨F_12, PySem.W.mg_of X G a_12, F_12.binds fun _ _ _ _ _ _ us hl => match us, hl with | [_, _], _ => rfl⟩
  have F_13 := fun_mk (st := s_both) l_13 c_13 k_13
  have D_13 : Df K mg "both" s_both ["one", "two"] f_13 _ := ⟨F_13, PySem.W.mg_of X G a_13, F_13.binds fun _ _ _ _ _ _ us hl => match us, hl with | [_, _], _ => rfl⟩
  have F_14 := fun_mk (st := s_commuted) l_14 c_14 k_14
  have D_14 : Df K mg "commuted" s_commuted ["first", "second"] f_14 _ := ⟨F_14, PySem.W.mg_of X G a_14, F_14.binds fun _ _ _ _ _ _ us hl => match us, hl with | [_, _], _ => rfl⟩
  have F_15 := fun_mk (st := s_joined) l_15 c_15 k_15
  have D_15 : Df K mg "joined" s_joined ["first", "second"] f_15 _ := ⟨F_15, PySem.W.mg_of X G a_15, F_15.binds fun _ _ _ _ _ _ us hl => match us, hl with | [_, _], _ => rfl⟩
  have F_16 := fun_mk (st := s_spans_between) l_16 c_16 k_16
  have D_16 : Df K mg "spans_between" s_spans_between ["one", "two"] f_16 _ := ⟨F_16, PySem.W.mg_of X G a_16, F_16.binds fun _ _ _ _ _ _ us hl => match us, hl with | [_, _], _ => rfl⟩
  have F_17 := fun_mk (st := s_within) l_17 c_17 k_17
  have D_17 : Df K mg "within" s_within ["patch", "low", "high"] f_17 _ := ⟨F_17, PySem.W.mg_of X G a_17, F_17.binds fun _ _ _ _ _ _ us hl => match us, hl with | [_, _, _], _ => rfl⟩
  have F_18 := fun_mk (st := s_lines_between) l_18 c_18 k_18
  have D_18 : Df K mg "lines_between" s_lines_between ["hunks", "low", "high"] f_18 _ := ⟨F_18, PySem.W.mg_of X G a_18, F_18.binds fun _ _ _ _ _ _ us hl => match us, hl with | [_, _, _], _ => rfl⟩
  have F_19 := fun_mk (st := s_rewritten) l_19 c_19 k_19
  have D_19 : Df K mg "rewritten" s_rewritten ["lines", "low", "hunks"] f_19 _ := ⟨F_19, PySem.W.mg_of X G a_19, F_19.binds fun _ _ _ _ _ _ us hl => match us, hl with | [_, _, _], _ => rfl⟩
  have F_20 := fun_mk (st := s_all_joined) l_20 c_20 k_20
  have D_20 : Df K mg "all_joined" s_all_joined ["patches"] f_20 _ := ⟨F_20, PySem.W.mg_of X G a_20, F_20.binds fun _ _ _ _ _ _ us hl => match us, hl with | [_], _ => rfl⟩
  have F_21 := fun_mk (st := s_count_changed) l_21 c_21 k_21
  have D_21 : Df K mg "count_changed" s_count_changed ["patch"] f_21 _ := ⟨F_21, PySem.W.mg_of X G a_21, F_21.binds fun _ _ _ _ _ _ us hl => match us, hl with | [_], _ => rfl⟩
  have F_22 := fun_mk (st := s__law_draw) l_22 c_22 k_22
  have D_22 : Df K mg "_law_draw" s__law_draw ["state", "limit"] f_22 _ := ⟨F_22, PySem.W.mg_of X G a_22, F_22.binds fun _ _ _ _ _ _ us hl => match us, hl with | [_, _], _ => rfl⟩
  have F_23 := fun_mk (st := s__law_lines) l_23 c_23 k_23
  have D_23 : Df K mg "_law_lines" s__law_lines ["state", "many"] f_23 _ := ⟨F_23, PySem.W.mg_of X G a_23, F_23.binds fun _ _ _ _ _ _ us hl => match us, hl with | [_, _], _ => rfl⟩
  have F_24 := fun_mk (st := s__law_table) l_24 c_24 k_24
  have D_24 : Df K mg "_law_table" s__law_table ["one", "two"] f_24 _ := ⟨F_24, PySem.W.mg_of X G a_24, F_24.binds fun _ _ _ _ _ _ us hl => match us, hl with | [_, _], _ => rfl⟩
  have F_25 := fun_mk (st := s__law_pairs) l_25 c_25 k_25
  have D_25 : Df K mg "_law_pairs" s__law_pairs ["one", "two"] f_25 _ := ⟨F_25, PySem.W.mg_of X G a_25, F_25.binds fun _ _ _ _ _ _ us hl => match us, hl with | [_, _], _ => rfl⟩
  have F_26 := fun_mk (st := s__law_hunks) l_26 c_26 k_26
  have D_26 : Df K mg "_law_hunks" s__law_hunks ["one", "two"] f_26 _ := ⟨F_26, PySem.W.mg_of X G a_26, F_26.binds fun _ _ _ _ _ _ us hl => match us, hl with | [_, _], _ => rfl⟩
  have F_27 := fun_mk (st := s__law_apply) l_27 c_27 k_27
  have D_27 : Df K mg "_law_apply" s__law_apply ["lines", "patch"] f_27 _ := ⟨F_27, PySem.W.mg_of X G a_27, F_27.binds fun _ _ _ _ _ _ us hl => match us, hl with | [_, _], _ => rfl⟩
  have F_28 := fun_mk (st := s__law_change) l_28 c_28 k_28
  have D_28 : Df K mg "_law_change" s__law_change ["state", "lines"] f_28 _ := ⟨F_28, PySem.W.mg_of X G a_28, F_28.binds fun _ _ _ _ _ _ us hl => match us, hl with | [_, _], _ => rfl⟩
  have F_29 := fun_mk (st := s__law_touch) l_29 c_29 k_29
  have D_29 : Df K mg "_law_touch" s__law_touch ["one", "two"] f_29 _ := ⟨F_29, PySem.W.mg_of X G a_29, F_29.binds fun _ _ _ _ _ _ us hl => match us, hl with | [_, _], _ => rfl⟩
  have F_30 := fun_mk (st := s__law_told) l_30 c_30 k_30
  have D_30 : Df K mg "_law_told" s__law_told ["lines", "patch"] f_30 _ := ⟨F_30, PySem.W.mg_of X G a_30, F_30.binds fun _ _ _ _ _ _ us hl => match us, hl with | [_, _], _ => rfl⟩
  have F_31 := fun_mk (st := s__law_fits) l_31 c_31 k_31
  have D_31 : Df K mg "_law_fits" s__law_fits ["lines", "patch"] f_31 _ := ⟨F_31, PySem.W.mg_of X G a_31, F_31.binds fun _ _ _ _ _ _ us hl => match us, hl with | [_, _], _ => rfl⟩
  have F_32 := fun_mk (st := s__law_back) l_32 c_32 k_32
  have D_32 : Df K mg "_law_back" s__law_back ["patch"] f_32 _ := ⟨F_32, PySem.W.mg_of X G a_32, F_32.binds fun _ _ _ _ _ _ us hl => match us, hl with | [_], _ => rfl⟩
  have F_33 := fun_mk (st := s__law_places) l_33 c_33 k_33
  have D_33 : Df K mg "_law_places" s__law_places ["patch", "many"] f_33 _ := ⟨F_33, PySem.W.mg_of X G a_33, F_33.binds fun _ _ _ _ _ _ us hl => match us, hl with | [_, _], _ => rfl⟩
  have F_34 := fun_mk (st := s__law_two) l_34 c_34 k_34
  have D_34 : Df K mg "_law_two" s__law_two ["lines", "one", "two"] f_34 _ := ⟨F_34, PySem.W.mg_of X G a_34, F_34.binds fun _ _ _ _ _ _ us hl => match us, hl with | [_, _, _], _ => rfl⟩
  have F_35 := fun_mk (st := s__law_spans) l_35 c_35 k_35
  have D_35 : Df K mg "_law_spans" s__law_spans ["hunks"] f_35 _ := ⟨F_35, PySem.W.mg_of X G a_35, F_35.binds fun _ _ _ _ _ _ us hl => match us, hl with | [_], _ => rfl⟩
  have F_36 := fun_mk (st := s_law) l_36 c_36 k_36
  have D_4 : DfC K mg "is_patch" s_is_patch ["value"] f_4 cI _ := ⟨F_4, PySem.W.mg_of X G a_4, .all fun us hl => match us, hl with | [_], _ => rfl⟩
  refine ⟨_, [(cI, Pt)], spLaw K Pt, fun p hp => ?_, fun p hp => ?_, fun p hp => ?_, fun s u => .of_eq (fd := PySem.W.fnOf "law" "law" (defArgs s_law) (defBody s_law) (defScope s_law) .none kV_36 dc_36 pm_36 an_36 cd_36 ct_36) rfl, fun H a ns hl hb hH hS => ⟨a, ns, rfl, hS, ⟨#[], hH (cI, Pt) (List.mem_singleton.mpr rfl), trivial⟩, fun _ => rfl⟩, fun base hK hg hTB => ?_⟩
  · rw [List.mem_singleton.mp hp]
    exact hT
  · rw [List.mem_singleton.mp hp]
    exact nI
  · rw [List.mem_singleton.mp hp]
    exact hC
  · exact ok_law F_36 T0 (PySem.W.mg_none_of X G z_sorted) (PySem.W.mg_none_of X G z_all) (PySem.W.mg_none_of X G z_any) (PySem.W.mg_none_of X G z_sum) (PySem.W.mg_none_of X G z_isinstance) (PySem.W.mg_none_of X G z_str) (PySem.W.mg_none_of X G z_bool) ⟨PySem.W.mg_of X G gC, xC, kC, sC, tC⟩ (PySem.W.mg_of X G gM) T ⟨gaX, ggX, eX, hX, haX, hnX, htkX, hmX⟩ (PySem.W.mg_of X G gV) kV (tabB_of (hTB (cI, Pt) (List.mem_singleton.mpr rfl)))
      D_0 D_1 D_2 D_3 D_4 D_5 D_6 D_7 D_8 D_9 D_10 D_11 D_12 D_13 D_14 D_15 D_16 D_17 D_18 D_19 D_20 D_21 D_22 D_23 D_24 D_25 D_26 D_27 D_28 D_29 D_30 D_31 D_32 D_33 D_34 D_35
end VK
end

section
set_option Elab.async false
set_option linter.all false
set_option maxRecDepth 100000
open PySem PySem.W PyProof.Rows
set_option maxHeartbeats 0 in
theorem PySem.Challenge.cw_versionkept_k04_patches_that_are_joined_holds : PySem.Challenge.rw_versionkept_k04_patches_that_are_joined.Holds := by
  w_on; o_law; k_head; (case hw => w_witness2)
  k_fill
  refine LamX.walk_ofTsP (l := PySem.Challenge.rw_versionkept_k04_patches_that_are_joined) (n := 63) (k := 5) (x := "script") (nmI := "is_patch") (CX := fun _ => L2.CX0) rfl (by decide) rfl ⟨rfl, by decide, by decide⟩ (by rfl) (fun w h Y => PySem.W.kIn_of Y) ?F (fun _ _ _ _ _ z => z)
  case F =>
    intro w mg fa h Y KX G hmg tab
    refine' VK.all_mk KX G hmg ?a_0 ?l_0 ?c_0 ?k_0 ?a_1 ?l_1 ?c_1 ?k_1 ?a_2 ?l_2 ?c_2 ?k_2 ?a_3 ?l_3 ?c_3 ?k_3 ?a_4 ?l_4 ?c_4 ?k_4 ?a_5 ?l_5 ?c_5 ?k_5 ?a_6 ?l_6 ?c_6 ?k_6 ?a_7 ?l_7 ?c_7 ?k_7 ?a_8 ?l_8 ?c_8 ?k_8 ?a_9 ?l_9 ?c_9 ?k_9 ?a_10 ?l_10 ?c_10 ?k_10 ?a_11 ?l_11 ?c_11 ?k_11 ?a_12 ?l_12 ?c_12 ?k_12 ?a_13 ?l_13 ?c_13 ?k_13 ?a_14 ?l_14 ?c_14 ?k_14 ?a_15 ?l_15 ?c_15 ?k_15 ?a_16 ?l_16 ?c_16 ?k_16 ?a_17 ?l_17 ?c_17 ?k_17 ?a_18 ?l_18 ?c_18 ?k_18 ?a_19 ?l_19 ?c_19 ?k_19 ?a_20 ?l_20 ?c_20 ?k_20 ?a_21 ?l_21 ?c_21 ?k_21 ?a_22 ?l_22 ?c_22 ?k_22 ?a_23 ?l_23 ?c_23 ?k_23 ?a_24 ?l_24 ?c_24 ?k_24 ?a_25 ?l_25 ?c_25 ?k_25 ?a_26 ?l_26 ?c_26 ?k_26 ?a_27 ?l_27 ?c_27 ?k_27 ?a_28 ?l_28 ?c_28 ?k_28 ?a_29 ?l_29 ?c_29 ?k_29 ?a_30 ?l_30 ?c_30 ?k_30 ?a_31 ?l_31 ?c_31 ?k_31 ?a_32 ?l_32 ?c_32 ?k_32 ?a_33 ?l_33 ?c_33 ?k_33 ?a_34 ?l_34 ?c_34 ?k_34 ?a_35 ?l_35 ?c_35 ?k_35 ?a_36 ?l_36 ?c_36 ?k_36 ?gC ?xC ?kC ?sC ?tC ?gM ?lI ?eI ?nI ?gX ?xX ?rX ?saX ?gaX ?ggX ?nbX ?inX ?tiX ?kX ?eX ?vX ?sX ?tX ?hX ?iX ?z_super ?tpX ?alX ?htX ?lF ?cF ?lG ?eG ?fG ?lH ?gV ?kV ?haX ?hnX ?htkX ?hmX ?z_len ?z_int ?z_range ?z_tuple ?z_list ?z_min ?z_max ?z_enumerate ?z_sorted ?z_all ?z_any ?z_sum ?z_isinstance ?z_str ?z_bool tab
    (case a_0 => first | k_is | rfl)
    (case l_0 => first | k_is | rfl)
    (case c_0 => first | k_is | rfl)
    (case k_0 => first | k_is | rfl)
    (case a_1 => first | k_is | rfl)
    (case l_1 => first | k_is | rfl)
    (case c_1 => first | k_is | rfl)
    (case k_1 => first | k_is | rfl)
    (case a_2 => first | k_is | rfl)
    (case l_2 => first | k_is | rfl)
    (case c_2 => first | k_is | rfl)
    (case k_2 => first | k_is | rfl)
    (case a_3 => first | k_is | rfl)
    (case l_3 => first | k_is | rfl)
    (case c_3 => first | k_is | rfl)
    (case k_3 => first | k_is | rfl)
    (case a_4 => first | k_is | rfl)
    (case l_4 => first | k_is | rfl)
    (case c_4 => first | k_is | rfl)
    (case k_4 => first | k_is | rfl)
    (case a_5 => first | k_is | rfl)
    (case l_5 => first | k_is | rfl)
    (case c_5 => first | k_is | rfl)
    (case k_5 => first | k_is | rfl)
    (case a_6 => first | k_is | rfl)
    (case l_6 => first | k_is | rfl)
    (case c_6 => first | k_is | rfl)
    (case k_6 => first | k_is | rfl)
    (case a_7 => first | k_is | rfl)
    (case l_7 => first | k_is | rfl)
    (case c_7 => first | k_is | rfl)
    (case k_7 => first | k_is | rfl)
    (case a_8 => first | k_is | rfl)
    (case l_8 => first | k_is | rfl)
    (case c_8 => first | k_is | rfl)
    (case k_8 => first | k_is | rfl)
    (case a_9 => first | k_is | rfl)
    (case l_9 => first | k_is | rfl)
    (case c_9 => first | k_is | rfl)
    (case k_9 => first | k_is | rfl)
    (case a_10 => first | k_is | rfl)
    (case l_10 => first | k_is | rfl)
    (case c_10 => first | k_is | rfl)
    (case k_10 => first | k_is | rfl)
    (case a_11 => first | k_is | rfl)
    (case l_11 => first | k_is | rfl)
    (case c_11 => first | k_is | rfl)
    (case k_11 => first | k_is | rfl)
    (case a_12 => first | k_is | rfl)
    (case l_12 => first | k_is | rfl)
    (case c_12 => first | k_is | rfl)
    (case k_12 => first | k_is | rfl)
    (case a_13 => first | k_is | rfl)
    (case l_13 => first | k_is | rfl)
    (case c_13 => first | k_is | rfl)
    (case k_13 => first | k_is | rfl)
    (case a_14 => first | k_is | rfl)
    (case l_14 => first | k_is | rfl)
    (case c_14 => first | k_is | rfl)
    (case k_14 => first | k_is | rfl)
    (case a_15 => first | k_is | rfl)
    (case l_15 => first | k_is | rfl)
    (case c_15 => first | k_is | rfl)
    (case k_15 => first | k_is | rfl)
    (case a_16 => first | k_is | rfl)
    (case l_16 => first | k_is | rfl)
    (case c_16 => first | k_is | rfl)
    (case k_16 => first | k_is | rfl)
    (case a_17 => first | k_is | rfl)
    (case l_17 => first | k_is | rfl)
    (case c_17 => first | k_is | rfl)
    (case k_17 => first | k_is | rfl)
    (case a_18 => first | k_is | rfl)
    (case l_18 => first | k_is | rfl)
    (case c_18 => first | k_is | rfl)
    (case k_18 => first | k_is | rfl)
    (case a_19 => first | k_is | rfl)
    (case l_19 => first | k_is | rfl)
    (case c_19 => first | k_is | rfl)
    (case k_19 => first | k_is | rfl)
    (case a_20 => first | k_is | rfl)
    (case l_20 => first | k_is | rfl)
    (case c_20 => first | k_is | rfl)
    (case k_20 => first | k_is | rfl)
    (case a_21 => first | k_is | rfl)
    (case l_21 => first | k_is | rfl)
    (case c_21 => first | k_is | rfl)
    (case k_21 => first | k_is | rfl)
    (case a_22 => first | k_is | rfl)
    (case l_22 => first | k_is | rfl)
    (case c_22 => first | k_is | rfl)
    (case k_22 => first | k_is | rfl)
    (case a_23 => first | k_is | rfl)
    (case l_23 => first | k_is | rfl)
    (case c_23 => first | k_is | rfl)
    (case k_23 => first | k_is | rfl)
    (case a_24 => first | k_is | rfl)
    (case l_24 => first | k_is | rfl)
    (case c_24 => first | k_is | rfl)
    (case k_24 => first | k_is | rfl)
    (case a_25 => first | k_is | rfl)
    (case l_25 => first | k_is | rfl)
    (case c_25 => first | k_is | rfl)
    (case k_25 => first | k_is | rfl)
    (case a_26 => first | k_is | rfl)
    (case l_26 => first | k_is | rfl)
    (case c_26 => first | k_is | rfl)
    (case k_26 => first | k_is | rfl)
    (case a_27 => first | k_is | rfl)
    (case l_27 => first | k_is | rfl)
    (case c_27 => first | k_is | rfl)
    (case k_27 => first | k_is | rfl)
    (case a_28 => first | k_is | rfl)
    (case l_28 => first | k_is | rfl)
    (case c_28 => first | k_is | rfl)
    (case k_28 => first | k_is | rfl)
    (case a_29 => first | k_is | rfl)
    (case l_29 => first | k_is | rfl)
    (case c_29 => first | k_is | rfl)
    (case k_29 => first | k_is | rfl)
    (case a_30 => first | k_is | rfl)
    (case l_30 => first | k_is | rfl)
    (case c_30 => first | k_is | rfl)
    (case k_30 => first | k_is | rfl)
    (case a_31 => first | k_is | rfl)
    (case l_31 => first | k_is | rfl)
    (case c_31 => first | k_is | rfl)
    (case k_31 => first | k_is | rfl)
    (case a_32 => first | k_is | rfl)
    (case l_32 => first | k_is | rfl)
    (case c_32 => first | k_is | rfl)
    (case k_32 => first | k_is | rfl)
    (case a_33 => first | k_is | rfl)
    (case l_33 => first | k_is | rfl)
    (case c_33 => first | k_is | rfl)
    (case k_33 => first | k_is | rfl)
    (case a_34 => first | k_is | rfl)
    (case l_34 => first | k_is | rfl)
    (case c_34 => first | k_is | rfl)
    (case k_34 => first | k_is | rfl)
    (case a_35 => first | k_is | rfl)
    (case l_35 => first | k_is | rfl)
    (case c_35 => first | k_is | rfl)
    (case k_35 => first | k_is | rfl)
    (case a_36 => first | k_is | rfl)
    (case l_36 => first | k_is | rfl)
    (case c_36 => first | k_is | rfl)
    (case k_36 => first | k_is | rfl)
    (case gC => first | k_is | rfl)
    (case xC => first | kernel_rfl | rfl)
    (case kC => first | k_is | rfl)
    (case sC => first | k_is | rfl)
    (case tC => first | k_is | rfl)
    (case gM => first | k_is | rfl)
    (case lI => first | k_is | rfl)
    (case eI => first | rfl | decide +kernel)
    (case nI => first | rfl | kernel_rfl)
    (case gX => first | k_is | rfl)
    (case xX => first | k_is | rfl)
    (case rX => first | rfl | decide +kernel)
    (case saX => first | k_is | rfl)
    (case gaX => first | k_is | rfl)
    (case ggX => first | k_is | rfl)
    (case nbX => first | k_is | rfl)
    (case inX => first | k_is | rfl)
    (case tiX => first | k_is | rfl)
    (case kX => first | k_is | rfl)
    (case eX => first | k_is | rfl)
    (case vX => first | k_is | rfl)
    (case sX => first | k_is | rfl)
    (case tX => first | k_is | rfl)
    (case hX => first | kernel_rfl | rfl | k_is)
    (case iX => first | kernel_rfl | rfl | k_is)
    (case z_super => first | k_is | rfl)
    (case tpX => first | k_is | rfl)
    (case alX => first | kernel_rfl | rfl | k_is)
    (case htX => first | rfl | decide +kernel)
    (case lF => first | k_is | rfl)
    (case cF => first | k_is | rfl)
    (case lG => first | k_is | rfl)
    (case eG => first | rfl | decide +kernel)
    (case fG => first | rfl | decide +kernel)
    (case lH => first | k_is | rfl)
    (case gV => first | k_is | rfl)
    (case kV => first | k_is | rfl)
    (case haX => first | k_is | rfl)
    (case hnX => first | k_is | rfl)
    (case htkX => first | k_is | rfl)
    (case hmX => first | k_is | rfl)
    (case z_len => first | k_is | rfl)
    (case z_int => first | k_is | rfl)
    (case z_range => first | k_is | rfl)
    (case z_tuple => first | k_is | rfl)
    (case z_list => first | k_is | rfl)
    (case z_min => first | k_is | rfl)
    (case z_max => first | k_is | rfl)
    (case z_enumerate => first | k_is | rfl)
    (case z_sorted => first | k_is | rfl)
    (case z_all => first | k_is | rfl)
    (case z_any => first | k_is | rfl)
    (case z_sum => first | k_is | rfl)
    (case z_isinstance => first | k_is | rfl)
    (case z_str => first | k_is | rfl)
    (case z_bool => first | k_is | rfl)
#print axioms PySem.Challenge.cw_versionkept_k04_patches_that_are_joined_holds
end
