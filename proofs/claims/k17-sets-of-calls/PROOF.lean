import PyProof.Rows.All
import Wide.All
import OpenK.AllK
import Wide.FinOn
import HandS.ForMost
import HandS.Codes
import HandS.Defaults
import HandS.Style
import HandS.Small
import HandS.Star
import HandS.TupAny
import PySem.Challenge.RW_hookrow_k17_sets_of_calls
import HandS.Set
import HandS.SetFor
import HandS.Strs
import HandS.SetKeys
import HandS.SortInts
import HandS.More
import PyProof.Rows.SortStr
import PyProof.ReprRoads
import PyProof.ReprLen
import HandS.Ends
import HandS.OwnEq
import PyProof.InstNe
import KE.KEqDict
import PyProof.AutoSeq1
import HandS.IsInst
import HandS.DictComp
import HandS.ListItems
import HandS.Finally
import HandS.MakeKwOnly
import HandS.Iter
import PyProof.Rows.SortStrRead
import HandS.HeadHook2
import Lean
import KE.KStateDown
import HandS.Base
import HandS.Call
import HandS.Words
import HandS.WordsExc
import HandS.Head0
import HandS.Head1
import HandS.Head2
import HandS.HeadEnd
import HandS.HeadHook1
set_option Elab.async false
set_option linter.all false
set_option maxRecDepth 100000
set_option maxHeartbeats 8000000
namespace Hk
open PySem PySem.Spec PyProof.Rows L2
/-! ### what stays -/
/-- all that is tracked but what is in M stays -/
def Keep (M : Addr → Prop) (H H' : Hp) : Prop := ∀ a o, H a = some o → ¬ M a → H' a = some o
theorem Keep.refl {M : Addr → Prop} {H : Hp} : Keep M H H := fun _ _ h _ => h
theorem Keep.trans {M : Addr → Prop} {H H1 H2 : Hp} (a : Keep M H H1) (b : Keep M H1 H2) : Keep M H H2 := fun c o h n => b c o (a c o h n) n
theorem Keep.new {M : Addr → Prop} {H H1 : Hp} {p : Addr} {o : HO} (a : Keep M H H1) (h : H1 p = none) : Keep M H (upd H1 p o) := fun c u e n => by
  have := a c u e n
  rw [upd_ne (ne_of_none this h)]
  exact this
/-- a store to what M lets change -/
theorem Keep.mut {M : Addr → Prop} {H H1 : Hp} {p : Addr} {o : HO} (a : Keep M H H1) (h : M p) : Keep M H (upd H1 p o) := fun c u e n => by
  rw [upd_ne (fun z => n (by rw [z]; exact h))]
  exact a c u e n
/-- a store to what did not stand -/
theorem Keep.own {M : Addr → Prop} {H H1 : Hp} {p : Addr} {o : HO} (a : Keep M H H1) (h : H p = none) : Keep M H (upd H1 p o) := fun c u e n => by
  rw [upd_ne (ne_of_none e h)]
  exact a c u e n
theorem Keep.weak {M N : Addr → Prop} {H H1 : Hp} (a : Keep M H H1) (h : ∀ c, M c → N c) : Keep N H H1 := fun c u e n => a c u e fun m => n (h c m)
/-- what M lets change and does not stand before -/
theorem Keep.drop {M N : Addr → Prop} {H H1 : Hp} (a : Keep M H H1) (h : ∀ c, M c → N c ∨ H c = none) : Keep N H H1 := fun c u e n => a c u e fun m => by
  rcases h c m with z | z
  · exact n z
  · rw [z] at e; cases e
theorem Keep.free {M : Addr → Prop} {H H1 : Hp} {p : Addr} (a : Keep M H H1) (h : H1 p = none) (n : ¬ M p) : H p = none := by
  cases q : H p with
  | none => rfl
  | some o => rw [a p o q n] at h; cases h
/-! ### defs by their places -/
structure HasDef (K : PySem.W.Frag) (mg : Str → Option Value) (x : Str) (st : Stmt) (dvs : List V) (kws : List (Str × V)) : Prop where
  ex : ∃ f fd, FunD K x x (defArgs st) (defBody st) (defScope st) dvs kws f fd ∧ mg x = some (.ref f)
structure HasMeth (K : PySem.W.Frag) (C : Addr) (m qual : Str) (st : Stmt) (dvs : List V) (kws : List (Str × V)) : Prop where
  cl : Cls K C
  ex : ∃ f fd, FunD K m qual (defArgs st) (defBody st) (defScope st) dvs kws f fd ∧ Meth K C m f
structure HasInit (K : PySem.W.Frag) (mg : Str → Option Value) (x : Str) (C : Addr) (qual : Str) (st : Stmt) (dvs : List V) (kws : List (Str × V)) : Prop where
  mg : mg x = some (.ref C)
  ex : ∃ f fd, FunD K "__init__" qual (defArgs st) (defBody st) (defScope st) dvs kws f fd ∧ Mk K C f
section
variable {P : Program} {w : World} {K : PySem.W.Frag} {mg : Str → Option Value} {base : Heap}
theorem ok0 {x qual : Str} {params : Arguments} {body : List Stmt} {scope : Scope} {dvs : List V} {kws : List (Str × V)} {f : Addr} {fd : FuncData} {N ps : List Str} {k : Nat} {sp : Sp} (F : FunD K x qual params body scope dvs kws f fd) (S : FnScope N ps scope) (len : ∀ vs H Q E, sp vs H Q E → vs.length = ps.length)
    (hbody : ∀ (cdv : Value) (A : Around) (outer : List Env) (s : Shared) (H : Hp) (vs : List V) (Q : VK) (E : XK), Room k (A.deeper (envOfC qual scope s.heap.objs.size f cdv)) → sp vs H Q E →
      ∃ t, PSs (cxOf CX0 P w K mg base N qual scope f cdv A outer s H E).nox body t ∧ t { nx := fun _ H' => Q .non H', rt := Q } (start N vs) H) : FnOk P w K mg base CX0 (k + 1) f fd ps sp :=
  F.ok S len fun cdv A outer s H vs Q E hr h => by
    obtain ⟨t, h1, h2⟩ := hbody cdv A outer s H vs Q E hr h
    exact ⟨t, h1.nox, h2⟩
abbrev BindN (x qual : Str) (st : Stmt) (ps : List Str) : Prop := ∀ (kV doc pm : Value) (an : Option Addr) (cdv ct : Value) (us : List Value), us.length = ps.length → bindArgs (PySem.W.fnOf x qual (defArgs st) (defBody st) (defScope st) .none kV doc pm an cdv ct) ⟨us, []⟩ = pure (ps.zip us)
theorem cal_of {x : Str} {st : Stmt} {N ps : List Str} {k : Nat} {sp : Sp} (h : HasDef K mg x st [] []) (S : FnScope N ps (defScope st)) (hb : BindN x x st ps) (len : ∀ vs H Q E, sp vs H Q E → vs.length = ps.length)
    (hbody : ∀ (f : Addr) (cdv : Value) (A : Around) (outer : List Env) (s : Shared) (H : Hp) (vs : List V) (Q : VK) (E : XK), Room k (A.deeper (envOfC x (defScope st) s.heap.objs.size f cdv)) → sp vs H Q E →
      ∃ t, PSs (cxOf CX0 P w K mg base N x (defScope st) f cdv A outer s H E).nox (defBody st) t ∧ t { nx := fun _ H' => Q .non H', rt := Q } (start N vs) H) : C8.Cal P w K mg base (k + 1) x sp [] := by
  obtain ⟨f, fd, F, hm⟩ := h.ex
  exact ⟨f, fd, ps, [], ok0 F S len (hbody f), hm, F.kp, F.bindsN hb, .nil⟩
theorem met_of {m qual : Str} {C : Addr} {st : Stmt} {N ps : List Str} {k : Nat} {sp : Sp} (h : HasMeth K C m qual st [] []) (S : FnScope N ps (defScope st)) (hb : BindN m qual st ps) (len : ∀ vs H Q E, sp vs H Q E → vs.length = ps.length)
    (hbody : ∀ (f : Addr) (cdv : Value) (A : Around) (outer : List Env) (s : Shared) (H : Hp) (vs : List V) (Q : VK) (E : XK), Room k (A.deeper (envOfC qual (defScope st) s.heap.objs.size f cdv)) → sp vs H Q E →
      ∃ t, PSs (cxOf CX0 P w K mg base N qual (defScope st) f cdv A outer s H E).nox (defBody st) t ∧ t { nx := fun _ H' => Q .non H', rt := Q } (start N vs) H) : C8.Met P w K mg base (k + 1) C m sp [] := by
  obtain ⟨f, fd, F, hm⟩ := h.ex
  exact ⟨f, fd, ps, [], h.cl, hm, ok0 F S len (hbody f), F.bindsN hb, .nil⟩
theorem mak_of {x qual : Str} {C : Addr} {st : Stmt} {N ps : List Str} {k : Nat} {sp : Sp} (h : HasInit K mg x C qual st [] []) (S : FnScope N ps (defScope st)) (hb : BindN "__init__" qual st ps) (len : ∀ vs H Q E, sp vs H Q E → vs.length = ps.length)
    (hbody : ∀ (f : Addr) (cdv : Value) (A : Around) (outer : List Env) (s : Shared) (H : Hp) (vs : List V) (Q : VK) (E : XK), Room k (A.deeper (envOfC qual (defScope st) s.heap.objs.size f cdv)) → sp vs H Q E →
      ∃ t, PSs (cxOf CX0 P w K mg base N qual (defScope st) f cdv A outer s H E).nox (defBody st) t ∧ t { nx := fun _ H' => Q .non H', rt := Q } (start N vs) H) : C8.Mak P w K mg base (k + 1) x C sp [] := by
  obtain ⟨f, fd, F, hm⟩ := h.ex
  exact ⟨f, fd, ps, [], hm, ok0 F S len (hbody f), h.mg, F.bindsN hb, .nil⟩
end
open PySem PySem.Spec PyProof.Rows L2
local macro_rules | `(tactic| walk_at "go1") => `(tactic| first
  | refine ⟨_, rfl, ?_⟩
  | refine ⟨rfl, ?_⟩
  | refine ⟨_, _, rfl, rfl, ?_⟩
  | refine ⟨(by show (0 : Int) < _; decide), ?_⟩
  | refine ⟨(show CMul _ _ from .inl ⟨by decide, by decide⟩), ?_⟩
  | refine ⟨(show CMul _ _ from .inr ⟨by decide, by decide⟩), ?_⟩
  | refine ⟨(show CDiv _ _ from ⟨by decide, by decide⟩), ?_⟩)
local macro_rules | `(tactic| walk_at "go") => `(tactic| repeat (walk_at "go1"))
def top (i : Nat) : Stmt := PySem.Challenge.pw_hookrow_k17_sets_of_calls.main.body.getD i (.Pass ⟨0, 0, 0, 0⟩)
abbrev s_l_box : Stmt := top 31
theorem sc_l_box : FnScope ["_law_script", "_law_base", "_law_seed", "_law_cell", "_law_great"] ["_law_script", "_law_base"] (defScope s_l_box) := ⟨rfl, rfl, rfl, by decide +kernel, rfl, by decide +kernel, by decide +kernel⟩
abbrev s_l_take : Stmt := top 32
theorem sc_l_take : FnScope ["_law_box_here", "_law_many", "_law_digit", "_law_one"] ["_law_box_here", "_law_many"] (defScope s_l_take) := ⟨rfl, rfl, rfl, by decide +kernel, rfl, by decide +kernel, by decide +kernel⟩
abbrev s_l_pick : Stmt := top 33
theorem sc_l_pick : FnScope ["_law_box_here", "_law_items"] ["_law_box_here", "_law_items"] (defScope s_l_pick) := ⟨rfl, rfl, rfl, by decide +kernel, rfl, by decide +kernel, by decide +kernel⟩
abbrev s_l_mixed : Stmt := top 34
theorem sc_l_mixed : FnScope ["_law_box_here", "_law_items", "_law_left", "_law_found", "_law_turn"] ["_law_box_here", "_law_items"] (defScope s_l_mixed) := ⟨rfl, rfl, rfl, by decide +kernel, rfl, by decide +kernel, by decide +kernel⟩
/-! ### the box of draws -/
abbrev kS (x : Str) : Key := Sum.inr x
def bx (g : Addr) (n s t : Int) : List (Key × V) := [(kS "great", .ref g), (kS "now", .int n), (kS "seed", .int s), (kS "turn", .int t)]
structure BoxAt (H : Hp) (b g : Addr) : Prop where
  box : ∃ n s t : Int, H b = some (.dK (bx g n s t))
  lst : ∃ gs : List Int, H g = some (.lst (gs.map V.int))
/-- what a draw may change -/
def Bm (b g : Addr) : Addr → Prop := fun a => a = b ∨ a = g
theorem bx_great (g : Addr) (n s t : Int) : valV (bx g n s t) (kS "great") = some (.ref g) := by rfl
theorem bx_now (g : Addr) (n s t : Int) : valV (bx g n s t) (kS "now") = some (.int n) := by rfl
theorem bx_seed (g : Addr) (n s t : Int) : valV (bx g n s t) (kS "seed") = some (.int s) := by rfl
theorem bx_turn (g : Addr) (n s t : Int) : valV (bx g n s t) (kS "turn") = some (.int t) := by rfl
theorem bx_pnow (g : Addr) (n s t m : Int) : putK (bx g n s t) (kS "now") (.int m) = bx g m s t := by rfl
theorem bx_pseed (g : Addr) (n s t m : Int) : putK (bx g n s t) (kS "seed") (.int m) = bx g n m t := by rfl
theorem bx_pturn (g : Addr) (n s t m : Int) : putK (bx g n s t) (kS "turn") (.int m) = bx g n s m := by rfl
theorem bx_len (g : Addr) (n s t : Int) : (bx g n s t).length < sizeLine := by show 4 < sizeLine; decide
section
variable {H : Hp} {b g : Addr} {n s t m : Int}
theorem get_great (h : H b = some (.dK (bx g n s t))) : DGet H b (.str "great") (some (.ref g)) := DGet.k (k := kS "great") h
theorem get_now (h : H b = some (.dK (bx g n s t))) : DGet H b (.str "now") (some (.int n)) := DGet.k (k := kS "now") h
theorem get_seed (h : H b = some (.dK (bx g n s t))) : DGet H b (.str "seed") (some (.int s)) := DGet.k (k := kS "seed") h
theorem get_turn (h : H b = some (.dK (bx g n s t))) : DGet H b (.str "turn") (some (.int t)) := DGet.k (k := kS "turn") h
theorem put_now (h : H b = some (.dK (bx g n s t))) : DPut H b (.str "now") (.int m) (upd H b (.dK (bx g m s t))) := DPut.k (k := kS "now") h (bx_len g n s t)
theorem put_seed (h : H b = some (.dK (bx g n s t))) : DPut H b (.str "seed") (.int m) (upd H b (.dK (bx g n m t))) := DPut.k (k := kS "seed") h (bx_len g n s t)
theorem put_turn (h : H b = some (.dK (bx g n s t))) : DPut H b (.str "turn") (.int m) (upd H b (.dK (bx g n s m))) := DPut.k (k := kS "turn") h (bx_len g n s t)
end
/-- a draw: a number from 0 on, below m -/
def spTake : Sp := fun vs H Q _ => ∃ (b g : Addr) (m : Int), vs = [.ref b, .int m] ∧ BoxAt H b g ∧ (0 < m ∧ m < 1073741824) ∧
  ∀ k H', 0 ≤ k → k < m → BoxAt H' b g → Keep (Bm b g) H H' → Q (.int k) H'
structure Txt0 (K : PySem.W.Frag) (mg : Str → Option Value) : Prop where
  f_len : mg "len" = none
  f_abs : mg "abs" = none
  f_list : mg "list" = none
  f_range : mg "range" = none
  d_l_box : HasDef K mg "_law_box" s_l_box [] []
  d_l_take : HasDef K mg "_law_take" s_l_take [] []
  d_l_pick : HasDef K mg "_law_pick" s_l_pick [] []
  d_l_mixed : HasDef K mg "_law_mixed" s_l_mixed [] []
section
variable {P : Program} {w : World} {K : PySem.W.Frag} {mg : Str → Option Value} {base : Heap}
theorem Txt0.c_l_take (T : Txt0 K mg) : C8.Cal P w K mg base 1 "_law_take" spTake [] := by
  refine cal_of T.d_l_take sc_l_take (fun _ _ _ _ _ _ us hl => match us, hl with | [_, _], _ => rfl) (fun vs H Q E h => ?_) (fun f cdv A outer s H vs Q E hr h => ?_)
  · obtain ⟨b, g, m, rfl, _⟩ := h
    rfl
  obtain ⟨b, g, m, rfl, ⟨⟨n, sd, t, hb⟩, gs, hg⟩, ⟨hm0, hm1⟩, k⟩ := h
  have hu := hu_of hr
  refine ⟨_, (C8.pss_cut (ps_if (PW.pt (pw_and (pt_cmpR op_eq (pe_dget hu (pv 0) pe_str (fun _ _ => rfl)) pe_int (nomark _)) (pw_and1 (pt_cmpR op_gt (pe_callB call_len (by rfl) T.f_len (by decide +kernel) (pa_cons (pe_dget hu (pv 0) pe_str (fun _ _ => rfl)) pa_nil)) pe_int (nomark _))))) (pss_one (ps_dput hu (pv 0) pe_str (pe_bm0 PySem.F.plainAttrs_list PySem.F.slot_list_pop PySem.F.type_list_pop mt_pop (pe_dget hu (pv 0) pe_str (fun _ _ => rfl))) rfl)) pss_nil)
      (pss_cons (ps_if (pt_cmpR op_gt (pe_dget hu (pv 0) pe_str (fun _ _ => rfl)) pe_int (nomark _)) (pss_cons (ps_set (i := 2) sc_l_take.nd rfl (by first | exact .inl rfl | exact .inr rfl) (pe_op op_mod (pe_dget hu (pv 0) pe_str (fun _ _ => rfl)) (pv 1)))
        (pss_cons (ps_dput hu (pv 0) pe_str (pe_op op_fdiv (pe_dget hu (pv 0) pe_str (fun _ _ => rfl)) (pv 1)) rfl)
        (pss_one (ps_ret (pv 2))))) pss_nil)
      (pss_cons (ps_dput hu (pv 0) pe_str (pe_op op_add (pe_dget hu (pv 0) pe_str (fun _ _ => rfl)) pe_int) rfl)
      (pss_cons (ps_set (i := 3) sc_l_take.nd rfl (by first | exact .inl rfl | exact .inr rfl) (pe_op op_mod (pe_op op_mul (pe_op op_mod (pe_op op_add (pe_dget hu (pv 0) pe_str (fun _ _ => rfl)) (pe_op op_mul pe_int (pe_dget hu (pv 0) pe_str (fun _ _ => rfl)))) pe_int) pe_int) pe_int))
      (pss_cons (ps_dput hu (pv 0) pe_str (pe_op op_add (pe_op op_mod (pe_op op_add (pv 3) (pe_op op_mul pe_int (pe_dget hu (pv 0) pe_str (fun _ _ => rfl)))) pe_int) pe_int) rfl)
      (pss_one (ps_ret (pe_op op_mod (pe_op op_fdiv (pe_op op_add (pe_op op_mul (pv 3) pe_int) (pe_dget hu (pv 0) pe_str (fun _ _ => rfl))) pe_int) (pv 1))))))))), ?_⟩
  have hbg : b ≠ g := ne_of hb hg (by intro z; cases z)
  -- if the number at hand is used up: the next great one
  refine ⟨fun σ H1 => σ = [some (.ref b), some (.int m), none, none] ∧ ∃ (n : Int) (gs : List Int), H1 b = some (.dK (bx g n sd t)) ∧ H1 g = some (.lst (gs.map V.int)) ∧ Keep (Bm b g) H H1, ?_, ?_⟩
  · refine ⟨_, rfl, b, .int n, rfl, get_now hb, rfl, _, rfl, ite2 (fun e0 => ?_) (fun e0 => ?_)⟩
    · refine ⟨_, rfl, b, .ref g, rfl, get_great hb, _, gs.length, rfl, .inl ⟨_, .of hg, by rw [List.length_map]⟩, _, _, rfl, rfl, _, rfl, ite2 (fun e1 => ?_) (fun e1 => ?_)⟩
      · have hl : gs ≠ [] := fun z => by rw [z] at e1; exact absurd e1 (by decide)
        refine ⟨_, rfl, b, .ref g, rfl, get_great hb, .inl ⟨rfl, _, .inl (.inl hg)⟩, g, _, .int (gs.getLast hl), rfl, rfl, hg, ?_, ?_⟩
        · rw [← List.getLast?_eq_getElem?, List.getLast?_map, List.getLast?_eq_some_getLast hl]; rfl
        · refine ⟨_, rfl, b, _, rfl, put_now (by rw [upd_ne hbg]; exact hb), rfl, gs.getLast hl, gs.dropLast, upd_same, ?_, ?_⟩
          · rw [upd_ne hbg.symm, upd_same, List.map_dropLast]
          · exact ((Keep.refl.mut (.inr rfl)).mut (.inl rfl))
      · exact ⟨rfl, n, gs, hb, hg, .refl⟩
    · exact ⟨rfl, n, gs, hb, hg, .refl⟩
  · rintro σ H1 ⟨rfl, n, gs, hb, hg, hk⟩
    refine ⟨_, rfl, b, .int n, rfl, get_now hb, _, _, rfl, rfl, _, rfl, ite2 (fun e0 => ?_) (fun e0 => ?_)⟩
    · -- a digit of the number at hand
      refine ⟨_, rfl, b, .int n, rfl, get_now hb, _, rfl, _, _, rfl, rfl, hm0, ?_⟩
      refine ⟨_, rfl, b, .int n, rfl, get_now hb, _, rfl, _, _, rfl, rfl, ⟨hm0, hm1⟩, _, rfl, b, _, rfl, put_now hb, _, rfl, ?_⟩
      exact k _ _ (Int.emod_nonneg _ (by omega)) (Int.emod_lt_of_pos _ hm0) ⟨⟨_, _, _, upd_same⟩, gs, by rw [upd_ne hbg.symm]; exact hg⟩ (hk.mut (.inl rfl))
    · refine ⟨_, rfl, b, .int t, rfl, get_turn hb, _, _, rfl, rfl, _, rfl, b, _, rfl, put_turn hb, ?_⟩
      refine ⟨_, rfl, b, .int sd, rfl, get_seed upd_same, _, rfl, b, .int (t + 1), rfl, get_turn upd_same, _, _, rfl, rfl, .inl ⟨by decide, by decide⟩, _, _, rfl, rfl, _, _, rfl, rfl, (by show (0 : Int) < _; decide), _, _, rfl, rfl, .inr ⟨by decide, by decide⟩, _, _, rfl, rfl, (by show (0 : Int) < _; decide), ?_⟩
      generalize h1 : (sd + 69623 * (t + 1)) % 2147483647 * 16807 % 2147483647 = one
      have o1 : 0 ≤ one := by rw [← h1]; exact Int.emod_nonneg _ (by decide)
      have o2 : one < 2147483647 := by rw [← h1]; exact Int.emod_lt_of_pos _ (by decide)
      refine ⟨_, rfl, _, rfl, b, .int sd, rfl, get_seed upd_same, _, _, rfl, rfl, .inl ⟨by decide, by decide⟩, _, _, rfl, rfl, _, _, rfl, rfl, (by show (0 : Int) < _; decide), _, _, rfl, rfl, _, rfl, b, _, rfl, put_seed upd_same, ?_⟩
      refine ⟨_, rfl, _, _, rfl, rfl, .inl ⟨by omega, by omega⟩, _, rfl, b, _, rfl, get_seed upd_same, _, _, rfl, rfl, _, _, rfl, rfl, ⟨by decide, by decide⟩, _, rfl, _, _, rfl, rfl, hm0, ?_⟩
      exact k _ _ (Int.emod_nonneg _ (by omega)) (Int.emod_lt_of_pos _ hm0) ⟨⟨_, _, _, upd_same⟩, gs, by rw [upd_ne hbg.symm, upd_ne hbg.symm]; exact hg⟩ ((hk.mut (.inl rfl)).mut (.inl rfl))
/-- pick: one of the items -/
def spPick (K : PySem.W.Frag) : Sp := fun vs H Q _ => ∃ (b g a : Addr) (xs : List V), vs = [.ref b, .ref a] ∧ BoxAt H b g ∧ SqL K H a xs ∧ (xs ≠ [] ∧ xs.length < 1000) ∧ ¬ Bm b g a ∧
  ∀ (k : Nat) x H', xs[k]? = some x → BoxAt H' b g → Keep (Bm b g) H H' → Q x H'
theorem Keep.sql {M : Addr → Prop} {H H' : Hp} {a : Addr} {xs : List V} (k : Keep M H H') (h : SqL K H a xs) (n : ¬ M a) : SqL K H' a xs := by
  rcases h with (h | ⟨o, h⟩) | h
  · exact .inl (.inl (k _ _ h n))
  · exact .inl (.inr ⟨o, k _ _ h n⟩)
  · exact .inr h
theorem Keep.sqt {M : Addr → Prop} {H H' : Hp} {a : Addr} {xs : List V} (k : Keep M H H') (h : SqT K H a xs) (n : ¬ M a) : SqT K H' a xs := by
  rcases h with (h | ⟨o, h⟩) | h
  · exact .inl (.inl (k _ _ h n))
  · exact .inl (.inr ⟨o, k _ _ h n⟩)
  · exact .inr h
theorem atI_of {xs : List V} {k : Int} (h0 : 0 ≤ k) (h1 : k < xs.length) : ∃ x, xs[k.toNat]? = some x ∧ atI xs k = some x := by
  have hl : k.toNat < xs.length := by omega
  refine ⟨xs[k.toNat], List.getElem?_eq_getElem hl, ?_⟩
  exact at_of (j := k.toNat) (by omega) (List.getElem?_eq_getElem hl)
theorem Txt0.c_l_pick (T : Txt0 K mg) : C8.Cal P w K mg base 2 "_law_pick" (spPick K) [] := by
  refine cal_of T.d_l_pick sc_l_pick (fun _ _ _ _ _ _ us hl => match us, hl with | [_, _], _ => rfl) (fun vs H Q E h => ?_) (fun f cdv A outer s H vs Q E hr h => ?_)
  · obtain ⟨b, g, a, xs, rfl, _⟩ := h
    rfl
  obtain ⟨b, g, a, xs, rfl, hB, hA, ⟨hn, hl⟩, hna, k⟩ := h
  have hp : 0 < xs.length := List.length_pos_iff.mpr hn
  refine ⟨_, (pss_one (ps_ret (pe_ix ix_list (pv 1) (C8.pe_c T.c_l_take hr (by decide) (by rfl) (pa_cons (pv 0) (pa_cons (pe_callB call_len (by rfl) T.f_len (by decide +kernel) (pa_cons (pv 1) pa_nil)) pa_nil))) (fun _ _ => rfl)))), ?_⟩
  refine ⟨_, rfl, _, rfl, _, rfl, _, _, rfl, .inl ⟨_, hA, rfl⟩, b, g, _, rfl, hB, ⟨by omega, by omega⟩, fun i H' h0 h1 hB' hk => ?_⟩
  obtain ⟨x, hx, hx'⟩ := atI_of h0 h1
  exact ⟨a, xs, i, x, rfl, rfl, hk.sql hA hna, hx', k _ x H' hx hB' hk⟩
theorem perm_erase {α : Type} : ∀ (l : List α) (j : Nat) (h : j < l.length), (l[j] :: l.eraseIdx j).Perm l
  | [], j, h => absurd h (by simp)
  | x :: r, 0, _ => .refl _
  | x :: r, j + 1, h => by
    have ih := perm_erase r j (by simpa using h)
    show ((r[j]'(by simpa using h)) :: x :: r.eraseIdx j).Perm (x :: r)
    exact (List.Perm.swap _ _ _).trans (.cons x ih)
/-- mixed: the items, mixed -/
def spMixed (K : PySem.W.Frag) : Sp := fun vs H Q _ => ∃ (b g a : Addr) (xs : List V), vs = [.ref b, .ref a] ∧ BoxAt H b g ∧ SqL K H a xs ∧ xs.length < 1000 ∧
  ∀ p ys H', ys.Perm xs → BoxAt H' b g → H p = none → H' p = some (.lst ys) → Keep (Bm b g) H H' → Q (.ref p) H'
theorem Txt0.c_l_mixed (T : Txt0 K mg) : C8.Cal P w K mg base 2 "_law_mixed" (spMixed K) [] := by
  refine cal_of T.d_l_mixed sc_l_mixed (fun _ _ _ _ _ _ us hl => match us, hl with | [_, _], _ => rfl) (fun vs H Q E h => ?_) (fun f cdv A outer s H vs Q E hr h => ?_)
  · obtain ⟨b, g, a, xs, rfl, _⟩ := h
    rfl
  obtain ⟨b, g, a, xs, rfl, hB, hA, hl, k⟩ := h
  refine ⟨_, (pss_cons (ps_par (i := 2) (j := 3) rfl sc_l_mixed.nd rfl rfl (by decide) rfl rfl (pa_cons (pe_callTy call_list_of (by rfl) T.f_list (by decide +kernel) (pa_cons (pv 1) pa_nil)) (pa_cons (pe_lst pa_nil) pa_nil)) (by rfl))
      (pss_cons (ps_for PassesOwn.never rfl (pi_range1 (by rfl) (T.f_range) (pa_cons (pe_callB call_len (by rfl) T.f_len (by decide +kernel) (pa_cons (pv 2) pa_nil)) pa_nil)) (pg_name (i := 4) sc_l_mixed.nd rfl (by first | exact .inl rfl | exact .inr rfl)) (pss_one (ps_expr (pe_bm PySem.F.plainAttrs_list PySem.F.slot_list_append PySem.F.type_list_append mt_append (pv 3) (pa_cons (pe_bm PySem.F.plainAttrs_list PySem.F.slot_list_pop PySem.F.type_list_pop mt_popAt (pv 2) (pa_cons (C8.pe_c T.c_l_take hr (by decide) (by rfl) (pa_cons (pv 0) (pa_cons (pe_callB call_len (by rfl) T.f_len (by decide +kernel) (pa_cons (pv 2) pa_nil)) pa_nil))) pa_nil)) pa_nil)))))
      (pss_one (ps_ret (pv 3))))), ?_⟩
  have hr0 : ∀ a, H a = none → ¬ Bm b g a := fun c hc z => by
    obtain ⟨⟨n, sd, t, hb⟩, gs, hg⟩ := hB
    rcases z with z | z
    · rw [z, hb] at hc; cases hc
    · rw [z, hg] at hc; cases hc
  refine ⟨_, rfl, a, xs, rfl, .inl hA, fun L nL => ⟨Nat.zero_le _, fun F nF => ⟨_, _, rfl, ?_⟩⟩⟩
  have nFL : F ≠ L := fun e => by rw [e, upd_same] at nF; cases nF
  have nF0 : H F = none := by rw [upd_ne nFL] at nF; exact nF
  refine ⟨_, rfl, _, xs.length, rfl, .inl ⟨xs, .of (by rw [upd_ne nFL.symm, upd_same]), rfl⟩, _, rfl, by omega, by omega, ?_⟩
  rw [Int.toNat_natCast]
  refine for_range (lo := 0) (n := xs.length) (fun i σ H' => ∃ left found y, σ = [some (.ref b), some (.ref a), some (.ref L), some (.ref F), y] ∧ H' L = some (.lst left) ∧ H' F = some (.lst found) ∧ found.length = i ∧ (found ++ left).Perm xs ∧ BoxAt H' b g ∧ Keep (Bm b g) H H') ?_ ?_ ?_
  · refine ⟨xs, [], none, rfl, by rw [upd_ne nFL.symm, upd_same], upd_same, rfl, .refl _, ?_, (Keep.refl.new nL).new nF⟩
    obtain ⟨⟨n, sd, t, hb⟩, gs, hg⟩ := hB
    exact ⟨⟨n, sd, t, by rw [upd_ne (ne_of_none hb nF0), upd_ne (ne_of_none hb nL)]; exact hb⟩, gs, by rw [upd_ne (ne_of_none hg nF0), upd_ne (ne_of_none hg nL)]; exact hg⟩
  · rintro i σ H1 hi ⟨left, found, y, rfl, hL, hF, hfl, hp, hB1, hk⟩
    have hpl := hp.length_eq
    rw [List.length_append] at hpl
    refine ⟨_, rfl, .inl ⟨rfl, _, .inl (.inl hF)⟩, _, rfl, .inl ⟨rfl, _, .inl (.inl hL)⟩, _, rfl, _, rfl, _, left.length, rfl, .inl ⟨left, .of hL, rfl⟩, b, g, _, rfl, hB1, ⟨by omega, by omega⟩, fun j H2 h0 h1 hB2 hk2 => ?_⟩
    have hL2 : H2 L = some (.lst left) := hk2 _ _ hL (hr0 _ nL)
    have hF2 : H2 F = some (.lst found) := hk2 _ _ hF (hr0 _ nF0)
    have hj : j.toNat < left.length := by omega
    refine ⟨L, left, j, j.toNat, left[j.toNat], rfl, rfl, hL2, by omega, by omega, ?_, List.getElem?_eq_getElem hj, F, found, _, rfl, rfl, by rw [upd_ne nFL]; exact hF2, small1000 (by omega), ?_⟩
    · exact seqIndex_of h0 h1
    · obtain ⟨⟨n, sd, t, hb⟩, gs, hg⟩ := hB2
      have q := hr0 _ nL
      have q2 := hr0 _ nF0
      refine ⟨left.eraseIdx j.toNat, found ++ [left[j.toNat]], _, rfl, by rw [upd_ne nFL.symm, upd_same], upd_same, by rw [List.length_append, hfl]; rfl, ?_, ⟨⟨n, sd, t, ?_⟩, gs, ?_⟩, ?_⟩
      · refine .trans ?_ hp
        rw [List.append_assoc]
        exact .append_left _ (perm_erase left _ hj)
      · rw [upd_ne (fun z => q2 (.inl z.symm)), upd_ne (fun z => q (.inl z.symm))]; exact hb
      · rw [upd_ne (fun z => q2 (.inr z.symm)), upd_ne (fun z => q (.inr z.symm))]; exact hg
      · exact ((hk.trans hk2).own nL).own nF0
  · rintro σ H1 ⟨left, found, y, rfl, hL, hF, hfl, hp, hB1, hk⟩
    have hpl := hp.length_eq
    rw [List.length_append] at hpl
    have e : left = [] := List.eq_nil_of_length_eq_zero (by omega)
    subst e
    rw [List.append_nil] at hp
    exact ⟨_, rfl, k F found H1 hp hB1 nF0 hF hk⟩
theorem cut_ints (ns : List Int) (lo hi : Option Int) : ∃ ms : List Int, cutV (ns.map V.int) lo hi = ms.map V.int ∧ ms.length ≤ ns.length := by
  refine ⟨_, by unfold cutV; rw [← List.map_drop, ← List.map_take], ?_⟩
  rw [List.length_take, List.length_drop]
  omega
/-- box: a new box of draws -/
def spBox (K : PySem.W.Frag) : Sp := fun vs H Q _ => ∃ (a : Addr) (ns : List Int) (base : Int), vs = [.ref a, .int base] ∧ SqL K H a (ns.map V.int) ∧ ns.length ≤ 63 ∧
  ∀ b g H', BoxAt H' b g → H b = none → H g = none → Keep (fun _ => False) H H' → Q (.ref b) H'
theorem Txt0.c_l_box (T : Txt0 K mg) : C8.Cal P w K mg base 1 "_law_box" (spBox K) [] := by
  refine cal_of T.d_l_box sc_l_box (fun _ _ _ _ _ _ us hl => match us, hl with | [_, _], _ => rfl) (fun vs H Q E h => ?_) (fun f cdv A outer s H vs Q E hr h => ?_)
  · obtain ⟨a, ns, bs, rfl, _⟩ := h
    rfl
  obtain ⟨a, ns, bs, rfl, hA, hl, k⟩ := h
  refine ⟨_, (pss_cons (ps_set (i := 2) sc_l_box.nd rfl (by first | exact .inl rfl | exact .inr rfl) (pe_op op_add pe_int (pe_op op_mul pe_int (pv 1))))
      (pss_cons (ps_for PassesOwn.never rfl (pi_list (pe_slice sl_list (pv 0) po_none (po_some pe_int))) (pg_name (i := 3) sc_l_box.nd rfl (by first | exact .inl rfl | exact .inr rfl)) (pss_one (ps_set (i := 2) sc_l_box.nd rfl (by first | exact .inl rfl | exact .inr rfl) (pe_op op_mod (pe_op op_add (pe_op op_add (pe_op op_mul (pv 2) pe_int) (pe_op op_mod (pe_callB call_abs (by rfl) T.f_abs (by decide +kernel) (pa_cons (pv 3) pa_nil)) pe_int)) pe_int) pe_int))))
      (pss_cons (ps_setLc (i := 4) (own := [("_law_cell", 3)]) rfl sc_l_box.nd rfl rfl (sw_true rfl rfl rfl (by decide +kernel)) (pi_list (pe_slice sl_list (pv 0) (po_some (pv 1)) (po_some pe_int))) (blkOk_by (own := [("_law_cell", 3)]) (N := ["_law_script", "_law_base", "_law_seed", "_law_cell", "_law_great"]) (sc := defScope s_l_box) (by decide +kernel)) (fun _ _ _ _ _ => (pg_name (i := 3) sc_l_box.nd rfl (by first | exact .inl rfl | exact .inr rfl))) (fun _ _ _ _ _ => (pts_one (pt_cmpR op_ge (pe_callB call_abs (by rfl) T.f_abs (by decide +kernel) (pa_cons (pv 3) pa_nil)) (pe_op op_pow pe_int pe_int) (nomark _)))) (fun _ _ _ _ _ => (pe_callB call_abs (by rfl) T.f_abs (by decide +kernel) (pa_cons (pv 3) pa_nil))))
      (pss_one (ps_ret (pe_disp (pps_cons pe_str (pe_revL (pv 4)) (pps_cons pe_str pe_int (pps_cons pe_str (pe_op op_add (pv 2) pe_int) (pps_cons pe_str pe_int pps_nil)))) (by rfl) (by rfl) (fun z => by cases z) (by decide))))))), ?_⟩
  walk_at "go"
  -- the seed
  refine ⟨a, _, rfl, hA, fun p np => ⟨p, rfl, ⟨_, .of upd_same⟩, ?_⟩⟩
  obtain ⟨ms, em, lm⟩ := cut_ints ns none (some 50)
  rw [em]
  refine for_list (xs := ms.map V.int) (fun i σ H' => ∃ sd y, σ = [some (.ref a), some (.int bs), some (.int sd), y, none] ∧ H' = upd H p (.lst (ms.map V.int))) ⟨_, _, rfl, rfl⟩ (fun i σ H' _ ⟨sd, y, _, e⟩ => by rw [e]; exact .of upd_same) ?_ ?_
  · rintro i x σ H1 hx ⟨sd, y, rfl, rfl⟩
    obtain ⟨z, -, rfl⟩ := List.mem_map.mp (List.mem_of_getElem? hx)
    walk_at "go"
    exact ⟨_, _, rfl, rfl⟩
  · rintro σ H1 ⟨sd, y, rfl, rfl⟩
    -- the great ones
    have np' : H p = none := np
    have hA' : SqL K (upd H p (.lst (ms.map V.int))) a (ns.map V.int) := Keep.sql (M := fun _ => False) (Keep.refl.new np) hA (fun z => z)
    walk_at "go"
    refine ⟨a, _, rfl, hA', fun p2 np2 => ⟨p2, rfl, ⟨_, .of upd_same⟩, fun D nD => ?_⟩⟩
    obtain ⟨ms2, em2, lm2⟩ := cut_ints ns (some bs) (some 50)
    rw [em2] at nD ⊢
    have nDp : D ≠ p2 := fun e => by rw [e, upd_same] at nD; cases nD
    have hk2 : Keep (fun _ => False) H (upd (upd H p (.lst (ms.map V.int))) p2 (.lst (ms2.map V.int))) := (Keep.refl.new np).new np2
    have nD0 : H D = none := hk2.free nD (fun z => z)
    refine lc_list (xs := ms2.map V.int) (fun i H' => ∃ gs : List Int, gs.length ≤ i ∧ H' D = some (.lst (gs.map V.int)) ∧ H' p2 = some (.lst (ms2.map V.int)) ∧ Keep (fun _ => False) H H') ?_ ?_ ?_ ?_
    · exact ⟨[], Nat.le_refl _, upd_same, by rw [upd_ne nDp.symm, upd_same], hk2.new nD⟩
    · rintro i H' _ ⟨_, _, _, e, _⟩
      exact .of e
    · rintro i x H1 hx ⟨gs, hgl, hD, hp2, hk⟩
      have hil : i < ms2.length := by
        have := (List.getElem?_eq_some_iff.mp hx).1
        rw [List.length_map] at this
        exact this
      obtain ⟨z, -, rfl⟩ := List.mem_map.mp (List.mem_of_getElem? hx)
      refine ⟨rfl, _, rfl, z, rfl, _, _, rfl, rfl, ⟨by decide, by decide, by decide⟩, _, _, rfl, rfl, _, rfl, ite2 (fun e0 => ?_) (fun e0 => ?_)⟩
      · walk_at "go"
        refine ⟨_, hD, small1000 (by rw [List.length_map]; omega), gs ++ [if z < 0 then -z else z], by rw [List.length_append]; show gs.length + 1 ≤ _; omega, ?_, ?_, hk.own nD0⟩
        · rw [upd_same, List.map_append]; rfl
        · rw [upd_ne nDp.symm]; exact hp2
      · exact ⟨gs, by omega, hD, hp2, hk⟩
    · rintro H1 ⟨gs, hgl, hD, hp2, hk⟩
      -- the dict
      intro b nb
      have nbD : D ≠ b := fun e => by rw [e, nb] at hD; cases hD
      walk_at "go"
      refine ⟨D, _, rfl, .of (by rw [upd_ne nbD]; exact hD), fun g ng => ?_⟩
      have ngb : g ≠ b := fun e => by rw [e, upd_same] at ng; cases ng
      have ng1 : H1 g = none := by rw [upd_ne ngb] at ng; exact ng
      walk_at "go"
      refine ⟨by rw [upd_ne ngb.symm, upd_same], bx g 0 (sd + 1) 0, rfl, (by show 4 ≤ 15; decide), ?_⟩
      refine k b g _ ⟨⟨0, sd + 1, 0, by rw [upd_same]; rfl⟩, gs.reverse, ?_⟩ (hk.free nb (fun z => z)) (hk.free ng1 (fun z => z)) ?_
      · rw [upd_ne ngb, upd_same, List.map_reverse]
      · exact ((hk.new nb).new ng).own (hk.free nb (fun z => z))
end
/-! Sets of ints and texts over the layer, whose members can be listed: set(xs), {e for ..}, sorted(s). -/
open PySem PySem.Spec PyProof.Rows L2
/-- the key that a value is -/
def vkey : Value → Key
  | .int k _ => .inl k
  | .str x _ => .inr x
  | _ => .inl 0
def ekey (e : Int × Value) : Key := vkey e.2
theorem vkey_of {k : Key} {v : Value} (h : keyIs k v = true) : vkey v = k := by
  rcases keyIs_shape h with ⟨i, t, rfl, rfl⟩ | ⟨x, t, rfl, rfl⟩ <;> rfl
/-- an entry of such a set -/
def OkE (w : World) (e : Int × Value) : Prop := keyIs (ekey e) e.2 = true ∧ e.1 = keyH w (ekey e)
theorem okE_of {w : World} {k : Key} {v : Value} (h : keyIs k v = true) : OkE w (keyH w k, v) := by
  unfold OkE ekey
  rw [vkey_of h]
  exact ⟨h, rfl⟩
theorem scan_key {k : Key} {v : Value} (h : keyIs k v = true) : v.scannable = true := by
  rcases keyIs_shape h with ⟨i, t, rfl, rfl⟩ | ⟨x, t, rfl, rfl⟩ <;> rfl
/-- the set at a: its members in the table's order, each once; the table can be walked -/
structure SetL (P : Program) (w : World) (h : Heap) (a : Addr) (L : List Key) : Prop where
  ex : ∃ o es ep t, h.get? a = some o ∧ o.ExactSet ∧ o.data = .set es ep t ∧ (∀ e ∈ es.toList, OkE w e) ∧ es.toList.map ekey = L ∧ L.Nodup ∧
    es.size < scanBound ∧ t.fits es.size = true ∧ Ris t.place.toList ∧ (w.params.followText "set-order" = true ∨ t.led = true)
section
variable {P : Program} {w : World} {h h' : Heap} {a : Addr} {L : List Key}
theorem SetL.keep (R : SetL P w h a L) (k : ∀ o, h.get? a = some o → h'.get? a = some o) : SetL P w h' a L := by
  obtain ⟨o, es, ep, t, ho, r⟩ := R
  exact ⟨o, es, ep, t, k o ho, r⟩
theorem SetL.there (R : SetL P w h a L) : ∃ o, h.get? a = some o := by
  obtain ⟨o, es, ep, t, ho, r⟩ := R
  exact ⟨o, ho⟩
theorem elems_ok {l : List (Int × Value)} (g : ∀ e ∈ l, OkE w e) : ElemsOf (mixKind P w) l := fun e he => by
  obtain ⟨h1, h2⟩ := g e he
  exact ⟨⟨ekey e, h1, h2⟩, scan_key h1⟩
theorem ok_is {e : Int × Value} (g : OkE w e) (k : Key) : keyIs k e.2 = true ↔ ekey e = k := by
  constructor
  · intro q
    exact vkey_of q
  · intro q
    rw [← q]
    exact g.1
theorem ok_mem {l : List (Int × Value)} (g : ∀ e ∈ l, OkE w e) (k : Key) : k ∈ l.map ekey ↔ ∃ e ∈ l, keyIs k e.2 = true := by
  rw [List.mem_map]
  constructor
  · rintro ⟨e, he, q⟩
    exact ⟨e, he, (ok_is (g e he) k).2 q⟩
  · rintro ⟨e, he, q⟩
    exact ⟨e, he, (ok_is (g e he) k).1 q⟩
def hasK (L : List Key) (k : Key) : Bool := L.any fun j => decide (j = k)
theorem hasK_iff {L : List Key} {k : Key} : hasK L k = true ↔ k ∈ L := by
  unfold hasK
  rw [List.any_eq_true]
  constructor
  · rintro ⟨j, hj, e⟩
    rw [← of_decide_eq_true e]; exact hj
  · intro h
    exact ⟨k, h, decide_eq_true rfl⟩
theorem SetL.setOf (R : SetL P w h a L) : h.SetOf (mixKind P w) a (hasK L) L.length := by
  obtain ⟨o, es, ep, t, ho, hx, hd, g, hm, nd, hb, hf, _⟩ := R
  refine ⟨o, es, ep, t, ho, hx, hd, elems_ok g, fun k => ?_, hb, hf, ?_⟩
  · rw [hasK_iff, ← hm]
    exact ok_mem g k
  · rw [← hm, List.length_map, Array.length_toList]
end
section
variable {P : Program} {w : World} {A : Around} {E : Value → Shared → Prop} {s : Shared} {a : Addr} {L : List Key}
/-- behind the search that found nothing: stored, and laid anew where it is full -/
theorem setL_stored {tell : Bool → Sem Unit} (ht : ∀ (b : Bool) (s₁ : Shared) (Q' : Unit → Shared → Prop), Q' () s₁ → wpAny (model P w) A (tell b) Q' E s₁)
    {o : Obj} {es es1 : Array (Int × Value)} {ep : Nat} {t t2 : SetTable} (ho : s.heap.get? a = some o) (hex : o.ExactSet) (hd : o.data = .set es ep t)
    (g1 : ∀ e ∈ es1.toList, OkE w e) (nd1 : (es1.toList.map ekey).Nodup) (hb1 : es1.size < scanBound) (hf2 : t2.fits es1.size = true) (hr : Ris t2.place.toList)
    (hl : w.params.followText "set-order" = true ∨ t2.led = true) {was : Bool} {R : Option Bool → Shared → Prop}
    (hR : ∀ h' L', L'.Perm (es1.toList.map ekey) → Heap.SameBut a s.heap h' → SetL P w h' a L' → R (some true) { s with heap := h' }) :
    wpAny (model P w) A (storeSet a es1 t2 >>= fun _ => if (!was && t2.tooFull) = true then
        (tell (relayAll t2 es1 (SetTable.grown es1.size)).2.2 >>= fun _ => storeSet a (relayAll t2 es1 (SetTable.grown es1.size)).1 (relayAll t2 es1 (SetTable.grown es1.size)).2.1 >>= fun _ => pure (some true))
      else pure (some true)) R E s := by
  have q1 := store_at (es' := es1) (t' := t2) ho hd
  have b1 := Heap.SameBut.update s.heap a (Obj.putSet es1 t2)
  refine wpAny_bind (wpAny_storeSet_of ho hd ?_ (fits_of_scanBound hb1))
  by_cases full : (!was && t2.tooFull) = true
  · rw [if_pos full]
    have p1 := relayAll_perm t2 es1 (SetTable.grown es1.size)
    have p2 := relayAll_fits t2 es1 (SetTable.grown es1.size)
    have p3 := relayAll_ris t2 es1 (SetTable.grown es1.size)
    have p4 := relayAll_led t2 es1 (SetTable.grown es1.size)
    revert p1 p2 p3 p4
    generalize relayAll t2 es1 (SetTable.grown es1.size) = Z
    obtain ⟨es2, t3, gave⟩ := Z
    intro p1 p2 p3 p4
    have z2 : es2.size = es1.size := by
      have := p1.length_eq
      simpa using this
    refine wpAny_bind (ht _ _ _ (wpAny_bind (wpAny_storeSet_of q1 rfl ?_ (fits_of_scanBound (by show es2.size < _; omega)))))
    refine wpAny_pure (hR _ (es2.toList.map ekey) (p1.map ekey) (b1.trans (Heap.SameBut.update _ a _)) ?_)
    exact ⟨_, es2, _, t3, store_at (es' := es2) (t' := t3) q1 rfl, hex, rfl, fun e he => g1 e (p1.mem_iff.mp he), rfl, (p1.map ekey).nodup_iff.mpr nd1, by omega, p2, p3, hl.imp id fun z => by
      show t3.led = true
      rw [show t3.led = t2.led from p4]; exact z⟩
  · rw [if_neg full]
    exact wpAny_pure (hR _ _ (.refl _) b1 ⟨_, es1, _, t2, q1, hex, rfl, g1, rfl, nd1, hb1, hf2, hr, hl⟩)
/-- a key put in -/
theorem setL_put {k : Key} {v : Value} {Q : Bool → Shared → Prop} (hv : keyIs k v = true) (R : SetL P w s.heap a L) (room : L.length + 1 < scanBound)
    (hQ : ∀ h' L' b, (k ∈ L → L' = L) → (k ∉ L → L'.Perm (k :: L)) → Heap.SameBut a s.heap h' → SetL P w h' a L' → Q b { s with heap := h' }) :
    wpAny (model P w) A (setAddHashed a v (keyH w k)) Q E s := by
  obtain ⟨o, es, ep, t, ho, hex, hd, g, hm, nd, hb, hf, hr, hl⟩ := id R
  have hkey : (mixKind P w).is k v = true := hv
  have hsc := scan_key hv
  have hel : ElemsOf (mixKind P w) es.toList := elems_ok g
  have hlen : L.length = es.size := by rw [← hm, List.length_map, Array.length_toList]
  unfold setAddHashed setAddHashedIn
  refine wpAny_holding (wpAny_bind (wpAny_setState_of ho hd hf ?_))
  dsimp only
  rw [byScan_of hsc hb hel]
  simp only [↓reduceIte]
  unfold setAddByScan
  refine wpAny_bind (wpAny_bind (wpAny_rule (wpAny_bind ?_)))
  refine wpAny_setScan_of hkey ho hd hf hel ?_
  cases hfi : List.findIdx? (fun e => (mixKind P w).is k e.2) es.toList with
  | some j =>
    dsimp only
    obtain ⟨hj, pj, _⟩ := List.findIdx?_eq_some_iff_getElem.mp hfi
    have hin : k ∈ L := by
      rw [← hm]
      exact (ok_mem g k).2 ⟨es.toList[j], List.getElem_mem hj, pj⟩
    exact wpAny_pure (wpAny_pure (hQ s.heap L _ (fun _ => rfl) (fun z => absurd hin z) (Heap.SameBut.refl a s.heap) R))
  | none =>
    dsimp only
    have hnk : k ∉ L := fun z => by
      rw [← hm] at z
      obtain ⟨e, he, q⟩ := (ok_mem g k).1 z
      have c := List.findIdx?_eq_none_iff.mp hfi e he
      rw [show (mixKind P w).is k e.2 = true from q] at c
      cases c
    have hgw : ∀ (b : Bool) {s₁ : Shared} {Q' : Unit → Shared → Prop}, Q' () s₁ → wpAny (model P w) A (match b with | true => rule "set.scan.the-table-gave-way" | false => pure ()) Q' E s₁ := fun b s₁ Q' q => by
      cases b
      · exact wpAny_pure q
      · exact wpAny_rule q
    have eh : (mixKind P w).hash k = keyH w k := rfl
    have p1 := layNew_perm t es (keyH w k) v
    have p2 := layNew_fits t es (keyH w k) v
    have p3 := layNew_ris t es (keyH w k) v hr
    have p4 := layNew_led t es (keyH w k) v
    revert p1 p2 p3 p4
    try rw [eh]
    generalize layNew t es (keyH w k) v = Z
    obtain ⟨es1, t1, was, gave⟩ := Z
    intro p1 p2 p3 p4
    dsimp only at p1 p2 p3 p4 ⊢
    rw [Array.toList_push] at p1
    have pc : es1.toList.Perm ((keyH w k, v) :: es.toList) := p1.trans (List.perm_append_singleton _ _)
    have pk : (es1.toList.map ekey).Perm (k :: L) := by
      have := pc.map ekey
      rw [List.map_cons, hm] at this
      rw [show ekey (keyH w k, v) = k from vkey_of hv] at this
      exact this
    have g1 : ∀ e ∈ es1.toList, OkE w e := fun e he => by
      rcases List.mem_cons.mp (pc.mem_iff.mp he) with z | z
      · rw [z]; exact okE_of hv
      · exact g e z
    have nd1 : (es1.toList.map ekey).Nodup := pk.nodup_iff.mpr (List.nodup_cons.mpr ⟨hnk, nd⟩)
    have hsz : es1.size = L.length + 1 := by
      have := pc.length_eq
      rw [List.length_cons, Array.length_toList, Array.length_toList] at this
      omega
    have hb1 : es1.size < scanBound := by omega
    have hled : w.params.followText "set-order" = true ∨ t1.led = true := hl.imp id fun z => by rw [p4]; exact z
    have fin : ∀ (b : Bool) h' L', L'.Perm (es1.toList.map ekey) → Heap.SameBut a s.heap h' → SetL P w h' a L' → Q b { s with heap := h' } := fun b h' L' pp sb r =>
      hQ h' L' b (fun z => absurd z hnk) (fun _ => pp.trans pk) sb r
    refine wpAny_bind (hgw _ ?_)
    split
    · refine wpAny_bind ?_
      rw [hashByValue_scannable 8 hsc]
      refine wpAny_pure ?_
      refine setL_stored (fun b s₁ Q' q => hgw b q) ho hex hd g1 nd1 hb1 ?_ ?_ ?_ fun h' L' pp sb r => ?_
      · first | (split <;> first | exact p2 | exact SetTable.fits_plain_off p2) | exact p2
      · first | (split <;> exact p3) | exact p3
      · first | (split <;> exact hled) | exact hled
      · exact wpAny_pure (fin _ h' L' pp sb r)
    · refine wpAny_bind (wpAny_pure ?_)
      simp only [↓reduceIte]
      exact setL_stored (fun b s₁ Q' q => hgw b q) ho hex hd g1 nd1 hb1 p2 p3 hled fun h' L' pp sb r => wpAny_pure (fin _ h' L' pp sb r)
end
/-! ### set(xs) -/
section
variable {P : Program} {w : World} {A : Around} {R : Result → Shared → Prop} {I : Addr} {fp wr : List Addr} {G : Array GenState → Array GenState → Prop} {n : Nat} {Pv : Nat → Value → Prop} {St : Nat → Shared → Prop}
theorem setL_loop (W : WalksS P w A.in1 I fp wr G n Pv St) (S : Addr) (hSf : S ∉ fp) (ks : List Key) (hsz : ks.length = n) (hb : n + 1 < scanBound) (hval : ∀ i v, Pv i v → ∃ k, ks[i]? = some k ∧ keyIs k v = true) :
    ∀ (r i : Nat) (s : Shared) (L : List Key), n - i = r → i ≤ n → St i s → SetL P w s.heap S L → L.length ≤ i → (∀ j, j ∈ L ↔ j ∈ ks.take i) →
      (∀ s' L', Moved (S :: wr) G s s' → SetL P w s'.heap S L' → L'.length ≤ n → (∀ j, j ∈ L' ↔ j ∈ ks) → R (.ok (.ret .none)) s') →
      codeAny (model P w) A (.builtin "set.update.loop" ⟨[.ref S, .ref I], []⟩) R s := by
  have hSw : S ∉ wr := fun h => hSf (W.sub _ h)
  have hsub : ∀ b ∈ wr, b ∈ S :: wr := fun b hb => List.mem_cons_of_mem _ hb
  intro r
  induction r with
  | zero =>
    intro i s L hk hi hst hS hl hm hR
    have hin : i = n := by omega
    subst hin
    refine codeAny_builtin PyProof.Rows.F.entry_set_update_loop ?_
    rw [Around.under_plainId PyProof.Rows.F.plain_set_update_loop _]
    show wpAny _ A.in1 (pyNext (.ref I) >>= _) _ _ s
    refine wpAny_bind (W.done s _ _ hst fun s' hmv => ?_)
    show wpAny _ A.in1 (ret Value.none) _ _ s'
    refine wpAny_pure (hR s' L (hmv.mono hsub) (hS.keep fun o e => hmv.heap S _ hSw e) hl fun j => ?_)
    rw [hm j, ← hsz, List.take_length]
  | succ r ih =>
    intro i s L hk hi hst hS hl hm hR
    have hlt : i < n := by omega
    refine codeAny_builtin PyProof.Rows.F.entry_set_update_loop ?_
    rw [Around.under_plainId PyProof.Rows.F.plain_set_update_loop _]
    show wpAny _ A.in1 (pyNext (.ref I) >>= _) _ _ s
    refine wpAny_bind (W.item i s _ _ hlt hst fun v s' hP hst' hmv => ?_)
    obtain ⟨k, hk2, hv⟩ := hval i v hP
    have hS' : SetL P w s'.heap S L := hS.keep fun o e => hmv.heap S _ hSw e
    show wpAny _ A.in1 (holding [v] (setAdd S v) >>= _) _ _ s'
    refine wpAny_bind (wpAny_holding ?_)
    unfold setAdd
    refine wpAny_holding (wpAny_bind ((mixKind P w).pyHash (k := k) hv ?_))
    refine setL_put (s := { s' with toks := s'.toks + 1 }) hv hS' (by omega) fun h' L' b q1 q2 hsb hS2 => ?_
    have hl2 : L'.length ≤ i + 1 := by
      by_cases z : k ∈ L
      · rw [q1 z]; omega
      · have := (q2 z).length_eq
        rw [List.length_cons] at this
        omega
    have hm2 : ∀ j, j ∈ L' ↔ j ∈ ks.take (i + 1) := fun j => by
      rw [List.take_add_one, hk2, List.mem_append, ← hm j]
      show _ ↔ _ ∨ j ∈ [k]
      rw [List.mem_singleton]
      by_cases z : k ∈ L
      · rw [q1 z]
        exact ⟨.inl, fun h => h.elim id fun e => e ▸ z⟩
      · rw [(q2 z).mem_iff, List.mem_cons]
        exact Or.comm
    refine wpAny_pure ⟨plainId_quiet PyProof.Rows.F.plain_set_update_loop _, ih (i + 1) _ L' (by omega) hlt (W.frame _ s' _ _ hst' (Nat.le_succ _) fun b hb o e => ?_) hS2 hl2 hm2 fun s'' L'' hm'' hS'' hl'' hf => ?_⟩
    · rw [hsb.2 b (fun h : b = S => hSf (by rw [← h]; exact hb))]; exact e
    · refine hR s'' L'' (Moved.trans W.gtrans ((hmv.mono hsub).then_heap (Nat.le_succ _) fun b o hb e => ?_) hm'') hS'' hl'' hf
      rw [hsb.2 b (fun h : b = S => hb (by rw [h]; exact List.mem_cons_self))]; exact e
end
section
variable {P : Program} {w : World} {A : Around} {E : Value → Shared → Prop} {s : Shared}
theorem paired_at {α β : Type} {F : α → β → Prop} : ∀ {l₁ : List α} {l₂ : List β} {i : Nat} {y : β}, Paired F l₁ l₂ → l₂[i]? = some y → ∃ x, l₁[i]? = some x ∧ F x y
  | _, _, _, _, .nil, e => by simp at e
  | _, _, 0, _, .cons r _, e => by simp at e; subst e; exact ⟨_, rfl, r⟩
  | _, _, i + 1, y, .cons _ t, e => by
    obtain ⟨x, h1, h2⟩ := paired_at (i := i) (y := y) t (by simpa using e)
    exact ⟨x, by simpa using h1, h2⟩
theorem setL_fresh {h : Heap} {a : Addr} (e : h.get? a = some { cls := .type "set", dict := none, data := .set #[] 0 (.fresh 0 0 (!w.params.followText "set-order")) }) : SetL P w h a [] :=
  ⟨_, #[], 0, _, e, ⟨rfl, rfl, rfl⟩, rfl, (fun e he => by simp at he), rfl, List.nodup_nil, by decide, by rfl, List.Pairwise.nil, by
    show _ ∨ (!w.params.followText "set-order") = true
    cases w.params.followText "set-order"
    · exact .inr rfl
    · exact .inl rfl⟩
theorem set_of_list {l : Addr} {items : Array Value} (ks : List Key) {Q : Value → Shared → Prop} (hh : A.handled = none) (hl : s.heap.IsList l items) (hit : Paired (fun k v => keyIs k v = true) ks items.toList) (hb : ks.length + 1 < scanBound)
    (h : ∀ (h' : Heap) (tk : Nat) L, SetL P w h' s.heap.objs.size L → L.length ≤ ks.length → (∀ j, j ∈ L ↔ j ∈ ks) → (∀ b o, s.heap.get? b = some o → h'.get? b = some o) → Q (.ref s.heap.objs.size) { s with heap := h', toks := tk }) :
    wpAny (model P w) A (call (.type "set") [.ref l]) Q E s := by
  have hisz : ks.length = items.size := by
    have q := Paired.length hit
    rw [Array.length_toList] at q
    exact q
  obtain ⟨c, tl, hmro⟩ := F.called_set.mro
  have hmade := F.called_set.made
  have hsub := F.called_set.sub
  refine wpAny_call (codeAny_of_tree ?_)
  show wpAny _ _ (callAny (.type "set") _) _ _ _
  refine wpAny_pure ⟨Code.quiet_builtin _ (by decide +kernel), codeAny_builtin F.entry_type_call ?_⟩
  rw [Around.under_plain (weight_type_call_type "set" [.ref l] []) rfl]
  have h1 := F.called_set.notType
  have h2 := F.called_set.canCreate
  have hct := F.typeCall_set_1 (.ref l)
  repeat (any_goals (first | assumption | wp_step))
  refine codeAny_mono (code_set_led1 (.ref l) (E := E) (Q₁ := fun obj s₁ => obj = .ref s.heap.objs.size ∧ s₁ = { s with heap := s.heap.push { cls := .type "set", dict := none, data := .set #[] 0 (.fresh 0 0 (!w.params.followText "set-order")) } }) ⟨rfl, rfl⟩) fun r s₁ hr => ?_
  cases r with
  | error e => exact hr
  | ok fl =>
    cases fl with
    | ret obj =>
      obtain ⟨rfl, rfl⟩ := hr
      have hS : (s.heap.push { cls := .type "set", dict := none, data := .set #[] 0 (.fresh 0 0 (!w.params.followText "set-order")) }).get? s.heap.objs.size = some { cls := .type "set", dict := none, data := .set #[] 0 (.fresh 0 0 (!w.params.followText "set-order")) } := Heap.get?_push_size _ rfl
      have hT : Shared.TypeIs { s with heap := s.heap.push { cls := .type "set", dict := none, data := .set #[] 0 (.fresh 0 0 (!w.params.followText "set-order")) } } (.ref s.heap.objs.size) "set" := ⟨_, hS, rfl⟩
      have hli := F.called_set.init.lookup
      have hbi := F.called_set.init.bind (.ref s.heap.objs.size)
      repeat (any_goals (first | assumption | wp_step))
      refine codeAny_mono (codeAny_call_builtin (R := wants (fun r s₂ => r = .none ∧ ∃ h' tk L, s₂ = { s with heap := h', toks := tk } ∧ SetL P w h' s.heap.objs.size L ∧ L.length ≤ ks.length ∧ (∀ j, j ∈ L ↔ j ∈ ks) ∧
          (∀ b o, s.heap.get? b = some o → h'.get? b = some o)) E) F.called_set.init.plain F.entry_set_init (check_set_init_1 hT ?_)) fun r₂ s₂ hr₂ => ?_
      · obtain ⟨ol, hol, hcl, nl, hdl⟩ := hl
        obtain ⟨ocls, odict, odata, oslots⟩ := ol
        simp only at hcl hdl
        subst hcl; subst hdl
        have hol' : (s.heap.push { cls := .type "set", dict := none, data := .set #[] 0 (.fresh 0 0 (!w.params.followText "set-order")) }).get? l = some { cls := .type "list", dict := odict, data := .seq items nl, slots := oslots } := Heap.get?_push_of_some _ hol
        have hsls := F.sub_list_set
        have hslf := F.sub_list_frozenset
        have hne : (Value.type "list" == Value.type "dict") = false := by decide
        have hl1 : (s.heap.push { cls := .type "set", dict := none, data := .set #[] 0 (.fresh 0 0 (!w.params.followText "set-order")) }).IsList l items := ⟨_, hol', rfl, nl, rfl⟩
        unfold Builtin.«set.__init__» noKeywords Builtin.Frozenset.updateFrom
        generalize hPI : pyIter = PI
        wp_walk
        subst hPI
        refine wpAny_pyIter_list hl1 ?_
        refine wpAny_bind (wpAny_runValue ?_)
        have hlS : l < s.heap.objs.size := Heap.lt_size hol
        have hh3 : A.in1.in1.in1.handled = none := by simp [hh]
        have hz1 : (s.heap.push { cls := .type "set", dict := none, data := .set #[] 0 (.fresh 0 0 (!w.params.followText "set-order")) }).objs.size = s.heap.objs.size + 1 := Heap.size_push ..
        have hneI : l ≠ (s.heap.push { cls := .type "set", dict := none, data := .set #[] 0 (.fresh 0 0 (!w.params.followText "set-order")) }).objs.size := by rw [hz1]; exact Nat.ne_of_lt (Nat.lt_succ_of_lt hlS)
        have hSf : s.heap.objs.size ∉ [(s.heap.push { cls := .type "set", dict := none, data := .set #[] 0 (.fresh 0 0 (!w.params.followText "set-order")) }).objs.size, l] := by
          rw [hz1]; simp only [List.mem_cons, List.mem_singleton, List.not_mem_nil, or_false, not_or]
          exact ⟨Nat.ne_of_lt (Nat.lt_succ_self _), Nat.ne_of_gt hlS⟩
        have hval : ∀ (i : Nat) (v : Value), items[i]? = some v → ∃ k, ks[i]? = some k ∧ keyIs k v = true := fun i v hv => by
          have q : items.toList[i]? = some v := by rw [Array.getElem?_toList]; exact hv
          exact paired_at (F := fun k v => keyIs k v = true) hit q
        refine setL_loop ((Walks.list hh3 _ l hneI items).toS) s.heap.objs.size hSf ks hisz (by omega) hval (items.size - 0) 0 _ [] (by omega) (Nat.zero_le _)
          ⟨⟨_, Heap.get?_push_size _ rfl, rfl, rfl⟩, (hl1.push _)⟩ ?hS0 (Nat.le_refl _) (fun j => by simp) ?hR
        case hS0 =>
          have hget := Heap.get?_push_of_some (h := s.heap.push { cls := .type "set", dict := none, data := .set #[] 0 (.fresh 0 0 (!w.params.followText "set-order")) }) { cls := .type "list_iterator", data := .fields #[.ref l, .int 0 0] } hS
          exact setL_fresh hget
        case hR =>
          intro s' L' hm hS' hl' hf
          obtain ⟨h', g2, d', tk', os'⟩ := s'
          have eg : g2 = s.gens := hm.gens
          have ed : d' = s.drawn := hm.drawn
          have eo : os' = s.os := hm.os
          subst eg; subst ed; subst eo
          show wpAny _ _ _ _ _ _
          refine wpAny_pure ?_
          show wpAny _ _ (ret Value.none) _ _ _
          refine wpAny_pure ⟨rfl, h', tk', L', rfl, hS', by omega, hf, fun b o e => ?_⟩
          have hb0 : b < s.heap.objs.size := Heap.lt_size e
          have hb1 : b ≠ s.heap.objs.size := Nat.ne_of_lt hb0
          have hb2 : b ≠ (s.heap.push { cls := .type "set", dict := none, data := .set #[] 0 (.fresh 0 0 (!w.params.followText "set-order")) }).objs.size := by
            rw [Heap.size_push]; exact Nat.ne_of_lt (Nat.lt_succ_of_lt hb0)
          exact hm.heap b o (by simp only [List.mem_cons, List.mem_singleton, List.not_mem_nil, or_false, not_or]; exact ⟨hb1, hb2⟩) (Heap.get?_push_of_some _ (Heap.get?_push_of_some _ e))
      · cases r₂ with
        | error e => exact hr₂
        | ok fl₂ =>
          cases fl₂ with
          | ret r =>
            obtain ⟨rfl, h', tk, L, rfl, hS', q1, q2, hk'⟩ := hr₂
            repeat (any_goals (first | assumption | wp_step))
            exact h _ _ _ hS' q1 q2 hk'
          | _ => exact hr₂.elim
    | _ => exact hr.elim
theorem set_of_tuple {l : Addr} {items : Array Value} (ks : List Key) {Q : Value → Shared → Prop} (hh : A.handled = none) (hl : s.heap.IsTuple l items) (hit : Paired (fun k v => keyIs k v = true) ks items.toList) (hb : ks.length + 1 < scanBound)
    (h : ∀ (h' : Heap) (tk : Nat) L, SetL P w h' s.heap.objs.size L → L.length ≤ ks.length → (∀ j, j ∈ L ↔ j ∈ ks) → (∀ b o, s.heap.get? b = some o → h'.get? b = some o) → Q (.ref s.heap.objs.size) { s with heap := h', toks := tk }) :
    wpAny (model P w) A (call (.type "set") [.ref l]) Q E s := by
  have hisz : ks.length = items.size := by
    have q := Paired.length hit
    rw [Array.length_toList] at q
    exact q
  obtain ⟨c, tl, hmro⟩ := F.called_set.mro
  have hmade := F.called_set.made
  have hsub := F.called_set.sub
  refine wpAny_call (codeAny_of_tree ?_)
  show wpAny _ _ (callAny (.type "set") _) _ _ _
  refine wpAny_pure ⟨Code.quiet_builtin _ (by decide +kernel), codeAny_builtin F.entry_type_call ?_⟩
  rw [Around.under_plain (weight_type_call_type "set" [.ref l] []) rfl]
  have h1 := F.called_set.notType
  have h2 := F.called_set.canCreate
  have hct := F.typeCall_set_1 (.ref l)
  repeat (any_goals (first | assumption | wp_step))
  refine codeAny_mono (code_set_led1 (.ref l) (E := E) (Q₁ := fun obj s₁ => obj = .ref s.heap.objs.size ∧ s₁ = { s with heap := s.heap.push { cls := .type "set", dict := none, data := .set #[] 0 (.fresh 0 0 (!w.params.followText "set-order")) } }) ⟨rfl, rfl⟩) fun r s₁ hr => ?_
  cases r with
  | error e => exact hr
  | ok fl =>
    cases fl with
    | ret obj =>
      obtain ⟨rfl, rfl⟩ := hr
      have hS : (s.heap.push { cls := .type "set", dict := none, data := .set #[] 0 (.fresh 0 0 (!w.params.followText "set-order")) }).get? s.heap.objs.size = some { cls := .type "set", dict := none, data := .set #[] 0 (.fresh 0 0 (!w.params.followText "set-order")) } := Heap.get?_push_size _ rfl
      have hT : Shared.TypeIs { s with heap := s.heap.push { cls := .type "set", dict := none, data := .set #[] 0 (.fresh 0 0 (!w.params.followText "set-order")) } } (.ref s.heap.objs.size) "set" := ⟨_, hS, rfl⟩
      have hli := F.called_set.init.lookup
      have hbi := F.called_set.init.bind (.ref s.heap.objs.size)
      repeat (any_goals (first | assumption | wp_step))
      refine codeAny_mono (codeAny_call_builtin (R := wants (fun r s₂ => r = .none ∧ ∃ h' tk L, s₂ = { s with heap := h', toks := tk } ∧ SetL P w h' s.heap.objs.size L ∧ L.length ≤ ks.length ∧ (∀ j, j ∈ L ↔ j ∈ ks) ∧
          (∀ b o, s.heap.get? b = some o → h'.get? b = some o)) E) F.called_set.init.plain F.entry_set_init (check_set_init_1 hT ?_)) fun r₂ s₂ hr₂ => ?_
      · obtain ⟨ol, hol, hcl, nl, hdl⟩ := hl
        obtain ⟨ocls, odict, odata, oslots⟩ := ol
        simp only at hcl hdl
        subst hcl; subst hdl
        have hol' : (s.heap.push { cls := .type "set", dict := none, data := .set #[] 0 (.fresh 0 0 (!w.params.followText "set-order")) }).get? l = some { cls := .type "tuple", dict := odict, data := .seq items nl, slots := oslots } := Heap.get?_push_of_some _ hol
        have hsls := F.sub_tuple_set
        have hslf := F.sub_tuple_frozenset
        have hne : (Value.type "tuple" == Value.type "dict") = false := by decide
        have hl1 : (s.heap.push { cls := .type "set", dict := none, data := .set #[] 0 (.fresh 0 0 (!w.params.followText "set-order")) }).IsTuple l items := ⟨_, hol', rfl, nl, rfl⟩
        unfold Builtin.«set.__init__» noKeywords Builtin.Frozenset.updateFrom
        generalize hPI : pyIter = PI
        wp_walk
        subst hPI
        refine wpAny_pyIter_tuple hl1 ?_
        refine wpAny_bind (wpAny_runValue ?_)
        have hlS : l < s.heap.objs.size := Heap.lt_size hol
        have hh3 : A.in1.in1.in1.handled = none := by simp [hh]
        have hz1 : (s.heap.push { cls := .type "set", dict := none, data := .set #[] 0 (.fresh 0 0 (!w.params.followText "set-order")) }).objs.size = s.heap.objs.size + 1 := Heap.size_push ..
        have hneI : l ≠ (s.heap.push { cls := .type "set", dict := none, data := .set #[] 0 (.fresh 0 0 (!w.params.followText "set-order")) }).objs.size := by rw [hz1]; exact Nat.ne_of_lt (Nat.lt_succ_of_lt hlS)
        have hSf : s.heap.objs.size ∉ [(s.heap.push { cls := .type "set", dict := none, data := .set #[] 0 (.fresh 0 0 (!w.params.followText "set-order")) }).objs.size, l] := by
          rw [hz1]; simp only [List.mem_cons, List.mem_singleton, List.not_mem_nil, or_false, not_or]
          exact ⟨Nat.ne_of_lt (Nat.lt_succ_self _), Nat.ne_of_gt hlS⟩
        have hval : ∀ (i : Nat) (v : Value), items[i]? = some v → ∃ k, ks[i]? = some k ∧ keyIs k v = true := fun i v hv => by
          have q : items.toList[i]? = some v := by rw [Array.getElem?_toList]; exact hv
          exact paired_at (F := fun k v => keyIs k v = true) hit q
        refine setL_loop ((Walks.tuple hh3 _ l hneI items).toS) s.heap.objs.size hSf ks hisz (by omega) hval (items.size - 0) 0 _ [] (by omega) (Nat.zero_le _)
          ⟨⟨_, Heap.get?_push_size _ rfl, rfl, rfl⟩, (hl1.push _)⟩ ?hS0 (Nat.le_refl _) (fun j => by simp) ?hR
        case hS0 =>
          have hget := Heap.get?_push_of_some (h := s.heap.push { cls := .type "set", dict := none, data := .set #[] 0 (.fresh 0 0 (!w.params.followText "set-order")) }) { cls := .type "tuple_iterator", data := .fields #[.ref l, .int 0 0] } hS
          exact setL_fresh hget
        case hR =>
          intro s' L' hm hS' hl' hf
          obtain ⟨h', g2, d', tk', os'⟩ := s'
          have eg : g2 = s.gens := hm.gens
          have ed : d' = s.drawn := hm.drawn
          have eo : os' = s.os := hm.os
          subst eg; subst ed; subst eo
          show wpAny _ _ _ _ _ _
          refine wpAny_pure ?_
          show wpAny _ _ (ret Value.none) _ _ _
          refine wpAny_pure ⟨rfl, h', tk', L', rfl, hS', by omega, hf, fun b o e => ?_⟩
          have hb0 : b < s.heap.objs.size := Heap.lt_size e
          have hb1 : b ≠ s.heap.objs.size := Nat.ne_of_lt hb0
          have hb2 : b ≠ (s.heap.push { cls := .type "set", dict := none, data := .set #[] 0 (.fresh 0 0 (!w.params.followText "set-order")) }).objs.size := by
            rw [Heap.size_push]; exact Nat.ne_of_lt (Nat.lt_succ_of_lt hb0)
          exact hm.heap b o (by simp only [List.mem_cons, List.mem_singleton, List.not_mem_nil, or_false, not_or]; exact ⟨hb1, hb2⟩) (Heap.get?_push_of_some _ (Heap.get?_push_of_some _ e))
      · cases r₂ with
        | error e => exact hr₂
        | ok fl₂ =>
          cases fl₂ with
          | ret r =>
            obtain ⟨rfl, h', tk, L, rfl, hS', q1, q2, hk'⟩ := hr₂
            repeat (any_goals (first | assumption | wp_step))
            exact h _ _ _ hS' q1 q2 hk'
          | _ => exact hr₂.elim
    | _ => exact hr.elim
end
/-! Sets of keys over the layer: set(a list or tuple), in, len, sorted. -/
open PySem PySem.Spec PyProof.Rows L2
def SetLO (P : Program) (w : World) (a : Addr) (L : List Key) : HO := .ext fun h => SetL P w h a L
theorem setLO_new {w : World} {P : Program} {H : Hp} {h : Heap} {a : Addr} {L : List Key} (R : SetL P w h a L) : ObjOk P w H h a (SetLO P w a L) := by
  obtain ⟨o, ho⟩ := R.there
  exact ⟨R, ⟨o, ho⟩, fun h1 h2 p k => SetL.keep p k⟩
theorem map_inj {α β : Type} {f : α → β} (h : ∀ a b, f a = f b → a = b) : ∀ {l m : List α}, l.map f = m.map f → l = m
  | [], [], _ => rfl
  | [], _ :: _, e => by simp at e
  | _ :: _, [], e => by simp at e
  | x :: l, y :: m, e => by
    rw [List.map_cons, List.map_cons] at e
    rw [h _ _ (List.cons.inj e).1, map_inj h (List.cons.inj e).2]
theorem keys_of_vals : ∀ {ks : List Key} {us : List Value}, Vals (ks.map kV) us → Paired (fun k v => keyIs k v = true) ks us
  | [], _, .nil => .nil
  | k :: ks, _, .cons r h => .cons (by
      cases k with
      | inl i => obtain ⟨t, rfl⟩ := (show ∃ t, _ = Value.int i t from r); exact decide_eq_true rfl
      | inr x => obtain ⟨t, rfl⟩ := (show ∃ t, _ = Value.str x t from r); exact decide_eq_true rfl) (keys_of_vals h)
section
variable {X : Cx}
theorem setLO_get {pins : List (Addr × Obj)} {σ : L2.St} {H : Hp} {s : Shared} {a : Addr} {L : List Key} (I : Inv X pins σ H s) (ha : H a = some (SetLO X.prog X.w a L)) : SetL X.prog X.w s.heap a L := (I.hok a _ ha).1
theorem SetL.nodup {P : Program} {w : World} {h : Heap} {a : Addr} {L : List Key} (R : SetL P w h a L) : L.Nodup := by
  obtain ⟨o, es, ep, t, _, _, _, _, _, nd, _⟩ := R
  exact nd
/-- set(xs), xs a list or a tuple of ints and texts -/
theorem call_setL (hc : X.calm = true) : CallR X (.type "set") (fun xs H Q => ∃ (a : Addr) (ks : List Key), xs = [.ref a] ∧ (SqL X.K H a (ks.map kV) ∨ SqT X.K H a (ks.map kV)) ∧ ks.length < 1000 ∧
    ∀ (p : Addr) (L : List Key), L.Nodup → L.length ≤ ks.length → (∀ j, j ∈ L ↔ j ∈ ks) → H p = none → Q (.ref p) (upd H p (SetLO X.prog X.w p L))) := by
  intro pins s σ H xs us Q I r q
  obtain ⟨a, ks, rfl, hq, hl, q⟩ := q
  obtain ⟨u, rfl, rx⟩ := vals1 r
  cases rx
  have hd := I.ok.hd hc
  have fin : ∀ (h' : Heap) (tk : Nat) L, SetL X.prog X.w h' s.heap.objs.size L → L.length ≤ ks.length → (∀ j, j ∈ L ↔ j ∈ ks) → (∀ b o, s.heap.get? b = some o → h'.get? b = some o) → EP X pins σ Q (.ref s.heap.objs.size) { s with heap := h', toks := tk } :=
    fun h' tk L R h1 h2 kp => by
      have hn := I.hok.fresh (Nat.le_refl _)
      exact ⟨.ref s.heap.objs.size, _, I.laid (t' := tk) kp (Nat.le_refl _) (setLO_new R), rfl, q _ L R.nodup h1 h2 hn⟩
  rcases hq with hq | hq
  · obtain ⟨its, r', pl, hz⟩ := I.list hq
    exact set_of_list ks hd pl.isList (keys_of_vals r') (by unfold scanBound; omega) fin
  · obtain ⟨its, r', pl, hz⟩ := I.tuple hq
    exact set_of_tuple ks hd pl (keys_of_vals r') (by unfold scanBound; omega) fin
/-- k in s -/
theorem op_in_setL : OpR X (compareOp .In) (fun x y H Q => ∃ k a L, x = kV k ∧ y = .ref a ∧ H a = some (SetLO X.prog X.w a L) ∧ Q (.bl (hasK L k)) H) := by
  intro pins s σ H x y v u Q I rx ry h
  obtain ⟨k, a, L, rfl, rfl, ha, q⟩ := h
  cases ry
  have hv : keyIs k v = true := by
    cases k with
    | inl i => obtain ⟨t, rfl⟩ := (show ∃ t, v = Value.int i t from rx); exact decide_eq_true rfl
    | inr x => obtain ⟨t, rfl⟩ := (show ∃ t, v = Value.str x t from rx); exact decide_eq_true rfl
  exact wpAny_inSet_of (knd := mixKind X.prog X.w) hv (scan_key hv) (setLO_get I ha).setOf ⟨.bl (hasK L k), H, I.tok _, rfl, q⟩
theorem op_notIn_setL : OpR X (compareOp .NotIn) (fun x y H Q => ∃ k a L, x = kV k ∧ y = .ref a ∧ H a = some (SetLO X.prog X.w a L) ∧ Q (.bl (!hasK L k)) H) := by
  intro pins s σ H x y v u Q I rx ry h
  obtain ⟨k, a, L, rfl, rfl, ha, q⟩ := h
  cases ry
  have hv : keyIs k v = true := by
    cases k with
    | inl i => obtain ⟨t, rfl⟩ := (show ∃ t, v = Value.int i t from rx); exact decide_eq_true rfl
    | inr x => obtain ⟨t, rfl⟩ := (show ∃ t, v = Value.str x t from rx); exact decide_eq_true rfl
  exact wpAny_notInSet_of (knd := mixKind X.prog X.w) hv (scan_key hv) (setLO_get I ha).setOf ⟨.bl (!hasK L k), H, I.tok _, rfl, q⟩
/-- sorted(s), s a set of texts -/
theorem cr_sortedSetS (hc : X.calm = true) : CallR X (.builtin "sorted") (fun vs H Q => ∃ (a : Addr) (ss : List Str), vs = [V.ref a] ∧ H a = some (SetLO X.prog X.w a (ss.map Sum.inr)) ∧ ss.length < 64 ∧
    ∀ (ys : List Str) (p : Addr), ys.Perm ss → sortedS ys = true → H p = none → Q (.ref p) (upd H p (.lst (ys.map V.str)))) := by
  intro pins s σ H vs us Q I r h
  obtain ⟨a, ss, rfl, ha, h64, q⟩ := h
  have R := setLO_get I ha
  rw [Vals.ref1 r]
  have hh := I.ok.hd hc
  obtain ⟨o, es, ep, t, ho, hex, hd, g, hm, nd, hb, hf, hr, hl⟩ := R
  have hes : es.size = ss.length := by
    have z := congrArg List.length hm
    rw [List.length_map, List.length_map, Array.length_toList] at z
    exact z
  refine Calls.call_function_entry kind_sorted plain_sorted entry_sorted (args_sorted1 _) ?_
  unfold Builtin.«sorted»
  refine wpAny_bind (m := checkCount "sorted" 1 1 _) (wpAny_pure ?_)
  refine wpAny_bind (collect_set (A := X.A.in1) hh ⟨o, ho, hex.1, hd⟩ hf hb hr hl fun s1 vs k1 hz g1 o1 pm => ?_)
  have hvl : vs.length = ss.length := by rw [pm.length_eq, List.length_map, Array.length_toList]; exact hes
  have hstr : ∀ e ∈ es.toList, ∃ x tk, e.2 = Value.str x tk ∧ ekey e = Sum.inr x := fun e he => by
    have e1 : ekey e ∈ ss.map (Sum.inr : Str → Key) := by rw [← hm]; exact List.mem_map_of_mem he
    obtain ⟨x, _, ex⟩ := List.mem_map.mp e1
    have e2 := (g e he).1
    rcases keyIs_shape e2 with ⟨i, t, e3, _⟩ | ⟨y, t, e3, e4⟩
    · rw [e3] at ex; cases ex
    · exact ⟨y, t, e4, e3⟩
  have hS : StrsAre vs (vs.map strOf) := strsAre_map vs fun v hv => by
    obtain ⟨e, he, q⟩ := List.mem_map.mp (pm.mem_iff.mp hv)
    obtain ⟨x, tk, h1, _⟩ := hstr e he
    exact ⟨x, tk, by rw [← q]; exact h1⟩
  have pk : (vs.map strOf).Perm ss := by
    have q := pm.map strOf
    rw [List.map_map] at q
    refine q.trans (List.Perm.of_eq ?_)
    have z : (es.toList.map (strOf ∘ fun x => x.2)).map (Sum.inr : Str → Key) = ss.map Sum.inr := by
      rw [← hm, List.map_map]
      refine List.map_congr_left fun e he => ?_
      obtain ⟨x, tk, h1, h2⟩ := hstr e he
      show Sum.inr (strOf e.2) = ekey e
      rw [h1, h2] <;> rfl
    exact map_inj (fun _ _ e => Sum.inr.inj e) z
  refine wpAny_bind (wpAny_newList ?_ (by rw [hvl, sizeLine_eq]; omega))
  have hoL : (s1.heap.push (seqObj "list" vs.toArray 0)).get? s1.heap.objs.size = some (seqObj "list" vs.toArray 0) := Heap.get?_push_size _ rfl
  refine wpAny_bind (wpAny_holding (wpAny_call_entry slot_list_sort ⟨_, hoL, rfl⟩ entry_list_sort
    (list_sort_treeK strKind_oneLt hoL hS.keysOf (fun v₁ v₂ rest e => keyKind_strs (by rw [← e]; exact hS)) (by rw [hvl]; exact h64) fun st' hp hs => ⟨_, rfl, ?_⟩) (args_list_sort _)))
  obtain ⟨ys, a1, a2, a3⟩ := sorted_out_str hS hp hs
  obtain ⟨c, hc2⟩ := sortedHeap_at (vs := vs) (out := (arrOf st').map (·.2)) hoL
  have pn : ys.Perm ss := a2.trans pk
  have hn : H s1.heap.objs.size = none := I.hok.fresh hz
  have hlen : (ys.map V.str).length ≤ sizeLine := by rw [List.length_map, pn.length_eq, sizeLine_eq]; omega
  have keep : ∀ b u, s.heap.get? b = some u → (sortedHeap (s1.heap.push (seqObj "list" vs.toArray 0)) s1.heap.objs.size vs ((arrOf st').map (·.2))).get? b = some u := fun b u e => by
    have q := k1 b u e
    have hlt := Heap.lt_size q
    rw [sortedHeap_old (Nat.ne_of_lt hlt) (by rw [size_push']; exact Nat.lt_succ_of_lt hlt)]
    exact Heap.get?_push_of_some _ q
  have J := I.call (H' := upd H s1.heap.objs.size (.lst (ys.map V.str))) (h' := sortedHeap (s1.heap.push (seqObj "list" vs.toArray 0)) s1.heap.objs.size vs ((arrOf st').map (·.2))) (g' := s1.gens) (d' := s1.drawn) (t' := s1.toks) (ch := []) (Un.laid keep hz hn) (I.hok.laid keep hz ⟨hlen, ((arrOf st').map (·.2)).toList, c, vals_of_strs a1, by rw [Array.toArray_toList]; exact hc2⟩) (by rw [g1]; exact I.bare) (fun _ z => nomatch z)
  refine wpAny_pure ⟨_, rfl, ?_⟩
  obtain ⟨hp1, gg, dd, tt, oo⟩ := s1
  have o2 : oo = s.os := o1
  subst o2
  exact ⟨.ref _, _, J, rfl, q ys _ pn a3 hn⟩
/-- sorted(s), s a set of ints -/
theorem cr_sortedSetI (hc : X.calm = true) : CallR X (.builtin "sorted") (fun vs H Q => ∃ (a : Addr) (ns : List Int), vs = [V.ref a] ∧ H a = some (SetLO X.prog X.w a (ns.map Sum.inl)) ∧ ns.length < 64 ∧
    ∀ (ys : List Int) (p : Addr), ys.Perm ns → ys.Pairwise (· ≤ ·) → H p = none → Q (.ref p) (upd H p (.lst (ys.map V.int)))) := by
  intro pins s σ H vs us Q I r h
  obtain ⟨a, ss, rfl, ha, h64, q⟩ := h
  have R := setLO_get I ha
  rw [Vals.ref1 r]
  have hh := I.ok.hd hc
  obtain ⟨o, es, ep, t, ho, hex, hd, g, hm, nd, hb, hf, hr, hl⟩ := R
  have hes : es.size = ss.length := by
    have z := congrArg List.length hm
    rw [List.length_map, List.length_map, Array.length_toList] at z
    exact z
  refine Calls.call_function_entry kind_sorted plain_sorted entry_sorted (args_sorted1 _) ?_
  unfold Builtin.«sorted»
  refine wpAny_bind (m := checkCount "sorted" 1 1 _) (wpAny_pure ?_)
  refine wpAny_bind (collect_set (A := X.A.in1) hh ⟨o, ho, hex.1, hd⟩ hf hb hr hl fun s1 vs k1 hz g1 o1 pm => ?_)
  have hvl : vs.length = ss.length := by rw [pm.length_eq, List.length_map, Array.length_toList]; exact hes
  have hint : ∀ e ∈ es.toList, ∃ x tk, e.2 = Value.int x tk ∧ ekey e = Sum.inl x := fun e he => by
    have e1 : ekey e ∈ ss.map (Sum.inl : Int → Key) := by rw [← hm]; exact List.mem_map_of_mem he
    obtain ⟨x, _, ex⟩ := List.mem_map.mp e1
    have e2 := (g e he).1
    rcases keyIs_shape e2 with ⟨i, t, e3, e4⟩ | ⟨y, t, e3, _⟩
    · exact ⟨i, t, e4, e3⟩
    · rw [e3] at ex; cases ex
  have hI : IntsAre vs (vs.map Builtin.Re.reRawOf) := ints_of vs fun v hv => by
    obtain ⟨e, he, q⟩ := List.mem_map.mp (pm.mem_iff.mp hv)
    obtain ⟨x, tk, h1, _⟩ := hint e he
    exact ⟨x, tk, by rw [← q]; exact h1⟩
  have pk : (vs.map Builtin.Re.reRawOf).Perm ss := by
    have q := pm.map Builtin.Re.reRawOf
    rw [List.map_map] at q
    refine q.trans (List.Perm.of_eq ?_)
    have z : (es.toList.map (Builtin.Re.reRawOf ∘ fun x => x.2)).map (Sum.inl : Int → Key) = ss.map Sum.inl := by
      rw [← hm, List.map_map]
      refine List.map_congr_left fun e he => ?_
      obtain ⟨x, tk, h1, h2⟩ := hint e he
      show Sum.inl (Builtin.Re.reRawOf e.2) = ekey e
      rw [h1, h2] <;> rfl
    exact map_inj (fun _ _ e => Sum.inl.inj e) z
  refine wpAny_bind (wpAny_newList ?_ (by rw [hvl, sizeLine_eq]; omega))
  have hoL : (s1.heap.push (seqObj "list" vs.toArray 0)).get? s1.heap.objs.size = some (seqObj "list" vs.toArray 0) := Heap.get?_push_size _ rfl
  refine wpAny_bind (wpAny_holding (wpAny_call_entry slot_list_sort ⟨_, hoL, rfl⟩ entry_list_sort (list_sort_tree hoL hI (by rw [hvl]; exact h64) fun out ys a1 a2 a3 => ⟨_, rfl, ?_⟩) (args_list_sort _)))
  obtain ⟨c, hc2⟩ := sortedHeap_at (vs := vs) (out := out) hoL
  have pn : ys.Perm ss := a2.trans pk
  have hn : H s1.heap.objs.size = none := I.hok.fresh hz
  have hlen : (ys.map V.int).length ≤ sizeLine := by rw [List.length_map, pn.length_eq, sizeLine_eq]; omega
  have keep : ∀ b u, s.heap.get? b = some u → (sortedHeap (s1.heap.push (seqObj "list" vs.toArray 0)) s1.heap.objs.size vs out).get? b = some u := fun b u e => by
    have q := k1 b u e
    have hlt := Heap.lt_size q
    rw [sortedHeap_old (Nat.ne_of_lt hlt) (by rw [size_push']; exact Nat.lt_succ_of_lt hlt)]
    exact Heap.get?_push_of_some _ q
  have J := I.call (H' := upd H s1.heap.objs.size (.lst (ys.map V.int))) (h' := sortedHeap (s1.heap.push (seqObj "list" vs.toArray 0)) s1.heap.objs.size vs out) (g' := s1.gens) (d' := s1.drawn) (t' := s1.toks) (ch := []) (Un.laid keep hz hn) (I.hok.laid keep hz ⟨hlen, out.toList, c, vals_of_ints a1, by rw [Array.toArray_toList]; exact hc2⟩) (by rw [g1]; exact I.bare) (fun _ z => nomatch z)
  refine wpAny_pure ⟨_, rfl, ?_⟩
  obtain ⟨hp1, gg, dd, tt, oo⟩ := s1
  have o2 : oo = s.os := o1
  subst o2
  exact ⟨.ref _, _, J, rfl, q ys _ pn a3 hn⟩
end
/-! repr of deep data over the layer: dicts of ints and texts, tuples, lists. -/
open PySem PySem.Spec PyProof.Rows L2
def kD : Key → PyData
  | .inl i => .int i
  | .inr x => .str x
mutual
/-- data without a list: it may have dicts -/
inductive Dd (K : PySem.W.Frag) (H : Hp) : V → PyData → Prop
  | non : Dd K H .non .none
  | bl (b : Bool) : Dd K H (.bl b) (.bool b)
  | int (i : Int) : Dd K H (.int i) (.int i)
  | str (x : Str) : Dd K H (.str x) (.str x)
  | tup {a : Addr} {xs : List V} {ds : List PyData} : SqT K H a xs → DdAll K H xs ds → Dd K H (.ref a) (.tuple ds)
  | dk {a : Addr} {kvs : List (Key × V)} {ps : List (PyData × PyData)} : Rd H a (.dK kvs) → ps.map (·.1) = kvs.map (fun p => kD p.1) → DdAll K H (kvs.map (·.2)) (ps.map (·.2)) → Dd K H (.ref a) (.dict ps)
inductive DdAll (K : PySem.W.Frag) (H : Hp) : List V → List PyData → Prop
  | nil : DdAll K H [] []
  | cons {v : V} {vs : List V} {d : PyData} {ds : List PyData} : Dd K H v d → DdAll K H vs ds → DdAll K H (v :: vs) (d :: ds)
end
theorem reads_key {h : Heap} {k : Key} {v : Value} (e : keyIs k v = true) : Reads h v (kD k) [] := by
  rcases keyIs_shape e with ⟨i, t, rfl, rfl⟩ | ⟨x, t, rfl, rfl⟩
  · exact .int i t
  · exact .str x t
theorem reads_keys {P : Program} {w : World} {h : Heap} : ∀ {es : List DictEntry} {vs : List (Key × Value)}, Pairs (knd := mixKind P w) es vs → ReadsAll h (es.map (·.key)) (vs.map fun p => kD p.1) []
  | _, _, .nil => .nil
  | _, _, .cons h1 _ t => .cons (as := []) (bs := []) (reads_key h1) (reads_keys t)
theorem pairs_vals {P : Program} {w : World} : ∀ {es : List DictEntry} {vs : List (Key × Value)}, Pairs (knd := mixKind P w) es vs → es.map (·.val) = vs.map (·.2)
  | _, _, .nil => rfl
  | _, _, .cons _ h2 t => by rw [List.map_cons, List.map_cons, h2, pairs_vals t]
theorem kv_vals : ∀ {kvs : List (Key × V)} {vs : List (Key × Value)}, KV kvs vs → Vals (kvs.map (·.2)) (vs.map (·.2)) ∧ kvs.map (fun p => kD p.1) = vs.map fun p => kD p.1
  | _, _, .nil => ⟨.nil, rfl⟩
  | _, _, .cons h t => by
    obtain ⟨h1, h2⟩ := h
    obtain ⟨r1, r2⟩ := kv_vals t
    exact ⟨.cons h2 r1, by rw [List.map_cons, List.map_cons, h1, r2]⟩
section
variable {X : Cx} {pins : List (Addr × Obj)} {σ : L2.St} {H : Hp} {s : Shared}
mutual
theorem Dd.reads (I : L2.Inv X pins σ H s) : ∀ (d : PyData) (v : V) (u : Value), Dd X.K H v d → RelV v u → ∃ as, Reads s.heap u d as ∧ sysModules ∉ as
  | .none, _, _, h, r => by
    cases h
    cases r
    exact ⟨_, Reads.none, by simp⟩
  | .bool b, _, _, h, r => by
    cases h
    cases r
    exact ⟨_, Reads.bool b, by simp⟩
  | .int i, _, _, h, r => by
    cases h
    obtain ⟨t, rfl⟩ := r
    exact ⟨_, Reads.int i t, by simp⟩
  | .str x, _, _, h, r => by
    cases h
    obtain ⟨t, rfl⟩ := r
    exact ⟨_, Reads.str x t, by simp⟩
  | .list ds, _, _, h, r => by cases h
  | .tuple ds, _, _, h, r => by
    cases h with
    | tup hs ha =>
      cases r
      obtain ⟨its, rv, ⟨o, ho, hc, n, hd⟩, _⟩ := I.tuple hs
      obtain ⟨as, hr, hn⟩ := Dd.readsAll I ds _ its ha rv
      exact ⟨_, Reads.tuple ho hc hd hr, hn⟩
  | .dict ps, _, _, h, r => by
    cases h with
    | dk hs hk ha =>
      rename_i a kvs
      cases r
      obtain ⟨hz, hne, vs, rel, o, es, ep, ho, hx, hd, hks, hps, hnd⟩ := dk_rd I.hok hs
      obtain ⟨rv, ek⟩ := kv_vals rel
      obtain ⟨as, hr, hn⟩ := Dd.readsAllP I ps _ _ ha rv
      refine ⟨_, Reads.dict (as := []) (bs := as) ho hx.1 hd ?_ ?_, ?_⟩
      · rw [hk, ek]
        exact reads_keys hps
      · rw [pairs_vals hps]
        exact hr
      · intro z
        rcases List.mem_append.mp z with z | z
        · have := List.mem_singleton.mp z
          rw [← this] at hne
          simp at hne
        · exact hn z
theorem Dd.readsAll (I : L2.Inv X pins σ H s) : ∀ (ds : List PyData) (vs : List V) (us : List Value), DdAll X.K H vs ds → Vals vs us → ∃ as, ReadsAll s.heap us ds as ∧ sysModules ∉ as
  | [], _, _, h, r => by
    cases h
    cases r
    exact ⟨_, ReadsAll.nil, by simp⟩
  | d :: ds, _, _, h, r => by
    cases h with
    | cons h1 h2 =>
      cases r with
      | cons r1 r2 =>
        obtain ⟨as, q1, n1⟩ := Dd.reads I d _ _ h1 r1
        obtain ⟨bs, q2, n2⟩ := Dd.readsAll I ds _ _ h2 r2
        exact ⟨_, ReadsAll.cons q1 q2, fun z => (List.mem_append.mp z).elim n1 n2⟩
theorem Dd.readsAllP (I : L2.Inv X pins σ H s) : ∀ (ds : List (PyData × PyData)) (vs : List V) (us : List Value), DdAll X.K H vs (ds.map (·.2)) → Vals vs us → ∃ as, ReadsAll s.heap us (ds.map (·.2)) as ∧ sysModules ∉ as
  | [], _, _, h, r => by
    cases h
    cases r
    exact ⟨_, ReadsAll.nil, by simp⟩
  | (k, d) :: ds, _, _, h, r => by
    cases h with
    | cons h1 h2 =>
      cases r with
      | cons r1 r2 =>
        obtain ⟨as, q1, n1⟩ := Dd.reads I d _ _ h1 r1
        obtain ⟨bs, q2, n2⟩ := Dd.readsAllP I ds _ _ h2 r2
        exact ⟨_, ReadsAll.cons q1 q2, fun z => (List.mem_append.mp z).elim n1 n2⟩
end
end
/-- what can be shown, and is short -/
structure Showy (d : PyData) : Prop where
  ok : d.showable = true
  dp : d.depth ≤ 64
  sz : d.shown.length ≤ sizeLine
section
variable {X : Cx}
theorem call_repr (hg : X.A.guards = some []) (hu : X.A.units + 70 < cLine) : CallR X (.builtin "repr") (fun xs H Q => ∃ a d, xs = [.ref a] ∧ ((Dp X.K H (.ref a) d ∧ d.hasDict = false) ∨ Dd X.K H (.ref a) d) ∧ Showy d ∧ Q (.str d.shown) H) := by
  intro pins s σ H xs us Q I r q
  obtain ⟨a, d, rfl, hd, hs, q⟩ := q
  obtain ⟨u, rfl, rx⟩ := vals1 r
  have hR : ∃ as, Reads s.heap u d as ∧ (d.hasDict = true → sysModules ∉ as) := by
    rcases hd with ⟨hd, hn⟩ | hd
    · obtain ⟨as, h1⟩ := Dp.reads I d _ u hd rx
      exact ⟨as, h1, fun z => by rw [hn] at z; cases z⟩
    · obtain ⟨as, h1, h2⟩ := Dd.reads I d _ u hd rx
      exact ⟨as, h1, fun _ => h2⟩
  obtain ⟨as, h1, h2⟩ := hR
  cases rx
  have hdp := hs.dp
  refine repr_of_reads' h1 hs.ok h2 hg (by omega) (fun _ _ e => e) (fun h' u tk kp => ?_) hs.sz
  exact ⟨.str d.shown, H, I.call (ch := []) (Un.kept kp) (I.hok.kept kp) I.bare (fun _ z => nomatch z), ⟨u, rfl⟩, q⟩
end
/-! The law itself, run where it is run: nothing is being shown there (repr of lists, tuples, dicts asks for that). -/
open PySem PySem.Spec PyProof.Rows L2
/-- a def keeps its promise at the surroundings A -/
def RunAt (P : Program) (w : World) (K : PySem.W.Frag) (mg : Str → Option Value) (base : Heap) (CX : CXT) (A : Around) (f : Addr) (fd : FuncData) (ps : List Str) (sp : Sp) : Prop :=
  ∀ (outer : List Env) (s : Shared) (H : Hp) (args : Args) (us : List Value) (vs : List V) (Q : VK) (E : XK), Env0 P w K mg base A outer s H → BindsTo s fd args (ps.zip us) → Vals vs us → sp vs H Q E →
    codeAny (model P w) A (.call (.ref f) args) (CR CX outer P w H s Q E) s
theorem run_at {CX : CXT} {P : Program} {w : World} {K : PySem.W.Frag} {mg : Str → Option Value} {base : Heap} {A : Around} {x qual : Str} {params : Arguments} {body : List Stmt} {scope : Scope} {dvs : List V} {kws : List (Str × V)} {f : Addr} {fd : FuncData} {N ps : List Str} {k : Nat} {sp : Sp}
    (F : FunD K x qual params body scope dvs kws f fd) (hr : Room (k + 1) A) (S : FnScope N ps scope) (len : ∀ vs H Q E, sp vs H Q E → vs.length = ps.length)
    (hbody : ∀ (cdv : Value) (outer : List Env) (s : Shared) (H : Hp) (vs : List V) (Q : VK) (E : XK), Room k (A.deeper (envOfC qual scope s.heap.objs.size f cdv)) → sp vs H Q E →
      ∃ t, PSs (cxOf CX P w K mg base N qual scope f cdv A outer s H E) body t ∧ t { nx := fun _ H' => Q .non H', rt := Q } (start N vs) H) : RunAt P w K mg base CX A f fd ps sp := by
  obtain ⟨oc, od, dV, kV, doc, pm, an, cdv, ct, osl, rfl, lk, hcd, _, _⟩ := F.ex
  intro outer s H args us vs Q E e0 hb r hsp
  have KX : K.In s.heap := e0.mod.kin.keeps fun b o e => (e0.bs b o e).1
  have hkind : ∀ y ∈ ps.zip us, scope.names.lookup y.1 = some .local ∨ (scope.names.lookup y.1 = some .cell ∧ ((cellsFrom (s.heap.objs.size + 1) scope.names []).lookup y.1).isSome = true) := by
    rintro ⟨n, v⟩ hy
    have q := S.par n (List.of_mem_zip hy).1
    exact q.imp id fun z => ⟨z, PySem.W.cellsFrom_some _ _ _ (.inl z)⟩
  refine codeAny_call_function hr.depth (KX _ _ lk) rfl S.co S.gen rfl (PySem.W.codeRec_of KX hcd) (hb _ _ _ _ (wpAny_newFunctionEnv_cells S.kind hkind fun env he s1 x => ?_))
  subst he
  have hlim : s.heap.NoLimit := e0.mod.nolimit.keeps fun b o e => (e0.bs b o e).1
  obtain ⟨t, ht, hq⟩ := hbody cdv outer s H vs Q E (hr.deeper _) hsp
  refine ⟨hlim.keeps x.toInCall.keep, codeAny_func (wpAny_mono (ht.run [] s1 (start N vs) H _ (inv_start S hr.hd e0 (len _ _ _ _ hsp) r x) hq) (fun fl s' hs => ?_) fun e s' hs => hs)⟩
  cases fl with
  | ret u =>
    obtain ⟨v, σ', H', J, rv, q⟩ := hs
    exact ⟨v, H', J.os, J.bare, J.base, J.hok, rv, q⟩
  | next =>
    obtain ⟨σ', H', J, q⟩ := hs
    exact ⟨.non, H', J.os, J.bare, J.base, J.hok, rfl, q⟩
  | brk =>
    obtain ⟨_, _, _, q⟩ := hs
    exact False.elim q
  | cont =>
    obtain ⟨_, _, _, q⟩ := hs
    exact False.elim q
/-- the law's end at s₁, of which H tells no more than the script at a -/
theorem law_end {P : Program} {w : World} {K : PySem.W.Frag} {mg mb : Str → Option Value} {fa a : Addr} {fd : FuncData} {x : Str} {sp : Sp} {s₁ : Shared} {vs : List Value} {H : Hp}
    (KX : K.In s₁.heap) (hns : s₁.heap.Ns mainGlobals mg) (hb : s₁.heap.Ns builtinsNs mb) (hbb : ∀ x : Str, x ≠ "__name__" → mb x = bootBuiltins x) (hlim : s₁.heap.NoLimit) (hg : s₁.gens = #[])
    (ha : s₁.heap.get? a = some { cls := .type "list", data := .seq vs.toArray })
    (F : ∀ base : Heap, K.In base → base.Ns mainGlobals mg → RunAt P w K mg base CX0 callerA fa fd [x] sp) (hbind : ∀ (s : Shared) (u : Value), BindsTo s fd ⟨[u], []⟩ [(x, u)])
    (hO : Only H) (hok : HOk P w H s₁.heap) (hA : ∀ b, H b ≠ none → b = a) (hK : H a ≠ none → K.lookup a = none) (hsp : sp [.ref a] H (fun v _ => v = .bl true) fun _ _ _ => False) :
    codeAny (model P w) callerA (.call (.ref fa) ⟨[.ref a], []⟩) (fun r s' => r = .ok (.ret (.bool true)) ∧ OldK s₁.heap s'.heap ∧ s'.os = s₁.os ∧ AllBare s'.gens) s₁ := by
  have old : ∀ {b : Addr} {o : Obj}, s₁.heap.get? b = some o → b ≠ a → H b = none := fun {b o} _ h => by
    cases q : H b with
    | none => rfl
    | some u => exact absurd (hA b (by rw [q]; simp)) h
  have nsK : ∀ {b : Addr} {m : Str → Option Value}, s₁.heap.Ns b m → (hidT s₁.heap H).Ns b m := by
    rintro b m ⟨o, es, ep, e, d, r⟩
    refine ⟨o, es, ep, hidT_get e (old e fun z => ?_), d, r⟩
    rw [z, ha] at e
    cases e
    cases d
  have kin : K.In (hidT s₁.heap H) := fun b o e => by
    by_cases z : H b = none
    · exact hidT_get (KX b o e) z
    · have z2 := hA b z
      rw [z2] at z e
      rw [hK z] at e
      cases e
  obtain ⟨mc, l1, l2⟩ := hlim
  have e0 : Env0 P w K mg (hidT s₁.heap H) callerA [] s₁ H := by
    refine ⟨rfl, ⟨kin, nsK hns, ⟨mb, nsK hb, hbb⟩, ⟨mc, nsK l1, l2⟩⟩, fun b o e => of_hidT e, Nat.le_of_eq (hidT_size _ _), trivial, fun b hb => ?_, hok, .of_eq hg⟩
    exact absurd (show b ∈ ([] : List Addr) from hb) (by simp)
  refine codeAny_mono (F _ kin (nsK hns) [] s₁ H _ [.ref a] [.ref a] _ _ e0 (hbind s₁ (.ref a)) (.cons rfl .nil) hsp) fun r s' h => ?_
  cases r with
  | error e => exact h.elim
  | ok fl =>
    cases fl with
    | ret u =>
      obtain ⟨v, H', os, bare, un, hok', rv, q⟩ := h
      have q' : v = .bl true := q
      rw [q'] at rv
      have hu : u = Value.bool true := rv
      rw [hu]
      refine ⟨rfl, OldK.of_keep fun b o e => ?_, os, bare⟩
      rcases hO b with z | ⟨ob, xs, z⟩
      · exact un.keep b o e z (fun m => absurd (show b ∈ ([] : List Addr) from m) (by simp)) (by simp)
      · have h1 := (hok b _ z).1
        have h2 := (hok' b _ (un.frzs b ob _ z)).1
        rw [e] at h1
        rw [h2, ← h1]
    | _ => exact False.elim h
/-- a law whose def keeps its promise where it is run -/
theorem walk_at {l : PySem.W.OpenLaw} {n k : Nat} {q : Program} {loose : List Str} {XP : (Str → Option Value) → Heap → Prop} {YP : World → Heap → Prop} {d : DefRec} {x : Str}
    (hn : l.most = some n) (hn2 : n ≤ sizeLine) (hdf : d.params.defaults = [])
    (F : ∀ (w : World) (mg : Str → Option Value) (fa : Addr) (h : Heap), YP w h → h.Ns mainGlobals mg → mg d.name = some (.ref fa) →
      ∃ (K : PySem.W.Frag) (fd : FuncData) (sp : Sp), K.In h ∧ (∀ (s : Shared) (u : Value), BindsTo s fd ⟨[u], []⟩ [(x, u)]) ∧
        (∀ (H : Hp) (a : Addr) (ns : List Int), ns.length ≤ n → Only H → SqL K H a (ns.map V.int) → sp [.ref a] H (fun v _ => v = .bl true) fun _ _ _ => False) ∧
        ∀ base : Heap, K.In base → base.Ns mainGlobals mg → RunAt l.prog w K mg base CX0 callerA fa fd [x] sp) :
    PySem.W.WalkO q loose XP YP l.row.toRowW d [] (fun f vs => PySem.call f vs) := by
  refine Att.attach_call hn hdf fun w s₀ s₁ mg mb fa o pm cd doc a vs ns G Y ho hd hcd hmg hobj hints hlen hg => ?_
  obtain ⟨K, fd, sp, KX, hb, hsp, hF⟩ := F w mg fa _ Y G.T.g hmg
  have rv := vals_ints hints
  have hz : ns.length ≤ sizeLine := Nat.le_trans hlen hn2
  by_cases hk : K.lookup a = none
  · let H : Hp := fun b => if b = a then some (.frz { cls := .type "list", data := .seq vs.toArray } (.lst (ns.map V.int))) else none
    have at_ : H a = some (.frz { cls := .type "list", data := .seq vs.toArray } (.lst (ns.map V.int))) := if_pos rfl
    have off : ∀ b, b ≠ a → H b = none := fun b z => if_neg z
    have hO : Only H := fun b => by
      by_cases z : b = a
      · rw [z]; exact .inr ⟨_, _, at_⟩
      · exact .inl (off b z)
    refine law_end KX G.T.g G.T.b G.T.builtins G.T.nolimit hg hobj hF hb hO (fun b u z => ?_) (fun b z => ?_) (fun _ => hk) (hsp H a ns hlen hO (.inl (.inr ⟨_, at_⟩)))
    · by_cases e : b = a
      · rw [e, at_] at z
        cases z
        rw [e]
        exact ⟨hobj, by rw [List.length_map]; exact hz, vs, _, rv, hobj⟩
      · rw [off b e] at z; cases z
    · by_cases e : b = a
      · exact e
      · exact absurd (off b e) z
  · cases hk2 : K.lookup a with
    | none => exact absurd hk2 hk
    | some o2 =>
      have e := KX a o2 hk2
      rw [hobj] at e
      cases e
      have hO : Only (fun _ => none) := fun _ => .inl rfl
      refine law_end (H := fun _ => none) KX G.T.g G.T.b G.T.builtins G.T.nolimit hg hobj hF hb hO (fun b u z => by cases z) (fun b z => absurd rfl z) (fun z => absurd rfl z) (hsp _ a ns hlen hO (.inr ⟨_, vs.toArray, _, hk2, rfl, rfl, rfl, ?_, by simpa using rv⟩))
      rw [List.size_toArray, hints.length]
      exact hz
/-! An own __bool__ (by bool), an own __contains__ (by in), an own __eq__ (by !=, through object's __ne__). -/
open PySem PySem.Spec PyProof.Rows L2
section
variable {X : Cx} {n k : Nat} {C f : Addr} {sp : Sp} {m : Str}
/-- a promise, kept below the running body -/
theorem run_below {fd : FuncData} {ps : List Str} {ds : List Value} {dvs : List V} (F : FnOk X.prog X.w X.K X.mg X.base CX0 n f fd ps sp) (hb : Binds X.K fd ps ds) (hd : Vals dvs ds) {A : Around} (sb : Sub X n A) {pins : List (Addr × Obj)} {σ : L2.St} {H : Hp} {s : Shared} (I : L2.Inv X pins σ H s)
    {vs : List V} {us : List Value} (r : Vals vs us) {Q : VK} (hsp : sp (vs ++ dvs) H Q C8.E0) : wpAny (model X.prog X.w) A (call (.ref f) us) (EP X pins σ Q) X.xe s := by
  have e0 : Env0 X.prog X.w X.K X.mg X.base A X.stack s H := by
    have e := I.env0
    exact ⟨by rw [sb.fr]; exact e.frames, e.mod, e.bs, e.bsz, e.funs, e.frf, e.hok, e.bare⟩
  have r2 : Vals (vs ++ dvs) (us ++ ds) := r.append hd
  have hl : (us ++ ds).length = ps.length := by rw [← r2.length]; exact F.len _ _ _ _ hsp
  refine wpAny_call (codeAny_mono (F.run A X.stack s H ⟨us, []⟩ (us ++ ds) (vs ++ dvs) Q C8.E0 sb.room e0 (hb s us I.kIn hl) r2 hsp) fun r s' hq => ?_)
  cases r with
  | error e => exact False.elim hq
  | ok fl =>
    cases fl with
    | ret u => exact I.after hq
    | _ => exact False.elim hq
/-- bool(x) by an own __bool__ -/
theorem call_boolOwn (M : C8.Met X.prog X.w X.K X.mg X.base n C "__bool__" sp []) (hr : Room (n + 4) X.A) : CallR X (.type "bool") (fun xs H Q => ∃ a dx fs, xs = [.ref a] ∧ H a = some (.ins C dx fs) ∧ sp [.ref a] H (fun v H' => ∃ b, v = .bl b ∧ Q (.bl b) H') C8.E0) := by
  intro pins s σ H xs us Q I r q
  obtain ⟨a, dx, fs, rfl, ha, q⟩ := q
  obtain ⟨u, rfl, rx⟩ := vals1 r
  cases rx
  obtain ⟨f, fd, ps, ds, hc, me, FK, hb, hd⟩ := M.ex
  obtain ⟨mA, J, _⟩ := ins_get I.hok ha
  obtain ⟨od, J, _⟩ := J.look
  obtain ⟨mm, hF⟩ := I.fr
  have hsub : isSubtype (.type "bool") (.type "bool") = pure true := by kernel_rfl
  refine callType_newIn (S := fun A' R s' => A' = X.A.in1 ∧ s' = s ∧ (∀ (v : Value) (s'' : Shared), EP X pins σ (fun v H' => ∃ b, v = .bl b ∧ Q (.bl b) H') v s'' → R (.ok (.ret v)) s'') ∧ ∀ e s'', X.xe e s'' → R (.error e) s'') F.called_bool F.newNe_bool (F.typeCall_bool_1 _) (F.newCall_bool_1 _) (fun obj => F.args_object_init_2 obj _) F.entry_bool_new (.of_wp fun A' R s' h => ?_) ⟨rfl, rfl, fun v s'' h => ?_, fun e s'' h => h⟩
  · obtain ⟨hA, hs, h1, h2⟩ := h
    subst hA
    subst hs
    have sb : Sub X n X.A.in1.in1 := ⟨(hr.mono (j := n + 2) (by omega)).in1.in1, rfl⟩
    have ht : wpAny (model X.prog X.w) X.A.in1.in1 (truthy (.ref a)) (fun b s'' => R (.ok (.ret (.bool b))) s'') (fun e s'' => R (.error e) s'') s' :=
      PySem.W.truthy_K hF I.ok.mod.kin J me.at_ me.fn (wpAny_mono (run_below (vs := [.ref a]) FK hb hd sb I (.cons rfl .nil) (by cases hd; exact q)) (fun r s'' z => by
        obtain ⟨v', H', J', rv, b, rfl, q'⟩ := id z
        cases rv
        exact h1 _ _ ⟨.bl b, H', J', rfl, b, rfl, q'⟩) h2)
    unfold Builtin.«bool.__new__»
    generalize truthy = T at ht ⊢
    wp_walk
    refine wpAny_mono ht (fun b s'' z => ?_) fun _ _ e => e
    exact wpAny_pure ⟨_, rfl, z⟩
  · obtain ⟨v', H', J', rv, b, rfl, q'⟩ := h
    cases rv
    exact ⟨PySem.typeIs_bool _ _, .bl b, H', J', rfl, q'⟩
/-- v in x by an own __contains__ -/
theorem op_inOwn (M : C8.Met X.prog X.w X.K X.mg X.base n C "__contains__" sp []) (hr : Room n X.A) : OpR X (compareOp .In) (fun x y H Q => ∃ a dx fs, y = .ref a ∧ H a = some (.ins C dx fs) ∧ sp [.ref a, x] H (fun v H' => ∃ b, v = .bl b ∧ Q (.bl b) H') C8.E0) := by
  intro pins s σ H x y v u Q I rx ry h
  obtain ⟨a, dx, fs, rfl, ha, q⟩ := h
  cases ry
  obtain ⟨f, fd, ps, ds, hc, me, FK, hb, hd⟩ := M.ex
  obtain ⟨mA, J, _⟩ := ins_get I.hok ha
  obtain ⟨od, J, _⟩ := J.look
  obtain ⟨mm, hF⟩ := I.fr
  refine PySem.W.in_K hF I.ok.mod.kin J me.at_ me.fn (wpAny_mono (run_below (vs := [.ref a, x]) FK hb hd ⟨hr, rfl⟩ I (.cons rfl (.cons rx .nil)) (by cases hd; exact q)) (fun r s' z => ?_) fun _ _ e => e)
  obtain ⟨v', H', J', rv, b, rfl, q'⟩ := z
  cases rv
  exact wpAny_truthy_bool ⟨.bl b, H', J', rfl, q'⟩
/-- what a class with an own __eq__ and object's __ne__ must have -/
structure NeC (K : PySem.W.Frag) (C : Addr) : Prop where
  ne : PySem.W.findIn K (.ref C) "__ne__" = some (some (.builtin "object.__ne__"))
  ob : PySem.W.subIn K (.ref C) (.type "object") = some true
theorem slot_one : Slot "object" "__ne__" "object.__ne__" :=
  .of (owner := "object") (n := "__ne__") (by rw [typeLookup_type, builtinLookup_eq_fast]; kernel_rfl) (by decide +kernel) (by decide +kernel) (by decide +kernel) (by decide +kernel) (by kernel_rfl)
/-- x != y by an own __eq__ -/
theorem op_neOwn (M : C8.Met X.prog X.w X.K X.mg X.base n C "__eq__" sp []) (N : NeC X.K C) (hr : Room (n + 2) X.A) : OpR X (compareOp .NotEq) (fun x y H Q => ∃ a b dx dy fs gs, x = .ref a ∧ y = .ref b ∧ H a = some (.ins C dx fs) ∧ H b = some (.ins C dy gs) ∧ sp [.ref a, .ref b] H (fun v H' => ∃ c, v = .bl c ∧ Q (.bl (!c)) H') C8.E0) := by
  intro pins s σ H x y v u Q I rx ry h
  obtain ⟨a, b, dx, dy, fs, gs, rfl, rfl, ha, hb2, q⟩ := h
  cases rx
  cases ry
  obtain ⟨f, fd, ps, ds, hc, me, FK, hb, hd⟩ := M.ex
  obtain ⟨mA, J, _⟩ := ins_get I.hok ha
  obtain ⟨mB, J2, _⟩ := ins_get I.hok hb2
  obtain ⟨od, J, _⟩ := J.look
  obtain ⟨od2, J2, _⟩ := J2.look
  have hK : X.K.In s.heap := I.kIn
  have hu : X.A.units + 1 < cLine := by have := hr.un; omega
  have sb : Sub X n X.A.in1 := ⟨(hr.mono (j := n + 1) (by omega)).in1, rfl⟩
  have hcall : wpAny (model X.prog X.w) X.A.in1 (call (.ref f) [.ref a, .ref b]) (fun v s' => ∃ c, v = .bool c ∧ EP X pins σ Q (.bool (!c)) s') X.xe s := by
    refine wpAny_mono (run_below (vs := [.ref a, .ref b]) FK hb hd sb I (.cons rfl (.cons rfl .nil)) (by cases hd; exact q)) (fun r s'' z => ?_) fun _ _ e => e
    obtain ⟨v', H', J', rv, c, rfl, q'⟩ := z
    cases rv
    exact ⟨c, rfl, .bl (!c), H', J', rfl, q'⟩
  -- object.__ne__
  have hne : wpAny (model X.prog X.w) X.A.in1 (Builtin.«object.__ne__» ⟨[.ref a, .ref b], []⟩) (fun fin s' => ∃ c, fin = .done (.ret (.bool c)) ∧ EP X pins σ Q (.bool c) s') X.xe s := by
    unfold Builtin.«object.__ne__»
    generalize hs : s = s0 at *
    have huu : X.A.in1.units < cLine := hu
    have key : wpAny (model X.prog X.w) X.A.in1 (callSpecialIfBound? (.ref a) (Str.ofString "__eq__") [.ref b]) (fun r s' => ∃ c, r = some (.bool c) ∧ EP X pins σ Q (.bool (!c)) s') X.xe s0 :=
      PySem.W.ifBound_K hK J me.at_ me.fn (wpAny_mono hcall (fun r s' hr => by
        obtain ⟨c, rfl, hq⟩ := hr
        exact ⟨c, rfl, hq⟩) fun _ _ e => e)
    refine wpAny_bind (wpAny_of_eq (a := (Value.ref a, [Value.ref b])) (by rfl) ?_)
    dsimp only
    refine wpAny_bind (wpAny_cRoomFor huu ?_)
    refine wpAny_bind (wpAny_mono key (fun r s' hr => ?_) fun _ _ e => e)
    obtain ⟨c, rfl, hq⟩ := hr
    refine wpAny_bind (m := truthy (.bool c)) (wpAny_truthy_bool ?_)
    exact wpAny_pure ⟨_, rfl, hq⟩
  have hcb : wpAny (model X.prog X.w) X.A (call (.builtin "object.__ne__") [.ref a, .ref b]) (fun v s' => ∃ c, v = .bool c ∧ EP X pins σ Q (.bool c) s') X.xe s := by
    refine wpAny_call (codeAny_call_builtin slot_one.plain PySem.F.cmpEntry_ne (PySem.W.check_slot PySem.F.cmpKind_ne PySem.F.cmpSplit_ne (J.type.andThen (PySem.W.looks_subIn hK N.ob)) (PySem.F.cmpArgs_ne _ _) ?_))
    refine wpAny_mono hne (fun fin s' z => ?_) fun _ _ e => e
    obtain ⟨c, rfl, z⟩ := z
    exact ⟨c, rfl, z⟩
  show wpAny (model X.prog X.w) X.A (richCompare .NotEq (.ref a) (.ref b)) (EP X pins σ Q) X.xe s
  unfold richCompare
  simp only [oneThing_ref]
  refine wpAny_holding (wpAny_bind (wpAny_cRoomFor (Nat.lt_of_succ_lt hu) ?_))
  rw [cmpInfo_NotEq]
  dsimp only
  refine wpAny_bind (J.type.here (wpAny_bind (J2.type.here ?_)))
  rw [show (Value.ref C != Value.ref C) = false from by simp]
  simp only [Bool.false_eq_true, if_false]
  refine wpAny_bind (wpAny_pure ?_)
  simp only [Bool.false_eq_true, if_false]
  have one : wpAny (model X.prog X.w) X.A (tryCompare (.ref a) "__ne__" (.ref b)) (fun r s' => ∃ v, r = some v ∧ EP X pins σ Q v s') X.xe s := by
    unfold tryCompare
    have key : wpAny (model X.prog X.w) X.A (callSpecialIfBound? (.ref a) (Str.ofString "__ne__") [.ref b]) (fun r s' => ∃ c, r = some (.bool c) ∧ EP X pins σ Q (.bool c) s') X.xe s := by
      simp only [callSpecialIfBound?, bindSpecialIfBound?]
      refine wpAny_holding (wpAny_bind (wpAny_bind (wpAny_bind (J.type.here ((PySem.W.looks_findIn hK N.ne).here ?_)))))
      refine wpAny_bind (wpAny_askSetting (wpAny_ite ?_))
      have fin : wpAny (model X.prog X.w) X.A (call (.builtin "object.__ne__") ([.ref a] ++ [.ref b]) >>= fun v => pure (some v)) (fun r s' => ∃ c, r = some (.bool c) ∧ EP X pins σ Q (.bool c) s') X.xe s :=
        wpAny_bind (wpAny_mono hcb (fun v s' h' => by
          obtain ⟨c, rfl, hq⟩ := h'
          exact wpAny_pure ⟨c, rfl, hq⟩) fun _ _ h' => h')
      rw [slot_one.bind]
      split
      · exact wpAny_bind (wpAny_pure (wpAny_pure (by exact fin)))
      · exact wpAny_tryCatch (wpAny_bind (wpAny_pure (wpAny_pure (by exact fin))))
    refine wpAny_bind (wpAny_mono key (fun r s' hr => ?_) fun _ _ e => e)
    obtain ⟨c, rfl, hq⟩ := hr
    exact wpAny_pure ⟨_, rfl, hq⟩
  refine wpAny_bind (wpAny_mono one (fun r s' z => ?_) fun _ _ e => e)
  obtain ⟨v, rfl, hq⟩ := z
  exact wpAny_pure hq
end
/-! != and == of two dicts that hold the same data in the same order. -/
open PySem PySem.Spec PyProof.Rows L2
theorem valueAt_mem {kb : List (Key × Value)} (nd : (kb.map (·.1)).Nodup) {k : Key} {y : Value} (h : (k, y) ∈ kb) : valueAt kb k = some y := by
  unfold valueAt
  induction kb with
  | nil => cases h
  | cons p r ih =>
    rw [List.map_cons, List.nodup_cons] at nd
    rw [List.find?_cons]
    rcases List.mem_cons.mp h with e | e
    · rw [← e]
      simp
    · have hne : p.1 ≠ k := fun z => nd.1 (by rw [z]; exact List.mem_map_of_mem (f := (·.1)) e)
      rw [show (decide (p.1 = k)) = false from decide_eq_false hne]
      exact ih nd.2 e
section
variable {X : Cx}
/-- data that == sees through, and that is equal to itself -/
def Plain (d : PyData) : Prop := SeqAt.shaped d = true ∧ PyData.eqv d d = true
theorem plain_of {d : PyData} (h : SeqAt.shaped d = true) : Plain d := ⟨h, SeqAt.eqv_refl d (SeqAt.canLay_of_shaped h)⟩
theorem keq_same {pins : List (Addr × Obj)} {σ : L2.St} {H : Hp} {s : Shared} (I : L2.Inv X pins σ H s) (hu : X.A.units + 66 < cLine) {kb : List (Key × Value)} (nd : (kb.map (·.1)).Nodup)
    (ds : List PyData) : ∀ (ka' kb' : List (Key × V)) (va vb : List (Key × Value)), (∀ d ∈ ds, Plain d) → ka'.map (·.1) = kb'.map (·.1) → KV ka' va → KV kb' vb → DpAll X.K H (ka'.map (·.2)) ds → DpAll X.K H (kb'.map (·.2)) ds → (∀ p ∈ vb, p ∈ kb) →
      PySem.W.KeqHits X.A.in1 s kb va true := by
  induction ds with
  | nil =>
    intro ka' kb' va vb hp hk ra rb h h2 hm
    cases ka' with
    | nil => cases ra; exact .nil
    | cons p r => cases h
  | cons d ds ih =>
    intro ka' kb' va vb hp hk ra rb h h2 hm
    cases ka' with
    | nil => cases h
    | cons p r =>
      cases kb' with
      | nil => cases h2
      | cons p2 r2 =>
        cases ra with
        | cons hpq t =>
          cases rb with
          | cons hpq2 t2 =>
            rename_i q l q2 l2
            cases h with
            | cons h1 h3 =>
              cases h2 with
              | cons h4 h5 =>
                obtain ⟨as, r1⟩ := Dp.reads I d _ _ h1 hpq.2
                obtain ⟨bs, r2⟩ := Dp.reads I d _ _ h4 hpq2.2
                obtain ⟨k1, v1⟩ := q
                obtain ⟨k2, v2⟩ := q2
                have e1 : p.1 = k1 := hpq.1
                have e2 : p2.1 = k2 := hpq2.1
                rw [List.map_cons, List.map_cons] at hk
                have hk' := List.cons.inj hk
                have ek : k1 = k2 := by rw [← e1, ← e2]; exact hk'.1
                have pd := hp d (List.mem_cons_self ..)
                have at_ := PySem.W.keq_at (A := X.A) r1 r2 pd.1 pd.1 (by show X.A.units + 1 + 64 < cLine; omega)
                rw [pd.2] at at_
                have hy : valueAt kb k1 = some v2 := by rw [ek]; exact valueAt_mem nd (hm _ (List.mem_cons_self ..))
                exact PySem.W.KeqHits.hit (e := true) (b := true) hy at_ (ih _ _ _ _ (fun d hd => hp d (List.mem_cons_of_mem _ hd)) hk'.2 t t2 h3 h5 fun p hp => hm p (List.mem_cons_of_mem _ hp))
theorem op_neDict (hu : X.A.units + 66 < cLine) : OpR X (compareOp .NotEq) (fun x y H Q => ∃ (a b : Addr) (ka kb : List (Key × V)) (ds : List PyData), x = .ref a ∧ y = .ref b ∧ Rd H a (.dK ka) ∧ Rd H b (.dK kb) ∧ ka.map (·.1) = kb.map (·.1) ∧
    DpAll X.K H (ka.map (·.2)) ds ∧ DpAll X.K H (kb.map (·.2)) ds ∧ (∀ d ∈ ds, Plain d) ∧ Q (.bl false) H) := by
  intro pins s σ H x y v u Q I rx ry h
  obtain ⟨a, b, ka, kb, ds, rfl, rfl, ha, hb, hk, h1, h2, hp, q⟩ := h
  cases rx
  cases ry
  obtain ⟨za, na, va, ra, da⟩ := dk_rd I.hok ha
  obtain ⟨zb, nb, vb, rb, db⟩ := dk_rd I.hok hb
  have nd : (vb.map (·.1)).Nodup := by
    obtain ⟨o, es, ep, _, _, _, _, _, nd⟩ := db
    exact nd
  have hlen : va.length = vb.length := by
    rw [← Paired.length ra, ← Paired.length rb]
    have := congrArg List.length hk
    rw [List.length_map, List.length_map] at this
    exact this
  refine PySem.W.keq_ne na nb da db (by omega) (fun _ => keq_same I hu nd ds ka kb va vb hp hk ra rb h1 h2 (fun p hp => hp)) ⟨.bl false, H, I, ?_, q⟩
  show Value.bool _ = Value.bool false
  rw [hlen]
  simp
end
/-! xs.extend(t), t a tuple. -/
open PySem PySem.Spec PyProof.Rows L2
theorem ext_tup (l : Addr) (items : Array Value) (n : Nat) (b : Addr) (items2 : Array Value) (n2 : Nat) (dd : Option Addr) (sl : Array (Option Value)) (h0 : ¬(!items.isEmpty && Builtin.List.listTooLong (items.size + items2.size)) = true) (h1 : items.size ≤ sizeLine) (h2 : items.size + items2.size ≤ sizeLine + 1) :
    Meets (Builtin.«list.extend» ⟨[.ref l, .ref b], []⟩) (fun _ R s => s.heap.get? l = some { cls := .type "list", data := .seq items n } ∧ s.heap.get? b = some { cls := .type "tuple", dict := dd, data := .seq items2 n2, slots := sl } ∧
      R (.ok (.ret Value.none)) { s with heap := s.heap.update l (Obj.mapSeq fun x => x ++ items2), toks := s.toks }) :=
  .of_wp fun prog w A R s h => by
    have f2 := AutoSeq1.sub_tuple_tuple
    have f4 := AutoSeq1.sub_tuple_list
    have hz : (items ++ items2).size ≤ sizeLine + 1 := by rw [Array.size_append]; exact h2
    obtain ⟨hp, g, d, tk, os⟩ := s
    obtain ⟨hl, hb, h⟩ := h
    wp_walk using (wpAny_updateSeq hl rfl (hz := h1) (_hz' := hz)), AutoSeq1.wpAny_loadPart' hl, AutoSeq1.wpAny_loadPart' hb
    exact ⟨_, rfl, h⟩
section
variable {X : Cx}
def rExtT (K : PySem.W.Frag) : V → List V → Hp → VK → Prop := fun x vs H Q => ∃ l b xs zs, x = .ref l ∧ vs = [.ref b] ∧ H l = some (.lst xs) ∧ SqT K H b zs ∧ xs.length + zs.length ≤ sizeLine ∧ Q .non (upd H l (.lst (xs ++ zs)))
theorem mt_extT : MtM X "list.extend" (rExtT X.K) := by
  intro pins s σ H x vs v us Q I rx rv h
  obtain ⟨l, b, xs, zs, rfl, rfl, hH, hB, hz, q⟩ := h
  cases rx
  obtain ⟨u, rfl, ru⟩ := rv.one
  cases ru
  obtain ⟨z, its, n, r, hl, e⟩ := I.lstM hH
  obtain ⟨its2, r2, ⟨⟨c2, dd, dt, sl⟩, e2, hc, n2, hd⟩, z2⟩ := I.tuple hB
  simp only at hc hd
  subst hc
  subst hd
  have hl2 := r2.length
  have hsz : its.toArray.size + its2.toArray.size ≤ sizeLine := by rw [List.size_toArray, List.size_toArray]; omega
  have hlong : ¬ (!its.toArray.isEmpty && Builtin.List.listTooLong (its.toArray.size + its2.toArray.size)) = true := by
    rw [notLongL hsz, Bool.and_false]
    exact Bool.false_ne_true
  refine call_meets PySem.F.slot_list_extend ⟨_, e, rfl⟩ PySem.F.entry_list_extend (PySem.F.args_list_extend_2 _ _)
    (ext_tup l its.toArray n b its2.toArray n2 dd sl hlong (by rw [List.size_toArray]; omega) (by omega)) ⟨e, e2, ?_⟩
  refine ⟨.non, _, I.lset (its' := its ++ its2) hH e (by simp) (r.append r2) ?_, rfl, q⟩
  rw [List.length_append]
  omega
end
/-! Readings of comprehensions over any walk; texts in order; frames. -/
open PySem PySem.Spec PyProof.Rows L2
/-- a list comprehension over a walk of n items -/
theorem lc_it {J : It} {n : Nat} {item : Nat → V → Prop} {g : TG} {tt : TT} {te : TE} {vs : List Nat} {σ : L2.St} {H1 : Hp} {D : Addr} {Qd : Hp → Prop} (Pv : Nat → Hp → Prop) (h0 : Pv 0 (upd H1 D (.lst [])))
    (hgo : ∀ i H, i < n → Pv i H → J.go i H) (hstop : ∀ H, Pv n H → J.stop n H) (hy : ∀ i x H H', i < n → Pv i H → J.yld i H x H' → H' = H ∧ item i x)
    (hs : ∀ i x H, i < n → item i x → Pv i H → g x (wipe σ vs) H fun σ2 H2 => wipe σ2 vs = wipe σ vs ∧ tt σ2 H2 fun b H3 =>
      if b = true then te σ2 H3 fun y H4 => ∃ acc, H4 D = some (.lst acc) ∧ acc.length < sizeLine ∧ Pv (i + 1) (upd H4 D (.lst (acc ++ [y]))) else Pv (i + 1) H3) (hd : ∀ H, Pv n H → Qd H) :
    ∃ W : Nat → Nat → Hp → Prop, (∃ m, W 0 m (upd H1 D (.lst []))) ∧ ∀ i m H, W i m H →
      (J.stop i H ∧ Qd H) ∨ (J.go i H ∧ ∃ Nx : Hp → Prop, (∀ H', Nx H' → ∃ m', m' < m ∧ W (i + 1) m' H') ∧ ∀ x H', J.yld i H x H' → g x (wipe σ vs) H' fun σ2 H2 => wipe σ2 vs = wipe σ vs ∧ tt σ2 H2 fun b H3 =>
        if b = true then te σ2 H3 fun y H4 => ∃ acc, H4 D = some (.lst acc) ∧ acc.length < sizeLine ∧ Nx (upd H4 D (.lst (acc ++ [y]))) else Nx H3) := by
  refine ⟨fun i m H => m + i = n ∧ Pv i H, ⟨n, rfl, h0⟩, ?_⟩
  rintro i m H ⟨e, p⟩
  by_cases hlt : i < n
  · refine .inr ⟨hgo i H hlt p, Pv (i + 1), fun H' p' => ⟨n - (i + 1), by omega, by omega, p'⟩, fun x H' y => ?_⟩
    obtain ⟨rfl, it⟩ := hy i x H H' hlt p y
    exact hs i x _ hlt it p
  · have e : i = n := by omega
    subst e
    exact .inl ⟨hstop H p, hd H p⟩
/-- a dict comprehension over a walk of n items -/
theorem dc_it {J : It} {n : Nat} {item : Nat → V → Prop} {g : TG} {tt : TT} {tk tv : TE} {vs : List Nat} {σ : L2.St} {H1 : Hp} {D : Addr} {Qd : Hp → Prop} (Pv : Nat → Hp → Prop) (h0 : Pv 0 (upd H1 D (.dK [])))
    (hgo : ∀ i H, i < n → Pv i H → J.go i H) (hstop : ∀ H, Pv n H → J.stop n H) (hy : ∀ i x H H', i < n → Pv i H → J.yld i H x H' → H' = H ∧ item i x)
    (hs : ∀ i x H, i < n → item i x → Pv i H → g x (wipe σ vs) H fun σ2 H2 => wipe σ2 vs = wipe σ vs ∧ tt σ2 H2 fun b H3 =>
      if b = true then tk σ2 H3 fun y H4 => tv σ2 H4 fun z H5 => ∃ kvs k, y = kV k ∧ H5 D = some (.dK kvs) ∧ kvs.length < sizeLine ∧ Pv (i + 1) (upd H5 D (.dK (putK kvs k z))) else Pv (i + 1) H3) (hd : ∀ H, Pv n H → Qd H) :
    ∃ W : Nat → Nat → Hp → Prop, (∃ m, W 0 m (upd H1 D (.dK []))) ∧ ∀ i m H, W i m H →
      (J.stop i H ∧ Qd H) ∨ (J.go i H ∧ ∃ Nx : Hp → Prop, (∀ H', Nx H' → ∃ m', m' < m ∧ W (i + 1) m' H') ∧ ∀ x H', J.yld i H x H' → g x (wipe σ vs) H' fun σ2 H2 => wipe σ2 vs = wipe σ vs ∧ tt σ2 H2 fun b H3 =>
        if b = true then tk σ2 H3 fun y H4 => tv σ2 H4 fun z H5 => ∃ kvs k, y = kV k ∧ H5 D = some (.dK kvs) ∧ kvs.length < sizeLine ∧ Nx (upd H5 D (.dK (putK kvs k z))) else Nx H3) := by
  refine ⟨fun i m H => m + i = n ∧ Pv i H, ⟨n, rfl, h0⟩, ?_⟩
  rintro i m H ⟨e, p⟩
  by_cases hlt : i < n
  · refine .inr ⟨hgo i H hlt p, Pv (i + 1), fun H' p' => ⟨n - (i + 1), by omega, by omega, p'⟩, fun x H' y => ?_⟩
    obtain ⟨rfl, it⟩ := hy i x H H' hlt p y
    exact hs i x _ hlt it p
  · have e : i = n := by omega
    subst e
    exact .inl ⟨hstop H p, hd H p⟩
/-- over the signs of a text -/
theorem lc_str {s : Str} {g : TG} {tt : TT} {te : TE} {vs : List Nat} {σ : L2.St} {H1 : Hp} {D : Addr} {Qd : Hp → Prop} (Pv : Nat → Hp → Prop) (h0 : Pv 0 (upd H1 D (.lst [])))
    (hs : ∀ i c H, s.cps[i]? = some c → Pv i H → g (.str ⟨#[c]⟩) (wipe σ vs) H fun σ2 H2 => wipe σ2 vs = wipe σ vs ∧ tt σ2 H2 fun b H3 =>
      if b = true then te σ2 H3 fun y H4 => ∃ acc, H4 D = some (.lst acc) ∧ acc.length < sizeLine ∧ Pv (i + 1) (upd H4 D (.lst (acc ++ [y]))) else Pv (i + 1) H3) (hd : ∀ H, Pv s.cps.size H → Qd H) :
    ∃ W : Nat → Nat → Hp → Prop, (∃ m, W 0 m (upd H1 D (.lst []))) ∧ ∀ i m H, W i m H →
      ((Its s).stop i H ∧ Qd H) ∨ ((Its s).go i H ∧ ∃ Nx : Hp → Prop, (∀ H', Nx H' → ∃ m', m' < m ∧ W (i + 1) m' H') ∧ ∀ x H', (Its s).yld i H x H' → g x (wipe σ vs) H' fun σ2 H2 => wipe σ2 vs = wipe σ vs ∧ tt σ2 H2 fun b H3 =>
        if b = true then te σ2 H3 fun y H4 => ∃ acc, H4 D = some (.lst acc) ∧ acc.length < sizeLine ∧ Nx (upd H4 D (.lst (acc ++ [y]))) else Nx H3) :=
  lc_it (n := s.cps.size) (item := fun i x => ∃ c, s.cps[i]? = some c ∧ x = .str ⟨#[c]⟩) Pv h0 (fun i H h _ => h) (fun H _ => Nat.le_refl _) (fun i x H H' _ _ h => h) (fun i x H _ ⟨c, h1, h2⟩ p => by rw [h2]; exact hs i c H h1 p) hd
/-- a walk over what is a list or a tuple -/
def iSeq (K : PySem.W.Frag) (tl : TE) : TI := fun σ H R => tl σ H fun x H1 => ∃ a, x = .ref a ∧ (((∃ xs, SqL K H1 a xs) ∧ R (Itl K a) H1) ∨ ((∃ xs, SqT K H1 a xs) ∧ R (Itt K a) H1))
theorem pi_seq {X : Cx} {tg l : Expr} {tl : TE} (hl : PE X l tl) : PI X tg l (iSeq X.K tl) := by
  refine ⟨fun pins s σ H R I h => ?_⟩
  refine thn (hl.run pins s σ H _ I h) fun v s1 z => ?_
  obtain ⟨x, H1, I1, r1, a, e, q⟩ := z
  subst e
  cases r1
  have fp : ∀ b ∈ [s1.heap.objs.size], FpOk X pins H1 b := fun b hb => by
    rw [List.mem_singleton.mp hb]
    exact I1.fpOk (Nat.le_refl _) (I1.hok.fresh (Nat.le_refl _))
  have kept := fun (o : Obj) => I1.kept (t' := s1.toks) (h' := s1.heap.push o) fun b u e => Heap.get?_push_of_some _ e
  rcases q with ⟨⟨xs, hq⟩, q⟩ | ⟨⟨xs, hq⟩, q⟩
  · obtain ⟨its, rv, p, hz⟩ := I1.list hq
    exact wpAny_pyIter_list p.isList ⟨_, [s1.heap.objs.size], _, _, H1, rfl, kept _, turn_list a _, ⟨_, Heap.get?_push_size _ rfl, rfl, rfl⟩, fp, q⟩
  · obtain ⟨its, rv, p, hz⟩ := I1.tuple hq
    exact wpAny_pyIter_tuple (show s1.heap.IsTuple a its.toArray from p) ⟨_, [s1.heap.objs.size], _, _, H1, rfl, kept _, turn_tuple a _, ⟨_, Heap.get?_push_size _ rfl, rfl, rfl⟩, fp, q⟩
theorem pg_tupB {X : Cx} {s : Shared} {H : Hp} {scope : Scope} {env : Env} {fp : List Addr} {es : List Expr} {k : Nat} {pos : Pos} {t : TGs} {n : Nat} (hc : X.calm = true) (h : PGs (X.blk s H scope env fp) es t)
    (hn : (assignEach es (X.blk s H scope env fp).env).length = n := by rfl) (hst : (assignEach es (X.blk s H scope env fp).env).findIdx? (·.1) = none := by rfl) : PG (X.blk s H scope env fp) (.Tuple es k pos) (gTup X.K n t) :=
  pg_tup (X := X.blk s H scope env fp) hc h hn hst
/-! ### rules within a comprehension's block, told with the context's own text -/
section
variable {X : Cx} {s : Shared} {H : Hp} {scope : Scope} {env : Env} {fp : List Addr}
theorem ix_tupB : IxR (X.blk s H scope env fp) (rIxT X.K) := ix_tup
theorem ix_listB : IxR (X.blk s H scope env fp) (rIxL X.K) := ix_list
theorem op_in_seqB : OpR (X.blk s H scope env fp) (compareOp .In) (rIn X.K false) := op_in_seq
theorem op_notIn_seqB : OpR (X.blk s H scope env fp) (compareOp .NotIn) (rIn X.K true) := op_notIn_seq
theorem pe_fldB {e : Expr} {f : Str} {pos : Pos} {ta : TE} (he : PE (X.blk s H scope env fp) e ta) (hb : attributeBase e f (X.blk s H scope env fp).env (eval e (X.blk s H scope env fp).env) = eval e (X.blk s H scope env fp).env) : PE (X.blk s H scope env fp) (.Attribute e f pos) (tFld X.K ta f) := pe_fld he hb
end
/-! ### frames -/
theorem Keep.sqt0 {H H' : Hp} {K : PySem.W.Frag} {a : Addr} {xs : List V} (k : Keep (fun _ => False) H H') (h : SqT K H a xs) : SqT K H' a xs := by
  rcases h with (h | ⟨o, h⟩) | h
  · exact .inl (.inl (k _ _ h (fun z => z)))
  · exact .inl (.inr ⟨o, k _ _ h (fun z => z)⟩)
  · exact .inr h
theorem Keep.sql0 {H H' : Hp} {K : PySem.W.Frag} {a : Addr} {xs : List V} (k : Keep (fun _ => False) H H') (h : SqL K H a xs) : SqL K H' a xs := by
  rcases h with (h | ⟨o, h⟩) | h
  · exact .inl (.inl (k _ _ h (fun z => z)))
  · exact .inl (.inr ⟨o, k _ _ h (fun z => z)⟩)
  · exact .inr h
abbrev Kp0 : Hp → Hp → Prop := Keep (fun _ => False)
theorem Keep.at0 {H H' : Hp} {a : Addr} {o : HO} (k : Kp0 H H') (h : H a = some o) : H' a = some o := k a o h (fun z => z)
theorem Keep.free0 {H H' : Hp} {a : Addr} (k : Kp0 H H') (h : H' a = none) : H a = none := Keep.free k h (fun z => z)
theorem Keep.weak0 {M : Addr → Prop} {H H' : Hp} (k : Kp0 H H') : Keep M H H' := k.weak (fun _ z => z.elim)
/-! ### texts in order -/
theorem lt_cps {a b : Str} : ltCps a.cps.toList b.cps.toList = decide (a.cps.toList < b.cps.toList) := ltCps_eq _ _
theorem str_ext {a b : Str} (h : a.cps.toList = b.cps.toList) : a = b := by
  obtain ⟨⟨l⟩⟩ := a
  obtain ⟨⟨m⟩⟩ := b
  have e : l = m := h
  rw [e]
theorem nat_lt_asymm_list (l m : List Nat) (h1 : ¬ l < m) (h2 : ¬ m < l) : l = m := by
  exact List.le_antisymm (List.not_lt.mp h2) (List.not_lt.mp h1)
theorem str_anti {a b : Str} (h1 : ltCps a.cps.toList b.cps.toList = false) (h2 : ltCps b.cps.toList a.cps.toList = false) : a = b := by
  rw [lt_cps] at h1 h2
  exact str_ext (nat_lt_asymm_list _ _ (of_decide_eq_false h1) (of_decide_eq_false h2))
theorem str_lt_trans {a b c : Str} (h1 : ltCps b.cps.toList a.cps.toList = false) (h2 : ltCps c.cps.toList b.cps.toList = false) : ltCps c.cps.toList a.cps.toList = false := by
  rw [lt_cps] at h1 h2 ⊢
  exact decide_eq_false (List.not_lt.mpr (List.le_trans (List.not_lt.mp (of_decide_eq_false h1)) (List.not_lt.mp (of_decide_eq_false h2))))
theorem rising_all : ∀ (p : Str) (l : List Str), risingS p l = true → (∀ x ∈ l, ltCps x.cps.toList p.cps.toList = false) ∧ sortedS l = true
  | p, [], _ => ⟨fun x h => (List.not_mem_nil h).elim, rfl⟩
  | p, x :: r, h => by
    obtain ⟨h1, h2⟩ := Bool.and_eq_true_iff.mp (show (!ltCps x.cps.toList p.cps.toList && risingS x r) = true from h)
    have h1' : ltCps x.cps.toList p.cps.toList = false := by simpa using h1
    obtain ⟨h3, _⟩ := rising_all x r h2
    refine ⟨fun y hy => ?_, h2⟩
    rcases List.mem_cons.mp hy with e | e
    · rw [e]; exact h1'
    · exact str_lt_trans h1' (h3 y e)
theorem sorted_uniq : ∀ {l m : List Str}, sortedS l = true → sortedS m = true → l.Perm m → l = m
  | [], m, _, _, p => (List.nil_perm.mp p).symm
  | x :: r, [], _, _, p => absurd p.symm (by intro z; have := z.length_eq; simp at this)
  | x :: r, y :: t, h1, h2, p => by
    have a1 := (rising_all x r h1).1
    have a2 := (rising_all y t h2).1
    have e : x = y := by
      have m1 : x ∈ y :: t := p.mem_iff.mp (List.mem_cons_self ..)
      have m2 : y ∈ x :: r := p.mem_iff.mpr (List.mem_cons_self ..)
      rcases List.mem_cons.mp m1 with e | e
      · exact e
      rcases List.mem_cons.mp m2 with f | f
      · exact f.symm
      exact str_anti (a2 x e) (a1 y f)
    subst e
    rw [sorted_uniq (rising_all x r h1).2 (rising_all x t h2).2 (List.perm_cons x |>.mp p)]
/-- the members of ws, each once, in order -/
structure NormOf (ws ys : List Str) : Prop where
  nd : ys.Nodup
  mem : ∀ j, j ∈ ys ↔ j ∈ ws
  so : sortedS ys = true
theorem NormOf.uniq {ws vs ys zs : List Str} (a : NormOf ws ys) (b : NormOf vs zs) (h : ∀ j, j ∈ ws ↔ j ∈ vs) : ys = zs :=
  sorted_uniq a.so b.so ((List.perm_ext_iff_of_nodup a.nd b.nd).mpr fun j => by rw [a.mem, b.mem, h])
/-! names, bounds. -/
open PySem PySem.Spec PyProof.Rows L2
abbrev s_is_integer : Stmt := top 5
theorem sc_is_integer : FnScope ["thing"] ["thing"] (defScope s_is_integer) := ⟨rfl, rfl, rfl, by decide +kernel, rfl, by decide +kernel, by decide +kernel⟩
abbrev s_is_name : Stmt := top 6
theorem sc_is_name : FnScope ["thing", "letter"] ["thing"] (defScope s_is_name) := ⟨rfl, rfl, rfl, by decide +kernel, rfl, by decide +kernel, by decide +kernel⟩
abbrev s_is_bound : Stmt := top 12
theorem sc_is_bound : FnScope ["sort", "thing", "words", "inside", "end", "word"] ["sort", "thing"] (defScope s_is_bound) := ⟨rfl, rfl, rfl, by decide +kernel, rfl, by decide +kernel, by decide +kernel⟩
abbrev s_normal : Stmt := top 13
theorem sc_normal : FnScope ["sort", "bound"] ["sort", "bound"] (defScope s_normal) := ⟨rfl, rfl, rfl, by decide +kernel, rfl, by decide +kernel, by decide +kernel⟩
abbrev s_has : Stmt := top 14
theorem sc_has : FnScope ["sort", "bound", "value", "low", "high"] ["sort", "bound", "value"] (defScope s_has) := ⟨rfl, rfl, rfl, by decide +kernel, rfl, by decide +kernel, by decide +kernel⟩
abbrev s_is_empty : Stmt := top 15
theorem sc_is_empty : FnScope ["sort", "bound"] ["sort", "bound"] (defScope s_is_empty) := ⟨rfl, rfl, rfl, by decide +kernel, rfl, by decide +kernel, by decide +kernel⟩
abbrev s_whole : Stmt := top 27
theorem sc_whole : FnScope ["param"] ["param"] (defScope s_whole) := ⟨rfl, rfl, rfl, by decide +kernel, rfl, by decide +kernel, by decide +kernel⟩
structure Txt1 (K : PySem.W.Frag) (mg : Str → Option Value) : Prop extends Txt0 K mg where
  f_int : mg "int" = none
  f_bool : mg "bool" = none
  f_str : mg "str" = none
  f_tuple : mg "tuple" = none
  f_sorted : mg "sorted" = none
  f_set : mg "set" = none
  f_isinstance : mg "isinstance" = none
  f_all : mg "all" = none
  f_any : mg "any" = none
  f_dict : mg "dict" = none
  f_repr : mg "repr" = none
  v_LETTERS : ∃ u, mg "LETTERS" = some u ∧ RelV (.str "abcdefghijklmnopqrstuvwxyz") u
  v_NO_NUMBERS : ∃ u, mg "NO_NUMBERS" = some u ∧ RelV (.ref (He.ga K "NO_NUMBERS")) u
  v_NO_WORDS : ∃ u, mg "NO_WORDS" = some u ∧ RelV (.ref (He.ga K "NO_WORDS")) u
  t_NO_NUMBERS : ∀ H, SqT K H (He.ga K "NO_NUMBERS") [.non, .non]
  t_NO_WORDS : ∃ a, (∀ H, SqT K H (He.ga K "NO_WORDS") [.ref a, .bl false]) ∧ ∀ H, SqT K H a []
  d_is_integer : HasDef K mg "is_integer" s_is_integer [] []
  d_is_name : HasDef K mg "is_name" s_is_name [] []
  d_is_bound : HasDef K mg "is_bound" s_is_bound [] []
  d_normal : HasDef K mg "normal" s_normal [] []
  d_has : HasDef K mg "has" s_has [] []
  d_is_empty : HasDef K mg "is_empty" s_is_empty [] []
  d_whole : HasDef K mg "whole" s_whole [] []
/-- a text of one to eight small letters -/
def letters : List Nat := (Str.ofString "abcdefghijklmnopqrstuvwxyz").cps.toList
def isNm (x : Str) : Bool := decide (1 ≤ x.length) && decide (x.length ≤ 8) && x.cps.toList.all fun c => decide (c ∈ letters)
/-- a sort -/
def srt (w : Bool) : Str := if w then "word" else "number"
/-- an end of a bound -/
def oI : Option Int → V
  | none => .non
  | some i => .int i
/-- a bound: of numbers, of words -/
inductive Bd where
  | num (lo hi : Option Int)
  | wrd (ws : List Str) (ins : Bool)
def Bd.isW : Bd → Bool
  | .num _ _ => false
  | .wrd _ _ => true
/-- a bound as it is given -/
def BdAt (H : Hp) (v : V) : Bd → Prop
  | .num lo hi => ∃ t, v = .ref t ∧ H t = some (.tup [oI lo, oI hi])
  | .wrd ws ins => ∃ t q, v = .ref t ∧ H t = some (.tup [.ref q, .bl ins]) ∧ (H q = some (.lst (ws.map V.str)) ∨ H q = some (.tup (ws.map V.str))) ∧ ws.length < 16 ∧ ∀ x ∈ ws, isNm x = true
/-- a bound in normal form -/
def NmAt (K : PySem.W.Frag) (H : Hp) (v : V) : Bd → Prop
  | .num lo hi => ∃ t, v = .ref t ∧ SqT K H t [oI lo, oI hi]
  | .wrd ws ins => ∃ t q, v = .ref t ∧ SqT K H t [.ref q, .bl ins] ∧ SqT K H q (ws.map V.str) ∧ ws.length < 16 ∧ ∀ x ∈ ws, isNm x = true
theorem NmAt.keep {K : PySem.W.Frag} {H H' : Hp} {v : V} {n : Bd} (k : Kp0 H H') (h : NmAt K H v n) : NmAt K H' v n := by
  cases n with
  | num lo hi =>
    obtain ⟨t, e, h⟩ := h
    exact ⟨t, e, k.sqt0 h⟩
  | wrd ws ins =>
    obtain ⟨t, q, e, h1, h2, h3⟩ := h
    exact ⟨t, q, e, k.sqt0 h1, k.sqt0 h2, h3⟩
theorem BdAt.keep {H H' : Hp} {v : V} {n : Bd} (k : Kp0 H H') (h : BdAt H v n) : BdAt H' v n := by
  cases n with
  | num lo hi =>
    obtain ⟨t, e, h⟩ := h
    exact ⟨t, e, k.at0 h⟩
  | wrd ws ins =>
    obtain ⟨t, q, e, h1, h2, h3⟩ := h
    exact ⟨t, q, e, k.at0 h1, h2.imp k.at0 k.at0, h3⟩
/-- n is the normal form of b; none: no bound of a sort -/
def NormB (w : Bool) : Option Bd → Bd → Prop
  | none, n => n = if w then .wrd [] false else .num none none
  | some (.num lo hi), n => n = .num lo hi
  | some (.wrd ws ins), n => ∃ ys, NormOf ws ys ∧ n = .wrd ys ins
theorem NormB.uniq {w : Bool} {b : Option Bd} {n m : Bd} (h1 : NormB w b n) (h2 : NormB w b m) : n = m := by
  match b with
  | none => exact h1.trans h2.symm
  | some (.num lo hi) => exact h1.trans h2.symm
  | some (.wrd ws ins) =>
    obtain ⟨ys, a, rfl⟩ := h1
    obtain ⟨zs, b, rfl⟩ := h2
    rw [a.uniq b fun _ => Iff.rfl]
def optV (H : Hp) (v : V) : Option Bd → Prop
  | none => v = .non
  | some b => BdAt H v b
/-- whether a value is within a bound -/
def hasB : Bd → V → Bool
  | .num lo hi, .int i => (match lo with | none => true | some l => decide (l ≤ i)) && (match hi with | none => true | some h => decide (i ≤ h))
  | .wrd ws ins, .str x => decide (x ∈ ws) == ins
  | _, _ => false
/-- whether no value is -/
def emptyB : Bd → Bool
  | .num (some l) (some h) => decide (h < l)
  | .num _ _ => false
  | .wrd ws ins => ws.isEmpty && ins
/-- a value of a sort -/
def OfSort (w : Bool) (v : V) : Prop := if w then ∃ x, v = .str x else ∃ i, v = .int i
theorem srtT_num : ¬ decide (V.str (srt true) = V.str (Str.ofString "number")) = true := by decide +kernel
theorem srtF_num : decide (V.str (srt false) = V.str (Str.ofString "number")) = true := by decide +kernel
theorem srtT_wrd : decide (V.str (srt true) = V.str (Str.ofString "word")) = true := by decide +kernel
theorem srtF_wrd : ¬ decide (V.str (srt false) = V.str (Str.ofString "word")) = true := by decide +kernel
theorem oI_some {j : Int} : ¬ decide (oI (some j) = V.non) = true := fun z => by
  have := of_decide_eq_true z
  cases this
section
variable {P : Program} {w : World} {K : PySem.W.Frag} {mg : Str → Option Value} {base : Heap}
def spIsInt : Sp := fun vs H Q _ => ∃ i : Int, vs = [.int i] ∧ Q (.bl true) H
theorem Txt1.c_is_integer (T : Txt1 K mg) : C8.Cal P w K mg base 1 "is_integer" spIsInt [] := by
  refine cal_of T.d_is_integer sc_is_integer (fun _ _ _ _ _ _ us hl => match us, hl with | [_], _ => rfl) (fun vs H Q E h => ?_) (fun f cdv A outer s H vs Q E hr h => ?_)
  · obtain ⟨i, rfl, _⟩ := h
    rfl
  obtain ⟨i, rfl, k⟩ := h
  refine ⟨_, (pss_one (ps_ret (pe_and (pe_callB call_isi (by rfl) T.f_isinstance (by decide +kernel) (pa_cons (pv 0) (pa_cons (pe_bltn (v := .ty "int") (u := .type "int") (by rfl) T.f_int (by decide +kernel) (by rfl)) pa_nil))) (pe_one (pe_not (pe_callB call_isi (by rfl) T.f_isinstance (by decide +kernel) (pa_cons (pv 0) (pa_cons (pe_bltn (v := .ty "bool") (u := .type "bool") (by rfl) T.f_bool (by decide +kernel) (by rfl)) pa_nil)))))))), ?_⟩
  refine ⟨_, rfl, _, _, _, _, true, rfl, .ty _, .base (.int _), kit_ty (by decide +kernel), _, rfl, ?_⟩
  refine ⟨_, rfl, _, _, _, _, false, rfl, .ty _, .base (.int _), kit_ty (by decide +kernel), ?_⟩
  exact ⟨_, rfl, k⟩
def spIsName : Sp := fun vs H Q _ => ∃ x : Str, vs = [.str x] ∧ isNm x = true ∧ ∀ H', Kp0 H H' → Q (.bl true) H'
theorem Txt1.c_is_name (T : Txt1 K mg) : C8.Cal P w K mg base 1 "is_name" spIsName [] := by
  refine cal_of T.d_is_name sc_is_name (fun _ _ _ _ _ _ us hl => match us, hl with | [_], _ => rfl) (fun vs H Q E h => ?_) (fun f cdv A outer s H vs Q E hr h => ?_)
  · obtain ⟨i, rfl, _⟩ := h
    rfl
  obtain ⟨x, rfl, hx, k⟩ := h
  unfold isNm at hx
  simp only [Bool.and_eq_true, decide_eq_true_eq, List.all_eq_true] at hx
  obtain ⟨⟨h1, h2⟩, h3⟩ := hx
  refine ⟨_, (pss_one (ps_ret (pe_and (pe_callB call_isi (by rfl) T.f_isinstance (by decide +kernel) (pa_cons (pv 0) (pa_cons (pe_bltn (v := .ty "str") (u := .type "str") (by rfl) T.f_str (by decide +kernel) (by rfl)) pa_nil))) (pe_and (pe_chain op_le op_le pe_int (pe_callB call_len (by rfl) T.f_len (by decide +kernel) (pa_cons (pv 0) pa_nil)) pe_int) (pe_one (pe_callB (cr_all (by rfl)) (by rfl) T.f_all (by decide +kernel) (pa_cons (pe_lc (own := [("letter", 1)]) rfl sc_is_name.nd (pi_str (pv 0)) (blkOk_by (own := [("letter", 1)]) (N := ["thing", "letter"]) (sc := defScope s_is_name) (by decide +kernel)) (fun _ _ _ _ _ => (pg_name (i := 1) sc_is_name.nd rfl (by first | exact .inl rfl | exact .inr rfl))) (fun _ _ _ _ _ => pts_nil) (fun _ _ _ _ _ => (pe_cmpR op_in_sign (pv 1) (C8.pe_gc (by rfl) T.v_LETTERS) (by rfl)))) pa_nil))))))), ?_⟩
  refine ⟨_, rfl, _, _, _, _, true, rfl, .ty _, .base (.str _), kit_ty (by decide +kernel), _, rfl, ?_⟩
  refine ⟨_, rfl, _, x.length, rfl, ⟨by rw [sizeLine_eq]; omega, rfl⟩, ?_⟩
  refine ⟨_, _, rfl, rfl, _, rfl, ite2 (fun e0 => ?_) (fun e0 => ?_)⟩
  · refine ⟨_, _, rfl, rfl, ?_⟩
    refine ⟨_, rfl, ite2 (fun e1 => ?_) (fun e1 => ?_)⟩
    · refine ⟨_, rfl, x, rfl, fun D nD => ?_⟩
      refine lc_str (fun i H' => ∃ bs : List Bool, bs.length = i ∧ (∀ b ∈ bs, b = true) ∧ H' D = some (.lst (bs.map V.bl)) ∧ Kp0 H H') ?_ ?_ ?_
      · exact ⟨[], rfl, (fun b h => by cases h), upd_same, Keep.refl.new nD⟩
      · rintro i c H1 hc ⟨bs, hl, hb, hD, hk⟩
        have := (Array.getElem?_eq_some_iff.mp hc).1
        have h2' : x.cps.size ≤ 8 := h2
        refine ⟨rfl, _, rfl, c, _, rfl, rfl, bs.map V.bl, hD, small1000 (by rw [List.length_map]; omega), bs ++ [true], ?_, ?_, ?_, hk.own nD⟩
        · rw [List.length_append, hl]; rfl
        · intro b hb'
          rcases List.mem_append.mp hb' with z | z
          · exact hb b z
          · exact List.mem_singleton.mp z
        · have hm : c ∈ x.cps.toList := by
            rw [← Array.getElem?_toList] at hc
            exact List.mem_of_getElem? hc
          have := h3 c hm
          rw [upd_same, List.map_append]
          show some (HO.lst (_ ++ [V.bl (decide (c ∈ letters))])) = _
          rw [decide_eq_true this]; rfl
      · rintro H1 ⟨bs, hl, hb, hD, hk⟩
        refine ⟨D, bs, rfl, .of hD, ?_⟩
        have e : bs.all id = true := List.all_eq_true.mpr fun b h => hb b h
        rw [e]
        exact k H1 hk
    · exact absurd (decide_eq_true (by omega)) e1
  · exact absurd (decide_eq_true (by omega)) e0
def spIsBound : Sp := fun vs H Q _ => ∃ (b : Bd) (v : V), vs = [.str (srt b.isW), v] ∧ BdAt H v b ∧ ∀ H', Kp0 H H' → Q (.bl true) H'
theorem Txt1.c_is_bound (T : Txt1 K mg) : C8.Cal P w K mg base 2 "is_bound" spIsBound [] := by
  refine cal_of T.d_is_bound sc_is_bound (fun _ _ _ _ _ _ us hl => match us, hl with | [_, _], _ => rfl) (fun vs H Q E h => ?_) (fun f cdv A outer s H vs Q E hr h => ?_)
  · obtain ⟨b, v, rfl, _⟩ := h
    rfl
  obtain ⟨b, v, rfl, hb, k⟩ := h
  refine ⟨_, (pss_cons (ps_if (PW.pt (pw_or (pt_not (pt_val (pe_callB call_isi (by rfl) T.f_isinstance (by decide +kernel) (pa_cons (pv 1) (pa_cons (pe_bltn (v := .ty "tuple") (u := .type "tuple") (by rfl) T.f_tuple (by decide +kernel) (by rfl)) pa_nil))))) (pw_or1 (pt_cmpR op_ne (pe_callB call_len (by rfl) T.f_len (by decide +kernel) (pa_cons (pv 1) pa_nil)) pe_int (nomark _))))) (pss_one (ps_ret pe_bl)) pss_nil)
      (pss_cons (ps_if (pt_cmpR op_eq (pv 0) pe_str (nomark _)) (pss_one (ps_ret (pe_callB (cr_all (by rfl)) (by rfl) T.f_all (by decide +kernel) (pa_cons (pe_lc (own := [("end", 4)]) rfl sc_is_bound.nd (pi_tup (pv 1)) (blkOk_by (own := [("end", 4)]) (N := ["sort", "thing", "words", "inside", "end", "word"]) (sc := defScope s_is_bound) (by decide +kernel)) (fun _ _ _ _ _ => (pg_name (i := 4) sc_is_bound.nd rfl (by first | exact .inl rfl | exact .inr rfl))) (fun _ _ _ _ _ => pts_nil) (fun _ _ _ _ _ => (pe_or (pe_cmpR op_isN (pv 4) pe_non (nomark _)) (pe_one (C8.pe_c T.c_is_integer hr (by decide) (by rfl) (pa_cons (pv 4) pa_nil)))))) pa_nil)))) pss_nil)
      (pss_cons (ps_asg (pv 1) (pg_tup rfl (pgs_cons (pg_name (i := 2) sc_is_bound.nd rfl (by first | exact .inl rfl | exact .inr rfl)) (pgs_cons (pg_name (i := 3) sc_is_bound.nd rfl (by first | exact .inl rfl | exact .inr rfl)) pgs_nil))))
      (pss_one (ps_ret (pe_and (pe_callB call_isiT (by rfl) T.f_isinstance (by decide +kernel) (pa_cons (pv 2) (pa_cons (pe_tup (pa_cons (pe_bltn (v := .ty "list") (u := .type "list") (by rfl) T.f_list (by decide +kernel) (by rfl)) (pa_cons (pe_bltn (v := .ty "tuple") (u := .type "tuple") (by rfl) T.f_tuple (by decide +kernel) (by rfl)) pa_nil))) pa_nil))) (pe_and (pe_callB (cr_all (by rfl)) (by rfl) T.f_all (by decide +kernel) (pa_cons (pe_lc (own := [("word", 5)]) rfl sc_is_bound.nd (pi_seq (pv 2)) (blkOk_by (own := [("word", 5)]) (N := ["sort", "thing", "words", "inside", "end", "word"]) (sc := defScope s_is_bound) (by decide +kernel)) (fun _ _ _ _ _ => (pg_name (i := 5) sc_is_bound.nd rfl (by first | exact .inl rfl | exact .inr rfl))) (fun _ _ _ _ _ => pts_nil) (fun _ _ _ _ _ => (C8.pe_c T.c_is_name hr (by decide) (by rfl) (pa_cons (pv 5) pa_nil)))) pa_nil)) (pe_one (pe_callB call_isi (by rfl) T.f_isinstance (by decide +kernel) (pa_cons (pv 3) (pa_cons (pe_bltn (v := .ty "bool") (u := .type "bool") (by rfl) T.f_bool (by decide +kernel) (by rfl)) pa_nil))))))))))), ?_⟩
  cases b with
  | num lo hi =>
    obtain ⟨t, rfl, ht⟩ := hb
    refine ⟨_, rfl, _, _, _, _, true, rfl, .ty _, .base (.tup ht), kit_ty (by decide +kernel), _, rfl, ite2 (fun z => absurd z (by decide)) (fun _ => ?_)⟩
    refine ⟨_, rfl, _, 2, rfl, .inr ⟨_, .of ht, rfl⟩, rfl, _, rfl, ite2 (fun z => absurd z (by decide)) (fun _ => ?_)⟩
    refine ⟨_, rfl, rfl, _, rfl, ite2 (fun _ => ?_) (fun z => absurd (decide_eq_true rfl) z)⟩
    refine ⟨_, rfl, t, rfl, ⟨_, .of ht⟩, fun D nD => ?_⟩
    have hkD : Kp0 H (upd H D (.lst [])) := Keep.refl.new nD
    refine lc_tup (xs := [oI lo, oI hi]) (fun i H' => ∃ bs : List Bool, bs.length = i ∧ (∀ b ∈ bs, b = true) ∧ H' D = some (.lst (bs.map V.bl)) ∧ Kp0 H H') ⟨[], rfl, (fun b h => by cases h), upd_same, hkD⟩ (fun i H' _ ⟨_, _, _, _, hk⟩ => .of (hk.at0 ht)) ?_ ?_
    · rintro i x H1 hx ⟨bs, hl, hb, hD, hk⟩
      have hi2 : i < 2 := (List.getElem?_eq_some_iff.mp hx).1
      have hx2 : ∃ o, x = oI o := by
        match i, hx with
        | 0, hx => exact ⟨lo, (Option.some.inj hx).symm⟩
        | 1, hx => exact ⟨hi, (Option.some.inj hx).symm⟩
      have fin : ∀ H2, H2 = H1 → ∃ acc, H2 D = some (.lst acc) ∧ acc.length < sizeLine ∧ ∃ bs : List Bool, bs.length = i + 1 ∧ (∀ b ∈ bs, b = true) ∧ upd H2 D (.lst (acc ++ [V.bl true])) D = some (.lst (bs.map V.bl)) ∧ Kp0 H (upd H2 D (.lst (acc ++ [V.bl true]))) := by
        rintro H2 rfl
        refine ⟨_, hD, small1000 (by rw [List.length_map]; omega), bs ++ [true], by rw [List.length_append, hl]; rfl, ?_, ?_, hk.own nD⟩
        · intro b hb'
          rcases List.mem_append.mp hb' with z | z
          · exact hb b z
          · exact List.mem_singleton.mp z
        · rw [upd_same, List.map_append]; rfl
      obtain ⟨o, rfl⟩ := hx2
      cases o with
      | none =>
        refine ⟨rfl, _, rfl, rfl, ?_⟩
        exact ⟨_, rfl, ite2 (fun _ => fin H1 rfl) (fun z => absurd (decide_eq_true rfl) z)⟩
      | some j =>
        refine ⟨rfl, _, rfl, rfl, _, rfl, ite2 (fun z => absurd z oI_some) (fun _ => ?_)⟩
        exact ⟨_, rfl, j, rfl, fin H1 rfl⟩
    · rintro H1 ⟨bs, hl, hb, hD, hk⟩
      refine ⟨_, bs, rfl, .of hD, ?_⟩
      rw [show bs.all id = true from List.all_eq_true.mpr fun b h => hb b h]
      exact k H1 hk
  | wrd ws ins =>
    obtain ⟨t, q, rfl, ht, hq, hlen, hnm⟩ := hb
    refine ⟨_, rfl, _, _, _, _, true, rfl, .ty _, .base (.tup ht), kit_ty (by decide +kernel), _, rfl, ite2 (fun z => absurd z (by decide)) (fun _ => ?_)⟩
    refine ⟨_, rfl, _, 2, rfl, .inr ⟨_, .of ht, rfl⟩, rfl, _, rfl, ite2 (fun z => absurd z (by decide)) (fun _ => ?_)⟩
    refine ⟨_, rfl, rfl, _, rfl, ite2 (fun z => absurd z srtT_num) (fun _ => ?_)⟩
    refine ⟨_, rfl, t, _, rfl, .of ht, rfl, ?_⟩
    refine ⟨_, _, rfl, _, _, rfl, rfl, _, rfl, (by rw [sizeLine_eq]; decide), fun p np => ?_⟩
    have hkp : Kp0 H (upd H p (.tup [.ty "list", .ty "tuple"])) := Keep.refl.new np
    have hty : ∃ ty, TyX K (upd H p (.tup [.ty "list", .ty "tuple"])) (.ref q) ty ∧ PySem.W.kitAny K ty [.type "list", .type "tuple"] = some true := by
      rcases hq with hq | hq
      · exact ⟨_, .base (.lst (hkp.at0 hq)), kitAny_cons (b := true) (kit_ty (by decide +kernel)) (fun z => by cases z) (fun _ => rfl)⟩
      · exact ⟨_, .base (.tup (hkp.at0 hq)), kitAny_cons (b := false) (kit_ty (by decide +kernel)) (fun _ => kitAny_cons (b := true) (kit_ty (by decide +kernel)) (fun z => by cases z) (fun _ => rfl)) (fun z => by cases z)⟩
    obtain ⟨ty, h1, h2⟩ := hty
    refine ⟨_, p, _, ty, _, true, rfl, upd_same, .cons (.ty _) (.cons (.ty _) .nil), h1, h2, _, rfl, ite2 (fun _ => ?_) (fun z => absurd rfl z)⟩
    have body : ∀ D, upd H p (.tup [.ty "list", .ty "tuple"]) D = none → Kp0 H (upd (upd H p (.tup [.ty "list", .ty "tuple"])) D (.lst [])) := fun D nD => hkp.new nD
    refine ⟨_, rfl, q, rfl, ?_⟩
    have fin : ∀ (D : Addr) (H1 : Hp), (∃ bs : List Bool, bs.length = ws.length ∧ (∀ b ∈ bs, b = true) ∧ H1 D = some (.lst (bs.map V.bl)) ∧ Kp0 H H1) → ∃ (a : Addr) (bs : List Bool), [V.ref D] = [V.ref a] ∧ SqL K H1 a (bs.map V.bl) ∧ bs.all id = true ∧ Kp0 H H1 := by
      rintro D H1 ⟨bs, hl, hb, hD, hk⟩
      exact ⟨D, bs, rfl, .of hD, List.all_eq_true.mpr fun b h => hb b h, hk⟩
    have turn : ∀ (D : Addr) (i : Nat) (x : V) (H1 : Hp), (ws.map V.str)[i]? = some x → (∃ bs : List Bool, bs.length = i ∧ (∀ b ∈ bs, b = true) ∧ H1 D = some (.lst (bs.map V.bl)) ∧ Kp0 H H1) → H D = none →
        ∃ y, x = .str y ∧ isNm y = true ∧ ∀ H2, Kp0 H1 H2 → ∃ acc, H2 D = some (.lst acc) ∧ acc.length < sizeLine ∧ ∃ bs : List Bool, bs.length = i + 1 ∧ (∀ b ∈ bs, b = true) ∧ upd H2 D (.lst (acc ++ [V.bl true])) D = some (.lst (bs.map V.bl)) ∧ Kp0 H (upd H2 D (.lst (acc ++ [V.bl true]))) := by
      rintro D i x H1 hx ⟨bs, hl, hb, hD, hk⟩ nD
      obtain ⟨y, hy, rfl⟩ := List.mem_map.mp (List.mem_of_getElem? hx)
      have hil : i < ws.length := by
        have := (List.getElem?_eq_some_iff.mp hx).1
        rw [List.length_map] at this
        exact this
      refine ⟨y, rfl, hnm y hy, fun H2 k2 => ⟨_, k2.at0 hD, small1000 (by rw [List.length_map]; omega), bs ++ [true], by rw [List.length_append, hl]; rfl, ?_, ?_, (hk.trans k2).own nD⟩⟩
      · intro b hb'
        rcases List.mem_append.mp hb' with z | z
        · exact hb b z
        · exact List.mem_singleton.mp z
      · rw [upd_same, List.map_append]; rfl
    have tail : ∀ (H1 : Hp), Kp0 H H1 → tCB (rIsi K) (tCons (tVar 3) (tCons (tC (V.ty "bool")) tNil)) [some (.str (srt true)), some (.ref t), some (.ref q), some (.bl ins), none, none] H1 Q := fun H1 hk =>
      ⟨_, rfl, _, _, _, _, true, rfl, .ty _, .base (.bl _), kit_ty (by decide +kernel), k H1 hk⟩
    rcases hq with hq | hq
    · refine .inl ⟨⟨_, .of (hkp.at0 hq)⟩, fun D nD => ?_⟩
      have nD0 := hkp.free0 nD
      refine lc_list (xs := ws.map V.str) (fun i H' => ∃ bs : List Bool, bs.length = i ∧ (∀ b ∈ bs, b = true) ∧ H' D = some (.lst (bs.map V.bl)) ∧ Kp0 H H') ⟨[], rfl, (fun b h => by cases h), upd_same, body D nD⟩ (fun i H' _ ⟨_, _, _, _, hk⟩ => .of (hk.at0 hq)) ?_ ?_
      · intro i x H1 hx hp
        obtain ⟨y, rfl, hy, hfin⟩ := turn D i x H1 hx hp nD0
        exact ⟨rfl, _, rfl, y, rfl, hy, hfin⟩
      · intro H1 hp
        rw [List.length_map] at hp
        obtain ⟨a, bs, e, hs, e2, hk⟩ := fin D H1 hp
        refine ⟨a, bs, e, hs, _, rfl, ?_⟩
        rw [e2]
        exact iteT (tail H1 hk)
    · refine .inr ⟨⟨_, .of (hkp.at0 hq)⟩, fun D nD => ?_⟩
      have nD0 := hkp.free0 nD
      refine lc_tup (xs := ws.map V.str) (fun i H' => ∃ bs : List Bool, bs.length = i ∧ (∀ b ∈ bs, b = true) ∧ H' D = some (.lst (bs.map V.bl)) ∧ Kp0 H H') ⟨[], rfl, (fun b h => by cases h), upd_same, body D nD⟩ (fun i H' _ ⟨_, _, _, _, hk⟩ => .of (hk.at0 hq)) ?_ ?_
      · intro i x H1 hx hp
        obtain ⟨y, rfl, hy, hfin⟩ := turn D i x H1 hx hp nD0
        exact ⟨rfl, _, rfl, y, rfl, hy, hfin⟩
      · intro H1 hp
        rw [List.length_map] at hp
        obtain ⟨a, bs, e, hs, e2, hk⟩ := fin D H1 hp
        refine ⟨a, bs, e, hs, _, rfl, ?_⟩
        rw [e2]
        exact iteT (tail H1 hk)
theorem keys_strs : ∀ {L : List Key}, (∀ j ∈ L, ∃ x : Str, j = Sum.inr x) → ∃ ss : List Str, L = ss.map Sum.inr
  | [], _ => ⟨[], rfl⟩
  | j :: L, h => by
    obtain ⟨x, rfl⟩ := h j (List.mem_cons_self ..)
    obtain ⟨ss, e⟩ := keys_strs (L := L) fun k hk => h k (List.mem_cons_of_mem _ hk)
    exact ⟨x :: ss, by rw [e]; rfl⟩
/-- what set() of texts gives -/
theorem set_strs {ws : List Str} {L : List Key} (nd : L.Nodup) (hm : ∀ j, j ∈ L ↔ j ∈ ws.map (Sum.inr : Str → Key)) : ∃ ss : List Str, L = ss.map Sum.inr ∧ ss.Nodup ∧ ∀ x, x ∈ ss ↔ x ∈ ws := by
  obtain ⟨ss, rfl⟩ := keys_strs (L := L) fun j hj => by
    obtain ⟨x, _, e⟩ := List.mem_map.mp ((hm j).mp hj)
    exact ⟨x, e.symm⟩
  have inj : ∀ a b : Str, (Sum.inr a : Key) = Sum.inr b → a = b := fun a b e => Sum.inr.inj e
  refine ⟨ss, rfl, ?_, fun x => ?_⟩
  · rw [List.nodup_iff_pairwise_ne, List.pairwise_map] at nd
    rw [List.nodup_iff_pairwise_ne]
    exact nd.imp fun h e => h (by rw [e])
  · have := hm (Sum.inr x)
    rw [List.mem_map, List.mem_map] at this
    constructor
    · intro h
      obtain ⟨y, hy, e⟩ := this.mp ⟨x, h, rfl⟩
      rw [← inj _ _ e]; exact hy
    · intro h
      obtain ⟨y, hy, e⟩ := this.mpr ⟨x, h, rfl⟩
      rw [← inj _ _ e]; exact hy
theorem kv_inr (ws : List Str) : (ws.map (Sum.inr : Str → Key)).map kV = ws.map V.str := by
  rw [List.map_map]
  rfl
def spNormal (K : PySem.W.Frag) : Sp := fun vs H Q _ => ∃ (w : Bool) (v : V) (ob : Option Bd), vs = [.str (srt w), v] ∧ optV H v ob ∧ (∀ b, ob = some b → b.isW = w) ∧ ∀ v' n H', NormB w ob n → n.isW = w → NmAt K H' v' n → Kp0 H H' → Q v' H'
theorem Txt1.c_normal (T : Txt1 K mg) : C8.Cal P w K mg base 1 "normal" (spNormal K) [] := by
  refine cal_of T.d_normal sc_normal (fun _ _ _ _ _ _ us hl => match us, hl with | [_, _], _ => rfl) (fun vs H Q E h => ?_) (fun f cdv A outer s H vs Q E hr h => ?_)
  · obtain ⟨w, v, ob, rfl, _⟩ := h
    rfl
  obtain ⟨w, v, ob, rfl, hv, hw, k⟩ := h
  refine ⟨_, (pss_cons (ps_if (pt_cmpR op_isN (pv 1) pe_non (nomark _)) (pss_one (ps_ret (pe_ifExp (pt_cmpR op_eq (pv 0) pe_str (nomark _)) (C8.pe_gc (by rfl) T.v_NO_NUMBERS) (C8.pe_gc (by rfl) T.v_NO_WORDS)))) pss_nil)
      (pss_cons (ps_if (pt_cmpR op_eq (pv 0) pe_str (nomark _)) (pss_one (ps_ret (pv 1))) pss_nil)
      (pss_one (ps_ret (pe_tup (pa_cons (pe_callTy call_tuple_of (by rfl) T.f_tuple (by decide +kernel) (pa_cons (pe_callB (cr_sortedSetS (by rfl)) (by rfl) T.f_sorted (by decide +kernel) (pa_cons (pe_callTy (call_setL (by rfl)) (by rfl) T.f_set (by decide +kernel) (pa_cons (pe_ix ix_tup (pv 1) pe_int (fun _ _ => rfl)) pa_nil)) pa_nil)) pa_nil)) (pa_cons (pe_ix ix_tup (pv 1) pe_int (fun _ _ => rfl)) pa_nil))))))), ?_⟩
  rcases ob with _ | ⟨lo, hi⟩ | ⟨ws, ins⟩
  · obtain rfl : v = .non := hv
    refine ⟨_, rfl, rfl, _, rfl, ite2 (fun _ => ?_) (fun z => absurd (decide_eq_true rfl) z)⟩
    cases w with
    | false =>
      refine ⟨_, rfl, rfl, _, rfl, ite2 (fun _ => ?_) (fun z => absurd srtF_num z)⟩
      exact k _ (.num none none) H rfl rfl ⟨_, rfl, T.t_NO_NUMBERS H⟩ .refl
    | true =>
      refine ⟨_, rfl, rfl, _, rfl, ite2 (fun z => absurd z srtT_num) (fun _ => ?_)⟩
      obtain ⟨a, h1, h2⟩ := T.t_NO_WORDS
      exact k _ (.wrd [] false) H rfl rfl ⟨_, a, rfl, h1 H, h2 H, by decide, fun x h => by cases h⟩ .refl
  · obtain ⟨t, rfl, ht⟩ := hv
    obtain rfl : false = w := hw _ rfl
    refine ⟨_, rfl, rfl, _, rfl, ite2 (fun z => absurd (of_decide_eq_true z) (fun y => by cases y)) (fun _ => ?_)⟩
    refine ⟨_, rfl, rfl, _, rfl, ite2 (fun _ => ?_) (fun z => absurd srtF_num z)⟩
    exact ⟨_, rfl, k _ (.num lo hi) H rfl rfl ⟨t, rfl, .of ht⟩ .refl⟩
  · obtain ⟨t, q, rfl, ht, hq, hlen, hnm⟩ := hv
    obtain rfl : true = w := hw _ rfl
    refine ⟨_, rfl, rfl, _, rfl, ite2 (fun z => absurd (of_decide_eq_true z) (fun y => by cases y)) (fun _ => ?_)⟩
    refine ⟨_, rfl, rfl, _, rfl, ite2 (fun z => absurd z srtT_num) (fun _ => ?_)⟩
    refine ⟨_, rfl, t, _, 0, .ref q, rfl, rfl, .of ht, rfl, q, ws.map Sum.inr, rfl, ?_, by rw [List.length_map]; omega, fun p L nd hle hm np => ?_⟩
    · rw [kv_inr]
      exact hq.imp .of .of
    · obtain ⟨ss, rfl, snd, smem⟩ := set_strs nd hm
      rw [List.length_map, List.length_map] at hle
      have k1 : Kp0 H (upd H p (SetLO P w p (ss.map Sum.inr))) := Keep.refl.new np
      refine ⟨p, ss, rfl, upd_same, by omega, fun ys l pm so nl => ?_⟩
      have k2 := k1.new (o := .lst (ys.map V.str)) nl
      refine ⟨l, _, rfl, .inl ⟨.of upd_same, fun tp ntp => ?_⟩⟩
      have k3 := k2.new (o := .tup (ys.map V.str)) ntp
      refine ⟨_, rfl, t, _, 1, .bl ins, rfl, rfl, .of (k3.at0 ht), rfl, (by rw [sizeLine_eq]; show 2 ≤ _; decide), fun r nr => ?_⟩
      refine k _ (.wrd ys ins) _ ⟨ys, ⟨pm.nodup_iff.mpr snd, fun j => by rw [pm.mem_iff, smem], so⟩, rfl⟩ rfl ⟨r, tp, rfl, .of upd_same, .of ?_, by rw [pm.length_eq]; omega, fun x hx => hnm x ((smem x).mp (pm.mem_iff.mp hx))⟩ (k3.new nr)
      rw [upd_ne (fun z => by rw [← z, upd_same] at nr; cases nr), upd_same]
theorem inV_str (x : Str) : ∀ ws : List Str, inV (.str x) (ws.map V.str) = decide (x ∈ ws)
  | [] => rfl
  | y :: ws => by
    have ih := inV_str x ws
    unfold inV at ih ⊢
    rw [List.map_cons, List.any_cons, ih]
    show ((y == x) || decide (x ∈ ws)) = _
    rw [Bool.eq_iff_iff, Bool.or_eq_true, decide_eq_true_eq, decide_eq_true_eq, List.mem_cons, (beq_iff_eq : (y == x) = true ↔ y = x)]
    exact or_congr_left eq_comm
theorem flat_strs (ws : List Str) : (ws.map V.str).all flatV = true := by
  rw [List.all_map]
  exact List.all_eq_true.mpr fun _ _ => rfl
theorem dec_blb (a b : Bool) : decide (V.bl a = V.bl b) = (a == b) := by cases a <;> cases b <;> rfl
def spHas (K : PySem.W.Frag) : Sp := fun vs H Q _ => ∃ (v x : V) (n : Bd), vs = [.str (srt n.isW), v, x] ∧ NmAt K H v n ∧ OfSort n.isW x ∧ Q (.bl (hasB n x)) H
theorem Txt1.c_has (T : Txt1 K mg) : C8.Cal P w K mg base 1 "has" (spHas K) [] := by
  refine cal_of T.d_has sc_has (fun _ _ _ _ _ _ us hl => match us, hl with | [_, _, _], _ => rfl) (fun vs H Q E h => ?_) (fun f cdv A outer s H vs Q E hr h => ?_)
  · obtain ⟨v, x, n, rfl, _⟩ := h
    rfl
  obtain ⟨v, x, n, rfl, hv, hx, k⟩ := h
  refine ⟨_, (pss_cons (ps_if (pt_cmpR op_eq (pv 0) pe_str (nomark _)) (pss_one (ps_ret (pe_cmpR op_eq (pe_cmpR op_in_seq (pv 2) (pe_ix ix_tup (pv 1) pe_int (fun _ _ => rfl)) (by rfl)) (pe_ix ix_tup (pv 1) pe_int (fun _ _ => rfl)) (nomark _)))) pss_nil)
      (pss_cons (ps_asg (pv 1) (pg_tup rfl (pgs_cons (pg_name (i := 3) sc_has.nd rfl (by first | exact .inl rfl | exact .inr rfl)) (pgs_cons (pg_name (i := 4) sc_has.nd rfl (by first | exact .inl rfl | exact .inr rfl)) pgs_nil))))
      (pss_one (ps_ret (pe_and (pe_or (pe_cmpR op_isN (pv 3) pe_non (nomark _)) (pe_one (pe_cmpR op_le (pv 3) (pv 2) (nomark _)))) (pe_one (pe_or (pe_cmpR op_isN (pv 4) pe_non (nomark _)) (pe_one (pe_cmpR op_le (pv 2) (pv 4) (nomark _)))))))))), ?_⟩
  rcases n with ⟨lo, hi⟩ | ⟨ws, ins⟩
  · obtain ⟨t, rfl, ht⟩ := hv
    obtain ⟨i, rfl⟩ := hx
    refine ⟨_, rfl, rfl, _, rfl, ite2 (fun z => absurd z srtF_wrd) (fun _ => ?_)⟩
    refine ⟨_, rfl, t, _, rfl, ht, rfl, ?_⟩
    refine ⟨_, _, rfl, _, _, rfl, rfl, ?_⟩
    have hi' : Q (.bl (hasB (.num none hi) (.int i))) H → tOrV (tOp (fun x y H Q => y = .non ∧ Q (.bl (decide (x = .non))) H) (tVar 4) (tC .non)) (tOp (rI0 fun i j => .bl (decide (i ≤ j))) (tVar 2) (tVar 4)) [some (.str (srt false)), some (.ref t), some (.int i), some (oI lo), some (oI hi)] H Q := fun q => by
      cases hi with
      | none => exact ⟨_, rfl, rfl, _, rfl, ite2 (fun _ => q) (fun z => absurd (decide_eq_true rfl) z)⟩
      | some h => exact ⟨_, rfl, rfl, _, rfl, ite2 (fun z => absurd z oI_some) (fun _ => ⟨_, rfl, _, rfl, _, _, rfl, rfl, q⟩)⟩
    cases lo with
    | none =>
      exact ⟨_, rfl, rfl, _, rfl, ite2 (fun _ => ⟨_, rfl, ite2 (fun _ => hi' k) (fun z => absurd rfl z)⟩) (fun z => absurd (decide_eq_true rfl) z)⟩
    | some l =>
      refine ⟨_, rfl, rfl, _, rfl, ite2 (fun z => absurd z oI_some) (fun _ => ⟨_, rfl, _, rfl, _, _, rfl, rfl, _, rfl, ite2 (fun z => hi' ?_) (fun z => ?_)⟩)⟩
      · have e : hasB (.num (some l) hi) (.int i) = hasB (.num none hi) (.int i) := by
          show (decide (l ≤ i) && _) = (true && _)
          rw [z]; rfl
        rw [← e]; exact k
      · have e : hasB (.num (some l) hi) (.int i) = false := by
          show (decide (l ≤ i) && _) = false
          rw [Bool.eq_false_iff.mpr z]; rfl
        rw [← e]; exact k
  · obtain ⟨t, q, rfl, ht, hq, -⟩ := hv
    obtain ⟨y, rfl⟩ := hx
    refine ⟨_, rfl, rfl, _, rfl, ite2 (fun _ => ?_) (fun z => absurd srtT_wrd z)⟩
    refine ⟨_, rfl, _, rfl, t, _, 0, .ref q, rfl, rfl, ht, rfl, q, _, rfl, .inr hq, rfl, flat_strs ws, ?_⟩
    refine ⟨_, rfl, t, _, 1, .bl ins, rfl, rfl, ht, rfl, rfl, ?_⟩
    rw [show (if false = true then !inV (.str y) (ws.map V.str) else inV (.str y) (ws.map V.str)) = decide (y ∈ ws) from inV_str y ws, dec_blb]
    exact k
theorem dp_strs {K : PySem.W.Frag} {H : Hp} : ∀ ws : List Str, DpAll K H (ws.map V.str) (ws.map PyData.str)
  | [] => .nil
  | x :: ws => .cons (.str x) (dp_strs ws)
theorem strOk_nm {x : Str} (h : isNm x = true) : PyData.strOk x = true := by
  unfold isNm at h
  simp only [Bool.and_eq_true, decide_eq_true_eq, List.all_eq_true] at h
  have l : ∀ c ∈ letters, c < 0x110000 := by decide +kernel
  unfold PyData.strOk
  rw [← Array.all_toList, List.all_eq_true]
  exact fun c hc => decide_eq_true (l c (h.2 c hc))
theorem canLay_strs {ws : List Str} (h : ∀ x ∈ ws, isNm x = true) : PyData.canLayAll0 (ws.map PyData.str) = true := by
  rw [canLayAll_strs']
  exact List.all_eq_true.mpr fun x hx => strOk_nm (h x hx)
theorem shaped_wrd {ws : List Str} {ins : Bool} (h : ∀ x ∈ ws, isNm x = true) : SeqAt.shaped (.tuple [.tuple (ws.map .str), .bool ins]) = true := by
  unfold SeqAt.shaped
  simp only [PyData.canLay0, PyData.canLayAll0, canLay_strs h, Bool.and_self, Bool.true_and, decide_eq_true_eq, PyData.depth, PyData.depthAll, depthAll_strs']
  decide
theorem eqv_empty (ws : List Str) (ins : Bool) : PyData.eqv (.tuple [.tuple (ws.map .str), .bool ins]) (.tuple [.tuple [], .bool true]) = emptyB (.wrd ws ins) := by
  cases ws <;> cases ins <;> simp [PyData.eqv, PyData.eqvAll, emptyB]
def spIsEmpty (K : PySem.W.Frag) : Sp := fun vs H Q _ => ∃ (v : V) (n : Bd), vs = [.str (srt n.isW), v] ∧ NmAt K H v n ∧ ∀ H', Kp0 H H' → Q (.bl (emptyB n)) H'
theorem Txt1.c_is_empty (T : Txt1 K mg) : C8.Cal P w K mg base 1 "is_empty" (spIsEmpty K) [] := by
  refine cal_of T.d_is_empty sc_is_empty (fun _ _ _ _ _ _ us hl => match us, hl with | [_, _], _ => rfl) (fun vs H Q E h => ?_) (fun f cdv A outer s H vs Q E hr h => ?_)
  · obtain ⟨v, n, rfl, _⟩ := h
    rfl
  obtain ⟨v, n, rfl, hv, k⟩ := h
  refine ⟨_, (pss_cons (ps_if (pt_cmpR op_eq (pv 0) pe_str (nomark _)) (pss_one (ps_ret (pe_cmpR (op_eqD hr.units) (pv 1) (pe_tup (pa_cons (pe_tup pa_nil) (pa_cons pe_bl pa_nil))) (nomark _)))) pss_nil)
      (pss_one (ps_ret (pe_and (pe_cmpR op_notIn_seq pe_non (pv 1) (by rfl)) (pe_one (pe_cmpR op_gt (pe_ix ix_tup (pv 1) pe_int (fun _ _ => rfl)) (pe_ix ix_tup (pv 1) pe_int (fun _ _ => rfl)) (nomark _))))))), ?_⟩
  rcases n with ⟨lo, hi⟩ | ⟨ws, ins⟩
  · obtain ⟨t, rfl, ht⟩ := hv
    refine ⟨_, rfl, rfl, _, rfl, ite2 (fun z => absurd z srtF_wrd) (fun _ => ?_)⟩
    have hflat : [oI lo, oI hi].all flatV = true := by cases lo <;> cases hi <;> rfl
    refine ⟨_, rfl, t, _, rfl, .inr ht, rfl, hflat, _, rfl, ?_⟩
    have ix : ∀ j : Nat, j < 2 → ∀ x, [oI lo, oI hi][j]? = some x → True := fun _ _ _ _ => trivial
    cases lo with
    | none => exact iteF (k H .refl)
    | some l =>
      cases hi with
      | none => exact iteF (k H .refl)
      | some h => exact iteT ⟨_, rfl, t, _, 0, .int l, rfl, rfl, ht, rfl, _, rfl, t, _, 1, .int h, rfl, rfl, ht, rfl, _, _, rfl, rfl, k H .refl⟩
  · obtain ⟨t, q, rfl, ht, hq, hlen, hnm⟩ := hv
    refine ⟨_, rfl, rfl, _, rfl, ite2 (fun _ => ?_) (fun z => absurd srtT_wrd z)⟩
    refine ⟨_, rfl, (by show 0 ≤ _; omega), fun e ne => ⟨by rw [sizeLine_eq]; show 2 ≤ _; decide, fun r nr => ?_⟩⟩
    have k1 : Kp0 H (upd H e (.tup [])) := Keep.refl.new ne
    have k2 := k1.new (o := .tup [.ref e, .bl true]) nr
    have he : upd (upd H e (.tup [])) r (.tup [.ref e, .bl true]) e = some (.tup []) := by
      rw [upd_ne (fun z => by rw [← z, upd_same] at nr; cases nr), upd_same]
    refine ⟨.tuple [.tuple (ws.map .str), .bool ins], .tuple [.tuple [], .bool true], .tup (k2.sqt0 ht) (.cons (.tup (k2.sqt0 hq) (dp_strs ws)) (.cons (.bl _) .nil)), .tup (.of upd_same) (.cons (.tup (.of he) .nil) (.cons (.bl _) .nil)), shaped_wrd hnm, by decide +kernel, ?_⟩
    rw [eqv_empty]
    exact k _ k2
/-- a parameter as it is given: a pair, or a triple without a default -/
def PrAt (K : PySem.W.Frag) (H : Hp) (x : V) (p : Str × Bool) : Prop := ∃ t, x = .ref t ∧ (SqT K H t [.str p.1, .str (srt p.2)] ∨ SqT K H t [.str p.1, .str (srt p.2), .non])
/-- a whole one -/
def TrAt (K : PySem.W.Frag) (H : Hp) (x : V) (p : Str × Bool) : Prop := ∃ t, x = .ref t ∧ SqT K H t [.str p.1, .str (srt p.2), .non]
theorem PrAt.keep {K : PySem.W.Frag} {H H' : Hp} {x : V} {p : Str × Bool} (k : Kp0 H H') (h : PrAt K H x p) : PrAt K H' x p := by
  obtain ⟨t, e, h⟩ := h
  exact ⟨t, e, h.imp k.sqt0 k.sqt0⟩
theorem TrAt.keep {K : PySem.W.Frag} {H H' : Hp} {x : V} {p : Str × Bool} (k : Kp0 H H') (h : TrAt K H x p) : TrAt K H' x p := by
  obtain ⟨t, e, h⟩ := h
  exact ⟨t, e, k.sqt0 h⟩
def spWhole (K : PySem.W.Frag) : Sp := fun vs H Q _ => ∃ (x : V) (p : Str × Bool), vs = [x] ∧ PrAt K H x p ∧ ∀ y H', TrAt K H' y p → Kp0 H H' → Q y H'
theorem Txt1.c_whole (T : Txt1 K mg) : C8.Cal P w K mg base 1 "whole" (spWhole K) [] := by
  refine cal_of T.d_whole sc_whole (fun _ _ _ _ _ _ us hl => match us, hl with | [_], _ => rfl) (fun vs H Q E h => ?_) (fun f cdv A outer s H vs Q E hr h => ?_)
  · obtain ⟨x, p, rfl, _⟩ := h
    rfl
  obtain ⟨x, p, rfl, hx, k⟩ := h
  refine ⟨_, (pss_one (ps_ret (pe_ifExp (pt_cmpR op_eq (pe_callB call_len (by rfl) T.f_len (by decide +kernel) (pa_cons (pv 0) pa_nil)) pe_int (nomark _)) (pe_callTy call_tuple_of (by rfl) T.f_tuple (by decide +kernel) (pa_cons (pv 0) pa_nil)) (pe_tup (StX.pa_star (pv 0) (pa_cons pe_non pa_nil)))))), ?_⟩
  obtain ⟨t, rfl, ht | ht⟩ := hx
  · refine ⟨_, rfl, _, 2, rfl, .inr ⟨_, ht, rfl⟩, rfl, _, rfl, ite2 (fun z => absurd z (by decide)) (fun _ => ?_)⟩
    refine ⟨_, rfl, t, _, rfl, .inl ht, (by rw [sizeLine_eq]; show 3 ≤ _; decide), fun r nr => ?_⟩
    exact k _ _ ⟨r, rfl, .of upd_same⟩ (Keep.refl.new nr)
  · refine ⟨_, rfl, _, 3, rfl, .inr ⟨_, ht, rfl⟩, rfl, _, rfl, ite2 (fun _ => ?_) (fun z => absurd (by decide) z)⟩
    exact ⟨_, rfl, t, _, rfl, .inr ⟨ht, k _ _ ⟨t, rfl, ht⟩ .refl⟩⟩
end
/-! The law's own bounds. -/
open PySem PySem.Spec PyProof.Rows L2
abbrev s_l_fits : Stmt := top 40
theorem sc_l_fits : FnScope ["_law_sort", "_law_bound_here", "_law_value"] ["_law_sort", "_law_bound_here", "_law_value"] (defScope s_l_fits) := ⟨rfl, rfl, rfl, by decide +kernel, rfl, by decide +kernel, by decide +kernel⟩
abbrev s_l_normal : Stmt := top 41
theorem sc_l_normal : FnScope ["_law_sort", "_law_bound_here"] ["_law_sort", "_law_bound_here"] (defScope s_l_normal) := ⟨rfl, rfl, rfl, by decide +kernel, rfl, by decide +kernel, by decide +kernel⟩
abbrev s_l_is_none : Stmt := top 43
theorem sc_l_is_none : FnScope ["_law_sort", "_law_bound_here"] ["_law_sort", "_law_bound_here"] (defScope s_l_is_none) := ⟨rfl, rfl, rfl, by decide +kernel, rfl, by decide +kernel, by decide +kernel⟩
structure Txt2 (K : PySem.W.Frag) (mg : Str → Option Value) : Prop extends Txt1 K mg where
  d_l_fits : HasDef K mg "_law_fits" s_l_fits [] []
  d_l_normal : HasDef K mg "_law_normal" s_l_normal [] []
  d_l_is_none : HasDef K mg "_law_is_none" s_l_is_none [] []
section
variable {P : Program} {w : World} {K : PySem.W.Frag} {mg : Str → Option Value} {base : Heap}
theorem Txt2.c_l_fits (T : Txt2 K mg) : C8.Cal P w K mg base 1 "_law_fits" (spHas K) [] := by
  refine cal_of T.d_l_fits sc_l_fits (fun _ _ _ _ _ _ us hl => match us, hl with | [_, _, _], _ => rfl) (fun vs H Q E h => ?_) (fun f cdv A outer s H vs Q E hr h => ?_)
  · obtain ⟨v, x, n, rfl, _⟩ := h
    rfl
  obtain ⟨v, x, n, rfl, hv, hx, k⟩ := h
  refine ⟨_, (pss_cons (ps_if (pt_cmpR op_eq (pv 0) pe_str (nomark _)) (pss_one (ps_ret (pe_cmpR op_eq (pe_cmpR op_in_seq (pv 2) (pe_ix ix_tup (pv 1) pe_int (fun _ _ => rfl)) (by rfl)) (pe_ix ix_tup (pv 1) pe_int (fun _ _ => rfl)) (nomark _)))) pss_nil)
      (pss_one (ps_ret (pe_and (pe_or (pe_cmpR op_isN (pe_ix ix_tup (pv 1) pe_int (fun _ _ => rfl)) pe_non (nomark _)) (pe_one (pe_cmpR op_le (pe_ix ix_tup (pv 1) pe_int (fun _ _ => rfl)) (pv 2) (nomark _)))) (pe_one (pe_or (pe_cmpR op_isN (pe_ix ix_tup (pv 1) pe_int (fun _ _ => rfl)) pe_non (nomark _)) (pe_one (pe_cmpR op_le (pv 2) (pe_ix ix_tup (pv 1) pe_int (fun _ _ => rfl)) (nomark _))))))))), ?_⟩
  rcases n with ⟨lo, hi⟩ | ⟨ws, ins⟩
  · obtain ⟨t, rfl, ht⟩ := hv
    obtain ⟨i, rfl⟩ := hx
    refine ⟨_, rfl, rfl, _, rfl, ite2 (fun z => absurd z srtF_wrd) (fun _ => ?_)⟩
    have hi' : Q (.bl (hasB (.num none hi) (.int i))) H → tOrV (tOp (fun x y H Q => y = .non ∧ Q (.bl (decide (x = .non))) H) (tOp (rIxT K) (tVar 1) (tC (.int 1))) (tC .non)) (tOp (rI0 fun i j => .bl (decide (i ≤ j))) (tVar 2) (tOp (rIxT K) (tVar 1) (tC (.int 1)))) [some (.str (srt false)), some (.ref t), some (.int i)] H Q := fun q => by
      cases hi with
      | none => exact ⟨_, rfl, t, _, 1, _, rfl, rfl, ht, rfl, rfl, _, rfl, ite2 (fun _ => q) (fun z => absurd (decide_eq_true rfl) z)⟩
      | some h => exact ⟨_, rfl, t, _, 1, _, rfl, rfl, ht, rfl, rfl, _, rfl, ite2 (fun z => absurd z oI_some) (fun _ => ⟨_, rfl, _, rfl, t, _, 1, _, rfl, rfl, ht, rfl, _, _, rfl, rfl, q⟩)⟩
    cases lo with
    | none =>
      exact ⟨_, rfl, t, _, 0, _, rfl, rfl, ht, rfl, rfl, _, rfl, ite2 (fun _ => ⟨_, rfl, ite2 (fun _ => hi' k) (fun z => absurd rfl z)⟩) (fun z => absurd (decide_eq_true rfl) z)⟩
    | some l =>
      refine ⟨_, rfl, t, _, 0, _, rfl, rfl, ht, rfl, rfl, _, rfl, ite2 (fun z => absurd z oI_some) (fun _ => ⟨_, rfl, t, _, 0, _, rfl, rfl, ht, rfl, _, rfl, _, _, rfl, rfl, _, rfl, ite2 (fun z => hi' ?_) (fun z => ?_)⟩)⟩
      · have e : hasB (.num (some l) hi) (.int i) = hasB (.num none hi) (.int i) := by
          show (decide (l ≤ i) && _) = (true && _)
          rw [z]; rfl
        rw [← e]; exact k
      · have e : hasB (.num (some l) hi) (.int i) = false := by
          show (decide (l ≤ i) && _) = false
          rw [Bool.eq_false_iff.mpr z]; rfl
        rw [← e]; exact k
  · obtain ⟨t, q, rfl, ht, hq, -⟩ := hv
    obtain ⟨y, rfl⟩ := hx
    refine ⟨_, rfl, rfl, _, rfl, ite2 (fun _ => ?_) (fun z => absurd srtT_wrd z)⟩
    refine ⟨_, rfl, _, rfl, t, _, 0, .ref q, rfl, rfl, ht, rfl, q, _, rfl, .inr hq, rfl, flat_strs ws, ?_⟩
    refine ⟨_, rfl, t, _, 1, .bl ins, rfl, rfl, ht, rfl, rfl, ?_⟩
    rw [show (if false = true then !inV (.str y) (ws.map V.str) else inV (.str y) (ws.map V.str)) = decide (y ∈ ws) from inV_str y ws, dec_blb]
    exact k
theorem Txt2.c_l_normal (T : Txt2 K mg) : C8.Cal P w K mg base 1 "_law_normal" (spNormal K) [] := by
  refine cal_of T.d_l_normal sc_l_normal (fun _ _ _ _ _ _ us hl => match us, hl with | [_, _], _ => rfl) (fun vs H Q E h => ?_) (fun f cdv A outer s H vs Q E hr h => ?_)
  · obtain ⟨w, v, ob, rfl, _⟩ := h
    rfl
  obtain ⟨w, v, ob, rfl, hv, hw, k⟩ := h
  refine ⟨_, (pss_cons (ps_if (pt_cmpR op_eq (pv 0) pe_str (nomark _)) (pss_one (ps_ret (pe_ifExp (pt_cmpR op_isN (pv 1) pe_non (nomark _)) (pe_tup (pa_cons pe_non (pa_cons pe_non pa_nil))) (pv 1)))) pss_nil)
      (pss_one (ps_ret (pe_ifExp (pt_cmpR op_isN (pv 1) pe_non (nomark _)) (pe_tup (pa_cons (pe_tup pa_nil) (pa_cons pe_bl pa_nil))) (pe_tup (pa_cons (pe_callTy call_tuple_of (by rfl) T.f_tuple (by decide +kernel) (pa_cons (pe_callB (cr_sortedSetS (by rfl)) (by rfl) T.f_sorted (by decide +kernel) (pa_cons (pe_callTy (call_setL (by rfl)) (by rfl) T.f_set (by decide +kernel) (pa_cons (pe_ix ix_tup (pv 1) pe_int (fun _ _ => rfl)) pa_nil)) pa_nil)) pa_nil)) (pa_cons (pe_ix ix_tup (pv 1) pe_int (fun _ _ => rfl)) pa_nil))))))), ?_⟩
  rcases ob with _ | ⟨lo, hi⟩ | ⟨ws, ins⟩
  · obtain rfl : v = .non := hv
    cases w with
    | false =>
      refine ⟨_, rfl, rfl, _, rfl, ite2 (fun _ => ?_) (fun z => absurd srtF_num z)⟩
      refine ⟨_, rfl, rfl, _, rfl, ite2 (fun _ => ?_) (fun z => absurd (decide_eq_true rfl) z)⟩
      refine ⟨by rw [sizeLine_eq]; show 2 ≤ _; decide, fun r nr => ?_⟩
      exact k _ (.num none none) _ rfl rfl ⟨r, rfl, .of upd_same⟩ (Keep.refl.new nr)
    | true =>
      refine ⟨_, rfl, rfl, _, rfl, ite2 (fun z => absurd z srtT_num) (fun _ => ?_)⟩
      refine ⟨_, rfl, rfl, _, rfl, ite2 (fun _ => ?_) (fun z => absurd (decide_eq_true rfl) z)⟩
      refine ⟨(by show 0 ≤ _; omega), fun e ne => ⟨by rw [sizeLine_eq]; show 2 ≤ _; decide, fun r nr => ?_⟩⟩
      have k1 : Kp0 H (upd H e (.tup [])) := Keep.refl.new ne
      refine k _ (.wrd [] false) _ rfl rfl ⟨r, e, rfl, .of upd_same, .of ?_, by decide, fun x h => by cases h⟩ (k1.new nr)
      rw [upd_ne (fun z => by rw [← z, upd_same] at nr; cases nr), upd_same]; rfl
  · obtain ⟨t, rfl, ht⟩ := hv
    obtain rfl : false = w := hw _ rfl
    refine ⟨_, rfl, rfl, _, rfl, ite2 (fun _ => ?_) (fun z => absurd srtF_num z)⟩
    refine ⟨_, rfl, rfl, _, rfl, ite2 (fun z => absurd (of_decide_eq_true z) (fun y => by cases y)) (fun _ => ?_)⟩
    exact ⟨_, rfl, k _ (.num lo hi) H rfl rfl ⟨t, rfl, .of ht⟩ .refl⟩
  · obtain ⟨t, q, rfl, ht, hq, hlen, hnm⟩ := hv
    obtain rfl : true = w := hw _ rfl
    refine ⟨_, rfl, rfl, _, rfl, ite2 (fun z => absurd z srtT_num) (fun _ => ?_)⟩
    refine ⟨_, rfl, rfl, _, rfl, ite2 (fun z => absurd (of_decide_eq_true z) (fun y => by cases y)) (fun _ => ?_)⟩
    refine ⟨_, rfl, t, _, 0, .ref q, rfl, rfl, .of ht, rfl, q, ws.map Sum.inr, rfl, ?_, by rw [List.length_map]; omega, fun p L nd hle hm np => ?_⟩
    · rw [kv_inr]
      exact hq.imp .of .of
    · obtain ⟨ss, rfl, snd, smem⟩ := set_strs nd hm
      rw [List.length_map, List.length_map] at hle
      have k1 : Kp0 H (upd H p (SetLO P w p (ss.map Sum.inr))) := Keep.refl.new np
      refine ⟨p, ss, rfl, upd_same, by omega, fun ys l pm so nl => ?_⟩
      have k2 := k1.new (o := .lst (ys.map V.str)) nl
      refine ⟨l, _, rfl, .inl ⟨.of upd_same, fun tp ntp => ?_⟩⟩
      have k3 := k2.new (o := .tup (ys.map V.str)) ntp
      refine ⟨_, rfl, t, _, 1, .bl ins, rfl, rfl, .of (k3.at0 ht), rfl, (by rw [sizeLine_eq]; show 2 ≤ _; decide), fun r nr => ?_⟩
      refine k _ (.wrd ys ins) _ ⟨ys, ⟨pm.nodup_iff.mpr snd, fun j => by rw [pm.mem_iff, smem], so⟩, rfl⟩ rfl ⟨r, tp, rfl, .of upd_same, .of ?_, by rw [pm.length_eq]; omega, fun x hx => hnm x ((smem x).mp (pm.mem_iff.mp hx))⟩ (k3.new nr)
      rw [upd_ne (fun z => by rw [← z, upd_same] at nr; cases nr), upd_same]
theorem Txt2.c_l_is_none (T : Txt2 K mg) : C8.Cal P w K mg base 1 "_law_is_none" (spIsEmpty K) [] := by
  refine cal_of T.d_l_is_none sc_l_is_none (fun _ _ _ _ _ _ us hl => match us, hl with | [_, _], _ => rfl) (fun vs H Q E h => ?_) (fun f cdv A outer s H vs Q E hr h => ?_)
  · obtain ⟨v, n, rfl, _⟩ := h
    rfl
  obtain ⟨v, n, rfl, hv, k⟩ := h
  refine ⟨_, (pss_cons (ps_if (pt_cmpR op_eq (pv 0) pe_str (nomark _)) (pss_one (ps_ret (pe_cmpR (op_eqD hr.units) (pv 1) (pe_tup (pa_cons (pe_tup pa_nil) (pa_cons pe_bl pa_nil))) (nomark _)))) pss_nil)
      (pss_one (ps_ret (pe_and (pe_cmpR op_notN (pe_ix ix_tup (pv 1) pe_int (fun _ _ => rfl)) pe_non (nomark _)) (pe_and (pe_cmpR op_notN (pe_ix ix_tup (pv 1) pe_int (fun _ _ => rfl)) pe_non (nomark _)) (pe_one (pe_cmpR op_gt (pe_ix ix_tup (pv 1) pe_int (fun _ _ => rfl)) (pe_ix ix_tup (pv 1) pe_int (fun _ _ => rfl)) (nomark _)))))))), ?_⟩
  rcases n with ⟨lo, hi⟩ | ⟨ws, ins⟩
  · obtain ⟨t, rfl, ht⟩ := hv
    refine ⟨_, rfl, rfl, _, rfl, ite2 (fun z => absurd z srtF_wrd) (fun _ => ?_)⟩
    refine ⟨_, rfl, t, _, 0, _, rfl, rfl, ht, rfl, rfl, _, rfl, ?_⟩
    cases lo with
    | none => exact iteF (k H .refl)
    | some l =>
      refine iteT ⟨_, rfl, t, _, 1, _, rfl, rfl, ht, rfl, rfl, _, rfl, ?_⟩
      cases hi with
      | none => exact iteF (k H .refl)
      | some h => exact iteT ⟨_, rfl, t, _, 0, .int l, rfl, rfl, ht, rfl, _, rfl, t, _, 1, .int h, rfl, rfl, ht, rfl, _, _, rfl, rfl, k H .refl⟩
  · obtain ⟨t, q, rfl, ht, hq, hlen, hnm⟩ := hv
    refine ⟨_, rfl, rfl, _, rfl, ite2 (fun _ => ?_) (fun z => absurd srtT_wrd z)⟩
    refine ⟨_, rfl, (by show 0 ≤ _; omega), fun e ne => ⟨by rw [sizeLine_eq]; show 2 ≤ _; decide, fun r nr => ?_⟩⟩
    have k1 : Kp0 H (upd H e (.tup [])) := Keep.refl.new ne
    have k2 := k1.new (o := .tup [.ref e, .bl true]) nr
    have he : upd (upd H e (.tup [])) r (.tup [.ref e, .bl true]) e = some (.tup []) := by
      rw [upd_ne (fun z => by rw [← z, upd_same] at nr; cases nr), upd_same]
    refine ⟨.tuple [.tuple (ws.map .str), .bool ins], .tuple [.tuple [], .bool true], .tup (k2.sqt0 ht) (.cons (.tup (k2.sqt0 hq) (dp_strs ws)) (.cons (.bl _) .nil)), .tup (.of upd_same) (.cons (.tup (.of he) .nil) (.cons (.bl _) .nil)), shaped_wrd hnm, by decide +kernel, ?_⟩
    rw [eqv_empty]
    exact k _ k2
end
/-! Tables of named values. -/
open PySem PySem.Spec PyProof.Rows L2
def tk (T : List (Str × V)) : List (Key × V) := T.map fun p => (Sum.inr p.1, p.2)
theorem tk_val (n : Str) : ∀ T : List (Str × V), valV (tk T) (Sum.inr n) = T.lookup n
  | [] => rfl
  | p :: T => by
    have ih := tk_val n T
    show valV ((Sum.inr p.1, p.2) :: tk T) _ = _
    rw [List.lookup_cons]
    by_cases h : p.1 = n
    · rw [valV_pos (by rw [h])]
      have : (n == p.1) = true := by rw [h]; exact beq_self_eq_true n
      rw [this]
    · rw [valV_neg (fun z => h (Sum.inr.inj z)), ih]
      have : (n == p.1) = false := beq_eq_false_iff_ne.mpr fun z => h z.symm
      rw [this]
theorem tk_put {T : List (Str × V)} {n : Str} {v : V} (h : T.lookup n = none) : putK (tk T) (Sum.inr n) v = tk (T ++ [(n, v)]) := by
  rw [putK_new v (by rw [tk_val, h])]
  unfold tk
  rw [List.map_append]; rfl
theorem lookup_notin {β : Type} {n : Str} : ∀ {T : List (Str × β)}, n ∉ T.map (·.1) → T.lookup n = none
  | [], _ => rfl
  | p :: T, h => by
    rw [List.lookup_cons]
    have h1 : n ≠ p.1 := fun e => h (by rw [e]; exact List.mem_cons_self ..)
    rw [show (n == p.1) = false from beq_eq_false_iff_ne.mpr h1]
    exact lookup_notin fun z => h (List.mem_cons_of_mem _ z)
theorem lookup_in {β : Type} {n : Str} {b : β} : ∀ {T : List (Str × β)}, (T.map (·.1)).Nodup → (n, b) ∈ T → T.lookup n = some b
  | p :: T, nd, h => by
    rw [List.map_cons, List.nodup_cons] at nd
    rw [List.lookup_cons]
    rcases List.mem_cons.mp h with e | e
    · rw [← e, show (n == n) = true from beq_self_eq_true n]
    · have hne : n ≠ p.1 := fun z => nd.1 (by rw [← z]; exact List.mem_map_of_mem (f := (·.1)) e)
      rw [show (n == p.1) = false from beq_eq_false_iff_ne.mpr hne]
      exact lookup_in nd.2 e
theorem lookup_mem {β : Type} {n : Str} {b : β} : ∀ {T : List (Str × β)}, T.lookup n = some b → (n, b) ∈ T
  | p :: T, h => by
    rw [List.lookup_cons] at h
    by_cases e : n = p.1
    · rw [show (n == p.1) = true by rw [e]; exact beq_self_eq_true _] at h
      rw [e, ← Option.some.inj h]
      exact List.mem_cons_self ..
    · rw [show (n == p.1) = false from beq_eq_false_iff_ne.mpr e] at h
      exact List.mem_cons_of_mem _ (lookup_mem h)
theorem merge_tk : ∀ (T S : List (Str × V)), ((S ++ T).map (·.1)).Nodup → mergeK (tk S) (tk T) = tk (S ++ T)
  | [], S, _ => by rw [List.append_nil]; rfl
  | p :: T, S, nd => by
    show mergeK (putK (tk S) (Sum.inr p.1) p.2) (tk T) = _
    have h1 : p.1 ∉ S.map (·.1) := fun z => by
      rw [List.map_append, List.nodup_append] at nd
      exact nd.2.2 _ z _ (List.mem_cons_self ..) rfl
    have e : S ++ p :: T = (S ++ [p]) ++ T := by rw [List.append_assoc]; rfl
    rw [tk_put (lookup_notin h1), e]
    exact merge_tk T (S ++ [p]) (by rw [← e]; exact nd)
theorem tk_keys (T : List (Str × V)) : (tk T).map (·.1) = (T.map (·.1)).map Sum.inr := by
  unfold tk
  rw [List.map_map, List.map_map]; rfl
theorem tk_vals (T : List (Str × V)) : (tk T).map (·.2) = T.map (·.2) := by
  unfold tk
  rw [List.map_map]; rfl
theorem tk_len (T : List (Str × V)) : (tk T).length = T.length := List.length_map ..
/-- a table of what R says -/
def Tab {β : Type} (R : β → V → Prop) (fs : List (Str × β)) (T : List (Str × V)) : Prop := Paired (fun p q => p.1 = q.1 ∧ R p.2 q.2) fs T
section
variable {β : Type} {R S : β → V → Prop} {fs : List (Str × β)} {T : List (Str × V)}
theorem Tab.names : ∀ {fs : List (Str × β)} {T : List (Str × V)}, Tab R fs T → T.map (·.1) = fs.map (·.1)
  | _, _, .nil => rfl
  | _, _, .cons h t => by rw [List.map_cons, List.map_cons, h.1, Tab.names t]
theorem Tab.imp (h : ∀ b v, R b v → S b v) : ∀ {fs : List (Str × β)} {T : List (Str × V)}, Tab R fs T → Tab S fs T
  | _, _, .nil => .nil
  | _, _, .cons r t => .cons ⟨r.1, h _ _ r.2⟩ (Tab.imp h t)
theorem Tab.snoc (h : Tab R fs T) {n : Str} {b : β} {v : V} (r : R b v) : Tab R (fs ++ [(n, b)]) (T ++ [(n, v)]) := Paired.snoc h ⟨rfl, r⟩
theorem Tab.look (n : Str) : ∀ {fs : List (Str × β)} {T : List (Str × V)}, Tab R fs T → (fs.lookup n = none ∧ T.lookup n = none) ∨ ∃ b v, fs.lookup n = some b ∧ T.lookup n = some v ∧ R b v
  | _, _, .nil => .inl ⟨rfl, rfl⟩
  | _, _, .cons (a := p) (b := q) r t => by
    rw [List.lookup_cons, List.lookup_cons, ← r.1]
    by_cases e : n = p.1
    · rw [show (n == p.1) = true by rw [e]; exact beq_self_eq_true _]
      exact .inr ⟨_, _, rfl, rfl, r.2⟩
    · rw [show (n == p.1) = false from beq_eq_false_iff_ne.mpr e]
      exact Tab.look n t
end
theorem paired_get {α β : Type} {F : α → β → Prop} : ∀ {l₁ : List α} {l₂ : List β} {i : Nat} {y : β}, Paired F l₁ l₂ → l₂[i]? = some y → ∃ x, l₁[i]? = some x ∧ F x y
  | _, _, _, _, .nil, e => by simp at e
  | _, _, 0, _, .cons r _, e => by simp at e; subst e; exact ⟨_, rfl, r⟩
  | _, _, i + 1, y, .cons _ t, e => by
    obtain ⟨x, h1, h2⟩ := paired_get (i := i) (y := y) t (by simpa using e)
    exact ⟨x, by simpa using h1, h2⟩
theorem paired_imp {α β : Type} {F G : α → β → Prop} (h : ∀ a b, F a b → G a b) : ∀ {l₁ : List α} {l₂ : List β}, Paired F l₁ l₂ → Paired G l₁ l₂
  | _, _, .nil => .nil
  | _, _, .cons r t => .cons (h _ _ r) (paired_imp h t)
/-- normal forms of the bounds of all parameters -/
def Norms (bs : List (Str × Bd)) (ps : List (Str × Bool)) (fs : List (Str × Bd)) : Prop := Paired (fun p f => f.1 = p.1 ∧ f.2.isW = p.2 ∧ NormB p.2 (bs.lookup p.1) f.2) ps fs
theorem Norms.uniq {bs : List (Str × Bd)} : ∀ {ps : List (Str × Bool)} {fs gs : List (Str × Bd)}, Norms bs ps fs → Norms bs ps gs → fs = gs
  | _, _, _, .nil, .nil => rfl
  | _, _, _, .cons (b := f) h t, .cons (b := g) h2 t2 => by
    rw [Norms.uniq t t2]
    have e : f = g := Prod.ext (h.1.trans h2.1.symm) (h.2.2.uniq h2.2.2)
    rw [e]
theorem Norms.names {bs : List (Str × Bd)} : ∀ {ps : List (Str × Bool)} {fs : List (Str × Bd)}, Norms bs ps fs → fs.map (fun f => (f.1, f.2.isW)) = ps
  | _, _, .nil => rfl
  | _, _, .cons (a := p) h t => by
    rw [List.map_cons, Norms.names t, h.1, h.2.1]
/-! Drawn words and bounds. -/
open PySem PySem.Spec PyProof.Rows L2
abbrev s_l_words : Stmt := top 37
theorem sc_l_words : FnScope ["_law_box_here", "_law_many", "_law_words_here"] ["_law_box_here", "_law_many"] (defScope s_l_words) := ⟨rfl, rfl, rfl, by decide +kernel, rfl, by decide +kernel, by decide +kernel⟩
abbrev s_l_bound : Stmt := top 38
theorem sc_l_bound : FnScope ["_law_box_here", "_law_sort", "_law_ends", "_law_words_here", "_law_k"] ["_law_box_here", "_law_sort"] (defScope s_l_bound) := ⟨rfl, rfl, rfl, by decide +kernel, rfl, by decide +kernel, by decide +kernel⟩
abbrev s_l_bounds : Stmt := top 39
theorem sc_l_bounds : FnScope ["_law_box_here", "_law_params", "_law_found", "_law_name", "_law_sort"] ["_law_box_here", "_law_params"] (defScope s_l_bounds) := ⟨rfl, rfl, rfl, by decide +kernel, rfl, by decide +kernel, by decide +kernel⟩
structure Txt3 (K : PySem.W.Frag) (mg : Str → Option Value) : Prop extends Txt2 K mg where
  d_l_words : HasDef K mg "_law_words" s_l_words [] []
  d_l_bound : HasDef K mg "_law_bound" s_l_bound [] []
  d_l_bounds : HasDef K mg "_law_bounds" s_l_bounds [] []
theorem cut_map {α : Type} (f : α → V) (ns : List α) (lo hi : Option Int) : ∃ ms : List α, cutV (ns.map f) lo hi = ms.map f ∧ ms.length ≤ ns.length ∧ ms.Sublist ns := by
  refine ⟨_, by unfold cutV; rw [← List.map_drop, ← List.map_take], ?_, ?_⟩
  · rw [List.length_take, List.length_drop]
    omega
  · exact (List.take_sublist _ _).trans (List.drop_sublist _ _)
theorem perm_map' {α β : Type} {f : α → β} {ys l : List β} (p : ys.Perm l) : ∀ ns : List α, l = ns.map f → ∃ ms : List α, ys = ms.map f ∧ ms.Perm ns := by
  induction p with
  | nil =>
    intro ns e
    cases ns with
    | nil => exact ⟨[], rfl, .nil⟩
    | cons n ns => cases e
  | cons x _ ih =>
    intro ns e
    cases ns with
    | nil => cases e
    | cons n ns =>
      rw [List.map_cons] at e
      obtain ⟨ms, e2, q⟩ := ih ns (List.cons.inj e).2
      exact ⟨n :: ms, by rw [List.map_cons, e2, (List.cons.inj e).1], .cons n q⟩
  | swap x y l =>
    intro ns e
    cases ns with
    | nil => cases e
    | cons n ns =>
      cases ns with
      | nil => rw [List.map_cons] at e; have := (List.cons.inj e).2; cases this
      | cons m ns =>
        rw [List.map_cons, List.map_cons] at e
        have e1 := (List.cons.inj e).1
        have e2 := List.cons.inj (List.cons.inj e).2
        exact ⟨m :: n :: ns, by rw [List.map_cons, List.map_cons, e1, e2.1, e2.2], .swap n m ns⟩
  | trans _ _ ih1 ih2 =>
    intro ns e
    obtain ⟨ms, e2, q⟩ := ih2 ns e
    obtain ⟨ms2, e3, q2⟩ := ih1 ms e2
    exact ⟨ms2, e3, q2.trans q⟩
theorem perm_map {α β : Type} {f : α → β} {ns : List α} {ys : List β} (p : ys.Perm (ns.map f)) : ∃ ms : List α, ys = ms.map f ∧ ms.Perm ns := perm_map' p ns rfl
def W8 : List Str := ["a", "b", "c", "d", "red", "aa", "e", "ab"]
theorem w8_nm : ∀ x ∈ W8, isNm x = true := by decide +kernel
section
variable {P : Program} {w : World} {K : PySem.W.Frag} {mg : Str → Option Value} {base : Heap}
theorem BoxAt.keep {H H' : Hp} {b g : Addr} (h : BoxAt H b g) (k : Kp0 H H') : BoxAt H' b g := by
  obtain ⟨⟨n, s, t, h1⟩, gs, h2⟩ := h
  exact ⟨⟨n, s, t, k.at0 h1⟩, gs, k.at0 h2⟩
theorem BoxAt.off {H : Hp} {b g a : Addr} (h : BoxAt H b g) (e : H a = none) : ¬ Bm b g a := fun z => by
  obtain ⟨⟨n, s, t, h1⟩, gs, h2⟩ := h
  rcases z with z | z
  · rw [z, h1] at e; cases e
  · rw [z, h2] at e; cases e
theorem Keep.atB {H H' : Hp} {b g a : Addr} {o : HO} (k : Keep (Bm b g) H H') (h : H a = some o) (n : ¬ Bm b g a) : H' a = some o := k a o h n
theorem BoxAt.free {H H1 : Hp} {b g r : Addr} (h : BoxAt H1 b g) (k : Keep (Bm b g) H H1) (e : H1 r = none) : H r = none := Keep.free k e (h.off e)
/-- words -/
def spWords : Sp := fun vs H Q _ => ∃ (b g : Addr) (m : Int), vs = [.ref b, .int m] ∧ BoxAt H b g ∧
  ∀ (p : Addr) (ws : List Str) (H' : Hp), (∀ x ∈ ws, isNm x = true) → ws.length < 16 → BoxAt H' b g → H p = none → H' p = some (.lst (ws.map V.str)) → Keep (Bm b g) H H' → Q (.ref p) H'
theorem Txt3.c_l_words (T : Txt3 K mg) : C8.Cal P w K mg base 3 "_law_words" spWords [] := by
  refine cal_of T.d_l_words sc_l_words (fun _ _ _ _ _ _ us hl => match us, hl with | [_, _], _ => rfl) (fun vs H Q E h => ?_) (fun f cdv A outer s H vs Q E hr h => ?_)
  · obtain ⟨b, g, m, rfl, _⟩ := h
    rfl
  obtain ⟨b, g, m, rfl, hB, k⟩ := h
  refine ⟨_, (pss_cons (ps_set (i := 2) sc_l_words.nd rfl (by first | exact .inl rfl | exact .inr rfl) (pe_slice sl_list (C8.pe_c T.c_l_mixed hr (by decide) (by rfl) (pa_cons (pv 0) (pa_cons (pe_lst (pa_cons pe_str (pa_cons pe_str (pa_cons pe_str (pa_cons pe_str (pa_cons pe_str (pa_cons pe_str (pa_cons pe_str (pa_cons pe_str pa_nil))))))))) pa_nil))) po_none (po_some (pv 1))))
      (pss_one (ps_ret (pe_ifExp (PW.pt (pw_and (pt_cmpR op_lt (pe_callB call_len (by rfl) T.f_len (by decide +kernel) (pa_cons (pv 2) pa_nil)) pe_int (nomark _)) (pw_and1 (pt_cmpR op_eq (C8.pe_c T.c_l_take hr (by decide) (by rfl) (pa_cons (pv 0) (pa_cons pe_int pa_nil))) pe_int (nomark _))))) (pe_op op_cat (pv 2) (pe_slice sl_list (pv 2) po_none (po_some pe_int))) (pv 2))))), ?_⟩
  refine ⟨_, rfl, (by rw [sizeLine_eq]; show 8 ≤ _; decide), fun L nL => ?_⟩
  have k1 : Kp0 H (upd H L (.lst (W8.map V.str))) := Keep.refl.new nL
  refine ⟨b, g, L, W8.map V.str, rfl, hB.keep k1, .of upd_same, (by show 8 < 1000; decide), fun p ys H1 pm hB1 np hp kk => ?_⟩
  obtain ⟨ms, rfl, pm2⟩ := perm_map pm
  have nm : ∀ x ∈ ms, isNm x = true := fun x hx => w8_nm x (pm2.mem_iff.mp hx)
  have lm : ms.length = 8 := pm2.length_eq
  have kH : Keep (Bm b g) H H1 := k1.weak0.trans kk
  obtain ⟨us, eu, lu, su⟩ := cut_map V.str ms none (some m)
  have np0 : H p = none := k1.free0 np
  refine ⟨_, rfl, m, rfl, p, _, rfl, .of hp, fun r nr => ?_⟩
  rw [eu]
  have nr0 : H r = none := hB1.free kH nr
  have k2 : Kp0 H1 (upd H1 r (.lst (us.map V.str))) := Keep.refl.new nr
  have nu : ∀ x ∈ us, isNm x = true := fun x hx => nm x (su.subset hx)
  have kH2 : Keep (Bm b g) H (upd H1 r (.lst (us.map V.str))) := kH.trans k2.weak0
  refine ⟨_, rfl, _, _, rfl, .inl ⟨_, .of upd_same, rfl⟩, _, _, rfl, rfl, _, rfl, ite2 (fun e0 => ?_) (fun e0 => ?_)⟩
  · rw [List.length_map] at e0
    refine ⟨_, rfl, b, g, 3, rfl, hB1.keep k2, ⟨by decide, by decide⟩, fun i H2 h0 h1 hB2 k3 => ?_⟩
    have hr2 : H2 r = some (.lst (us.map V.str)) := k3.atB upd_same ((hB.off nr0))
    have kH3 := kH2.trans k3
    refine ⟨rfl, _, rfl, ite2 (fun e1 => ?_) (fun e1 => ?_)⟩
    · refine ⟨_, rfl, _, rfl, _, rfl, r, _, rfl, .of hr2, fun t nt => ?_⟩
      obtain ⟨us2, eu2, lu2, su2⟩ := cut_map V.str us none (some 1)
      rw [eu2]
      have nt0 : H t = none := hB2.free kH3 nt
      have hrt : upd H2 t (.lst (us2.map V.str)) r = some (.lst (us.map V.str)) := by rw [upd_ne (ne_of_none hr2 nt)]; exact hr2
      refine ⟨r, t, _, _, rfl, rfl, hrt, upd_same, by rw [List.length_map, List.length_map, sizeLine_eq]; omega, fun z nz => ?_⟩
      have k4 : Kp0 H2 (upd H2 t (.lst (us2.map V.str))) := Keep.refl.new nt
      have k5 : Kp0 H2 _ := k4.new (o := .lst (us.map V.str ++ us2.map V.str)) nz
      refine k z (us ++ us2) _ (fun x hx => ?_) (by rw [List.length_append]; have := of_decide_eq_true e0; omega) (hB2.keep k5) (hB2.free kH3 (k4.free0 nz)) (by rw [upd_same, List.map_append]) (kH3.trans k5.weak0)
      rcases List.mem_append.mp hx with h | h
      · exact nu x h
      · exact nu x (su2.subset h)
    · exact ⟨_, rfl, k r us H2 nu (by omega) hB2 nr0 hr2 kH3⟩
  · exact ⟨_, rfl, k r us _ nu (by omega) (hB1.keep k2) nr0 upd_same kH2⟩
/-- a bound that was drawn: its words stand in what is new -/
def BdNew (H0 H : Hp) (v : V) : Bd → Prop
  | .num lo hi => ∃ t, v = .ref t ∧ H t = some (.tup [oI lo, oI hi])
  | .wrd ws ins => ∃ t q, v = .ref t ∧ H t = some (.tup [.ref q, .bl ins]) ∧ (H q = some (.lst (ws.map V.str)) ∨ H q = some (.tup (ws.map V.str))) ∧ ws.length < 16 ∧ (∀ x ∈ ws, isNm x = true) ∧ H0 q = none
theorem BdNew.at_ {H0 H : Hp} {v : V} {n : Bd} (h : BdNew H0 H v n) : BdAt H v n := by
  cases n with
  | num lo hi => exact h
  | wrd ws ins =>
    obtain ⟨t, q, e, h1, h2, h3, h4, _⟩ := h
    exact ⟨t, q, e, h1, h2, h3, h4⟩
/-- an end of a bound is small -/
def smE (o : Option Int) : Prop := ∀ i, o = some i → -900000 ≤ i ∧ i ≤ 900000
def SmB : Bd → Prop
  | .num lo hi => smE lo ∧ smE hi
  | .wrd _ _ => True
def ends : List (Option Int) := [none, none, none, some 900000, some (-900000), some (-4), some (-3), some (-2), some (-1), some 0, some 1, some 2, some 3, some 4]
theorem ends_sm : ∀ o ∈ ends, smE o := by
  intro o ho i e
  subst e
  have h : ∀ o ∈ ends, (match o with | none => true | some i => decide (-900000 ≤ i) && decide (i ≤ 900000)) = true := by decide +kernel
  have := h _ ho
  simpa using this
def spBound : Sp := fun vs H Q _ => ∃ (b g : Addr) (w : Bool), vs = [.ref b, .str (srt w)] ∧ BoxAt H b g ∧
  ∀ (v : V) (d : Bd) (H' : Hp), d.isW = w → SmB d → BdNew H H' v d → BoxAt H' b g → Keep (Bm b g) H H' → Q v H'
theorem Txt3.c_l_bound (T : Txt3 K mg) : C8.Cal P w K mg base 4 "_law_bound" spBound [] := by
  refine cal_of T.d_l_bound sc_l_bound (fun _ _ _ _ _ _ us hl => match us, hl with | [_, _], _ => rfl) (fun vs H Q E h => ?_) (fun f cdv A outer s H vs Q E hr h => ?_)
  · obtain ⟨b, g, m, rfl, _⟩ := h
    rfl
  obtain ⟨b, g, w, rfl, hB, k⟩ := h
  refine ⟨_, (pss_cons (ps_if (pt_cmpR op_eq (pv 1) pe_str (nomark _)) (pss_cons (ps_set (i := 2) sc_l_bound.nd rfl (by first | exact .inl rfl | exact .inr rfl) (pe_op op_cat (pe_lst (pa_cons pe_non (pa_cons pe_non (pa_cons pe_non (pa_cons pe_int (pa_cons (pe_op op_sub pe_int pe_int) pa_nil)))))) (pe_lc (own := [("_law_k", 4)]) rfl sc_l_bound.nd (pi_range1 (by rfl) (T.f_range) (pa_cons pe_int pa_nil)) (blkOk_by (own := [("_law_k", 4)]) (N := ["_law_box_here", "_law_sort", "_law_ends", "_law_words_here", "_law_k"]) (sc := defScope s_l_bound) (by decide +kernel)) (fun _ _ _ _ _ => (pg_name (i := 4) sc_l_bound.nd rfl (by first | exact .inl rfl | exact .inr rfl))) (fun _ _ _ _ _ => pts_nil) (fun _ _ _ _ _ => (pe_op op_sub (pv 4) pe_int)))))
        (pss_one (ps_ret (pe_tup (pa_cons (C8.pe_c T.c_l_pick hr (by decide) (by rfl) (pa_cons (pv 0) (pa_cons (pv 2) pa_nil))) (pa_cons (C8.pe_c T.c_l_pick hr (by decide) (by rfl) (pa_cons (pv 0) (pa_cons (pv 2) pa_nil))) pa_nil)))))) pss_nil)
      (pss_cons (ps_set (i := 3) sc_l_bound.nd rfl (by first | exact .inl rfl | exact .inr rfl) (C8.pe_c T.c_l_words hr (by decide) (by rfl) (pa_cons (pv 0) (pa_cons (C8.pe_c T.c_l_take hr (by decide) (by rfl) (pa_cons (pv 0) (pa_cons pe_int pa_nil))) pa_nil))))
      (pss_one (ps_ret (pe_tup (pa_cons (pe_ix ix_list (pe_lst (pa_cons (pv 3) (pa_cons (pe_callTy call_tuple_of (by rfl) T.f_tuple (by decide +kernel) (pa_cons (pv 3) pa_nil)) pa_nil))) (C8.pe_c T.c_l_take hr (by decide) (by rfl) (pa_cons (pv 0) (pa_cons pe_int pa_nil))) (fun _ _ => rfl)) (pa_cons (pe_cmpR op_eq (C8.pe_c T.c_l_take hr (by decide) (by rfl) (pa_cons (pv 0) (pa_cons pe_int pa_nil))) pe_int (nomark _)) pa_nil))))))), ?_⟩
  cases w with
  | false =>
    refine ⟨_, rfl, rfl, _, rfl, ite2 (fun _ => ?_) (fun z => absurd srtF_num z)⟩
    refine ⟨_, _, rfl, rfl, (by rw [sizeLine_eq]; show 5 ≤ _; decide), fun L nL => ?_⟩
    have k1 : Kp0 H (upd H L (.lst [.non, .non, .non, .int 900000, .int (0 - 900000)])) := Keep.refl.new nL
    refine ⟨_, rfl, by decide, by decide, fun D nD => ?_⟩
    have k2 := k1.new (o := .lst []) nD
    refine lc_range (lo := 0) (n := 9) (fun i H' => H' D = some (.lst ((List.range i).map fun j : Nat => V.int (0 + (j : Int) - 4))) ∧ Kp0 (upd H L (.lst [.non, .non, .non, .int 900000, .int (0 - 900000)])) H') ⟨upd_same, Keep.refl.new nD⟩ ?_ ?_
    · rintro i H1 hi ⟨hD, hk⟩
      refine ⟨rfl, _, rfl, _, _, rfl, rfl, _, hD, small1000 (by rw [List.length_map, List.length_range]; omega), ?_, hk.own nD⟩
      rw [upd_same, List.range_succ, List.map_append]; rfl
    · rintro H1 ⟨hD, hk⟩
      have hL : H1 L = some (.lst [.non, .non, .non, .int 900000, .int (0 - 900000)]) := hk.at0 upd_same
      refine ⟨L, D, _, _, rfl, rfl, hL, hD, by rw [sizeLine_eq]; decide, fun r nr => ?_⟩
      rw [show [V.non, .non, .non, .int 900000, .int (0 - 900000)] ++ (List.range 9).map (fun j : Nat => V.int (0 + (j : Int) - 4)) = ends.map oI from by decide +kernel]
      have k3 : Kp0 H (upd H1 r (.lst (ends.map oI))) := (k1.trans hk).new nr
      have nr0 : H r = none := (k1.trans hk).free0 nr
      have hpick : ∀ (i : Nat) (x : V), (ends.map oI)[i]? = some x → ∃ o, x = oI o ∧ smE o := fun i x hx => by
        obtain ⟨o, ho, rfl⟩ := List.mem_map.mp (List.mem_of_getElem? hx)
        exact ⟨o, rfl, ends_sm o ho⟩
      refine ⟨_, rfl, _, rfl, b, g, r, _, rfl, hB.keep k3, .of upd_same, ⟨by decide, by decide⟩, hB.off nr0, fun i x H2 hx hB2 kk => ?_⟩
      obtain ⟨lo, rfl, slo⟩ := hpick i x hx
      have hr2 : H2 r = some (.lst (ends.map oI)) := kk.atB upd_same (hB.off nr0)
      refine ⟨_, rfl, _, rfl, b, g, r, _, rfl, hB2, .of hr2, ⟨by decide, by decide⟩, hB.off nr0, fun i x H3 hx hB3 kk3 => ?_⟩
      obtain ⟨hi, rfl, shi⟩ := hpick i x hx
      refine ⟨by rw [sizeLine_eq]; show 2 ≤ _; decide, fun t nt => ?_⟩
      have k4 : Kp0 H3 (upd H3 t (.tup [oI lo, oI hi])) := Keep.refl.new nt
      exact k _ (.num lo hi) _ rfl ⟨slo, shi⟩ ⟨t, rfl, upd_same⟩ (hB3.keep k4) (((k3.weak0.trans kk).trans kk3).trans k4.weak0)
  | true =>
    refine ⟨_, rfl, rfl, _, rfl, ite2 (fun z => absurd z srtT_num) (fun _ => ?_)⟩
    refine ⟨_, rfl, _, rfl, b, g, 7, rfl, hB, ⟨by decide, by decide⟩, fun m H1 _ _ hB1 k1 => ?_⟩
    refine ⟨b, g, m, rfl, hB1, fun p ws H2 hnm hlen hB2 np hp k2 => ?_⟩
    have kH := k1.trans k2
    have np0 : H p = none := hB1.free k1 np
    refine ⟨_, rfl, _, rfl, p, _, rfl, .inl ⟨.of hp, fun t nt => ?_⟩⟩
    have nt0 : H t = none := hB2.free kH nt
    have k3 : Kp0 H2 (upd H2 t (.tup (ws.map V.str))) := Keep.refl.new nt
    refine ⟨by rw [sizeLine_eq]; show 2 ≤ _; decide, fun L nL => ?_⟩
    have k4 := k3.new (o := .lst [.ref p, .ref t]) nL
    have nL0 : H L = none := hB2.free kH (k3.free0 nL)
    refine ⟨_, rfl, b, g, 2, rfl, hB2.keep k4, ⟨by decide, by decide⟩, fun i H3 h0 h1 hB3 k5 => ?_⟩
    have hL3 : H3 L = some (.lst [.ref p, .ref t]) := k5.atB upd_same (hB.off nL0)
    have hp3 : H3 p = some (.lst (ws.map V.str)) := k5.atB (k4.at0 hp) (hB.off np0)
    have ht3 : H3 t = some (.tup (ws.map V.str)) := k5.atB (by rw [upd_ne (fun z => by rw [← z, upd_same] at nL; cases nL), upd_same]) (hB.off nt0)
    have kH3 := (kH.trans k4.weak0).trans k5
    have hq : ∃ q, atI [V.ref p, .ref t] i = some (.ref q) ∧ H q = none ∧ (H3 q = some (.lst (ws.map V.str)) ∨ H3 q = some (.tup (ws.map V.str))) := by
      have hi : i = 0 ∨ i = 1 := by omega
      rcases hi with rfl | rfl
      · exact ⟨p, rfl, np0, .inl hp3⟩
      · exact ⟨t, rfl, nt0, .inr ht3⟩
    obtain ⟨q, hq1, hq2, hq3⟩ := hq
    refine ⟨L, _, i, .ref q, rfl, rfl, .of hL3, hq1, ?_⟩
    refine ⟨_, rfl, b, g, 2, rfl, hB3, ⟨by decide, by decide⟩, fun j H4 _ _ hB4 k6 => ?_⟩
    refine ⟨rfl, by rw [sizeLine_eq]; show 2 ≤ _; decide, fun u nu => ?_⟩
    have k7 : Kp0 H4 _ := Keep.refl.new (o := .tup [.ref q, .bl (decide (V.int j = V.int 0))]) nu
    refine k _ (.wrd ws (decide (V.int j = V.int 0))) _ rfl trivial ⟨u, q, rfl, upd_same, ?_, hlen, hnm, hq2⟩ (hB4.keep k7) ((kH3.trans k6).trans k7.weak0)
    exact hq3.imp (fun z => k7.at0 (k6.atB z (hB.off hq2))) (fun z => k7.at0 (k6.atB z (hB.off hq2)))
theorem BdNew.weak {H0 H1 H : Hp} {v : V} {d : Bd} (h : BdNew H1 H v d) (f : ∀ q, H1 q = none → H0 q = none) : BdNew H0 H v d := by
  cases d with
  | num lo hi => exact h
  | wrd ws ins =>
    obtain ⟨t, q, e, h1, h2, h3, h4, h5⟩ := h
    exact ⟨t, q, e, h1, h2, h3, h4, f q h5⟩
theorem BdNew.keep {H0 H H' : Hp} {v : V} {d : Bd} {M : Addr → Prop} (h : BdNew H0 H v d) (k : Keep M H H') (ht : ∀ a xs, H a = some (.tup xs) → ¬ M a) (hq : ∀ a xs, H0 a = none → (H a = some (.lst xs) ∨ H a = some (.tup xs)) → ¬ M a) : BdNew H0 H' v d := by
  cases d with
  | num lo hi =>
    obtain ⟨t, e, h1⟩ := h
    exact ⟨t, e, k _ _ h1 (ht _ _ h1)⟩
  | wrd ws ins =>
    obtain ⟨t, q, e, h1, h2, h3, h4, h5⟩ := h
    exact ⟨t, q, e, k _ _ h1 (ht _ _ h1), h2.imp (fun z => k _ _ z (hq _ _ h5 h2)) (fun z => k _ _ z (hq _ _ h5 h2)), h3, h4, h5⟩
theorem BoxAt.offT {H : Hp} {b g a : Addr} {xs : List V} (h : BoxAt H b g) (e : H a = some (.tup xs)) : ¬ Bm b g a := fun z => by
  obtain ⟨⟨n, s, t, h1⟩, gs, h2⟩ := h
  rcases z with z | z
  · rw [z, h1] at e; cases e
  · rw [z, h2] at e; cases e
/-- a parameter: a pair -/
def PairAt (K : PySem.W.Frag) (H : Hp) (x : V) (p : Str × Bool) : Prop := ∃ t, x = .ref t ∧ SqT K H t [.str p.1, .str (srt p.2)]
theorem SqT.keep {K : PySem.W.Frag} {H H' : Hp} {a : Addr} {xs : List V} {M : Addr → Prop} (h : SqT K H a xs) (k : Keep M H H') (n : ∀ a o, H a = some o → M a → ∃ y z, H a = some y ∧ z = y ∧ (∀ xs, y ≠ .tup xs) ∧ ∀ o xs, y ≠ .frz o (.tup xs)) : SqT K H' a xs := by
  rcases h with (h | ⟨o, h⟩) | h
  · exact .inl (.inl (k _ _ h fun m => by
      obtain ⟨y, z, e, _, f, _⟩ := n _ _ h m
      rw [h] at e
      exact f xs (Option.some.inj e).symm))
  · exact .inl (.inr ⟨o, k _ _ h fun m => by
      obtain ⟨y, z, e, _, _, f⟩ := n _ _ h m
      rw [h] at e
      exact f _ xs (Option.some.inj e).symm⟩)
  · exact .inr h
theorem SqT.keepB {K : PySem.W.Frag} {H H' : Hp} {a b g : Addr} {xs : List V} (h : SqT K H a xs) (hB : BoxAt H b g) (k : Keep (Bm b g) H H') : SqT K H' a xs := by
  obtain ⟨⟨n, s, t, h1⟩, gs, h2⟩ := hB
  refine SqT.keep h k fun c o e m => ?_
  rcases m with rfl | rfl
  · exact ⟨_, _, h1, rfl, (fun _ z => by cases z), fun _ _ z => by cases z⟩
  · exact ⟨_, _, h2, rfl, (fun _ z => by cases z), fun _ _ z => by cases z⟩
theorem PairAt.keepB {K : PySem.W.Frag} {H H' : Hp} {b g : Addr} {x : V} {p : Str × Bool} (h : PairAt K H x p) (hB : BoxAt H b g) (k : Keep (Bm b g) H H') : PairAt K H' x p := by
  obtain ⟨t, e, h⟩ := h
  exact ⟨t, e, SqT.keepB h hB k⟩
theorem PairAt.keep {K : PySem.W.Frag} {H H' : Hp} {x : V} {p : Str × Bool} (h : PairAt K H x p) (k : Kp0 H H') : PairAt K H' x p := by
  obtain ⟨t, e, h⟩ := h
  exact ⟨t, e, k.sqt0 h⟩
/-- the list of the parameters -/
def PsAt (K : PySem.W.Frag) (H : Hp) (a : Addr) (ps : List (Str × Bool)) : Prop := ∃ xs, SqL K H a xs ∧ Paired (fun p x => PairAt K H x p) ps xs
def spBounds (K : PySem.W.Frag) : Sp := fun vs H Q _ => ∃ (b g a : Addr) (ps : List (Str × Bool)), vs = [.ref b, .ref a] ∧ BoxAt H b g ∧ PsAt K H a ps ∧ ¬ Bm b g a ∧ (ps.map (·.1)).Nodup ∧ ps.length < 64 ∧
  ∀ (D : Addr) (bs : List (Str × Bd)) (T : List (Str × V)) (H' : Hp), H D = none → H' D = some (.dK (tk T)) → Tab (fun d v => BdNew H H' v d) bs T → (bs.map (·.1)).Sublist (ps.map (·.1)) → (∀ q ∈ bs, (q.1, q.2.isW) ∈ ps ∧ SmB q.2) → BoxAt H' b g → Keep (Bm b g) H H' → Q (.ref D) H'
theorem Txt3.c_l_bounds (T : Txt3 K mg) : C8.Cal P w K mg base 5 "_law_bounds" (spBounds K) [] := by
  refine cal_of T.d_l_bounds sc_l_bounds (fun _ _ _ _ _ _ us hl => match us, hl with | [_, _], _ => rfl) (fun vs H Q E h => ?_) (fun f cdv A outer s H vs Q E hr h => ?_)
  · obtain ⟨b, g, a, ps, rfl, _⟩ := h
    rfl
  obtain ⟨b, g, a, ps, rfl, hB, ⟨xs, hA, hP⟩, hna, nd, hlen, k⟩ := h
  have hu := hu_of hr
  refine ⟨_, (pss_cons (ps_set (i := 2) sc_l_bounds.nd rfl (by first | exact .inl rfl | exact .inr rfl) pe_dnewK)
      (pss_cons (ps_for PassesOwn.never rfl (pi_list (pv 1)) (pg_tup rfl (pgs_cons (pg_name (i := 3) sc_l_bounds.nd rfl (by first | exact .inl rfl | exact .inr rfl)) (pgs_cons (pg_name (i := 4) sc_l_bounds.nd rfl (by first | exact .inl rfl | exact .inr rfl)) pgs_nil))) (pss_one (ps_if (pt_cmpR op_gt (C8.pe_c T.c_l_take hr (by decide) (by rfl) (pa_cons (pv 0) (pa_cons pe_int pa_nil))) pe_int (nomark _)) (pss_one (ps_dput hu (pv 2) (pv 3) (C8.pe_c T.c_l_bound hr (by decide) (by rfl) (pa_cons (pv 0) (pa_cons (pv 4) pa_nil))) rfl)) pss_nil)))
      (pss_one (ps_ret (pv 2))))), ?_⟩
  intro D nD
  have k0 : Kp0 H (upd H D (.dK [])) := Keep.refl.new nD
  refine ⟨_, rfl, a, rfl, ⟨_, k0.sql0 hA⟩, ?_⟩
  have hxl : xs.length = ps.length := (Paired.length hP).symm
  refine for_list (xs := xs) (fun i σ H' => ∃ (bs : List (Str × Bd)) (T : List (Str × V)) (y z : Option V), σ = [some (.ref b), some (.ref a), some (.ref D), y, z] ∧ H' D = some (.dK (tk T)) ∧ Tab (fun d v => BdNew H H' v d) bs T ∧ (bs.map (·.1)).Sublist ((ps.take i).map (·.1)) ∧ (∀ q ∈ bs, (q.1, q.2.isW) ∈ ps ∧ SmB q.2) ∧ BoxAt H' b g ∧ Keep (Bm b g) H H') ?_ ?_ ?_ ?_
  · exact ⟨[], [], none, none, rfl, upd_same, .nil, List.nil_sublist _, (fun q h => by cases h), hB.keep k0, k0.weak0⟩
  · rintro i σ H' _ ⟨bs, T, y, z, _, _, _, _, _, hB', hk⟩
    exact hk.sql hA hna
  · rintro i x σ H1 hx ⟨bs, T, y, z, rfl, hD, hT, hs, hm, hB1, hk⟩
    obtain ⟨p, hp, t, rfl, ht⟩ := paired_get hP hx
    have ht1 := SqT.keepB ht hB hk
    refine ⟨t, _, rfl, ht1, rfl, _, _, rfl, _, _, rfl, rfl, ?_⟩
    have hD0 : ¬ Bm b g D := hB.off nD
    have htk : ps.take (i + 1) = ps.take i ++ [p] := by rw [List.take_add_one, hp]; rfl
    refine ⟨_, rfl, b, g, 4, rfl, hB1, ⟨by decide, by decide⟩, fun j H2 _ _ hB2 k2 => ⟨_, _, rfl, rfl, _, rfl, ite2 (fun e => ?_) (fun e => ?_)⟩⟩
    · refine ⟨_, rfl, _, rfl, b, g, p.2, rfl, hB2, fun v d H3 hw hsm hn hB3 k3 => ?_⟩
      have k13 := k2.trans k3
      have hD3 : H3 D = some (.dK (tk T)) := k13.atB hD hD0
      have hnl : p.1 ∉ bs.map (·.1) := fun hh => by
        have h2 := hs.subset hh
        have nd2 : ((ps.take (i + 1)).map (·.1)).Nodup := nd.sublist ((List.take_sublist _ _).map _)
        rw [htk, List.map_append, List.nodup_append] at nd2
        exact nd2.2.2 _ h2 _ (List.mem_singleton.mpr rfl) rfl
      have hTl : T.lookup p.1 = none := lookup_notin (by rw [hT.names]; exact hnl)
      have hTlen : T.length < 64 := by
        have h1 : T.length = bs.length := (Paired.length hT).symm
        have h2 := hs.length_le
        rw [List.length_map, List.length_map, List.length_take] at h2
        omega
      refine ⟨_, rfl, _, rfl, D, _, rfl, .k (k := Sum.inr p.1) hD3 (by rw [tk_len, sizeLine_eq]; omega), bs ++ [(p.1, d)], T ++ [(p.1, v)], _, _, rfl, ?_, ?_, ?_, ?_, ?_, ?_⟩
      · rw [upd_same, tk_put hTl]
      · refine Tab.snoc (Tab.imp (fun d v hh => ?_) hT) ?_
        · refine BdNew.keep (M := fun c => Bm b g c ∨ c = D) hh ((k13.weak fun c z => .inl z).mut (.inr rfl)) (fun c ys hc z => ?_) (fun c ys hc hc2 z => ?_)
          · rcases z with z | z
            · exact hB1.offT hc z
            · rw [z, hD] at hc; cases hc
          · rcases z with z | z
            · exact hB.off hc z
            · rw [z, hD] at hc2
              rcases hc2 with h | h <;> cases h
        · refine BdNew.weak (BdNew.keep (M := fun c => c = D) hn (Keep.refl.mut rfl) (fun c ys hc z => ?_) (fun c ys hc hc2 z => ?_)) fun q hq => hB2.free (hk.trans k2) hq
          · rw [z, hD3] at hc; cases hc
          · rw [z, hD3] at hc2
            rcases hc2 with h | h <;> cases h
      · rw [htk, List.map_append, List.map_append]
        exact List.Sublist.append hs (List.Sublist.refl _)
      · intro q hq
        rcases List.mem_append.mp hq with z | z
        · exact hm q z
        · rw [List.mem_singleton.mp z]
          refine ⟨?_, hsm⟩
          show (p.1, d.isW) ∈ ps
          rw [hw]
          exact List.mem_of_getElem? hp
      · obtain ⟨⟨n, sd, tt, h1⟩, gs, h2⟩ := hB3
        refine ⟨⟨n, sd, tt, ?_⟩, gs, ?_⟩
        · rw [upd_ne (fun z => hD0 (.inl z.symm))]; exact h1
        · rw [upd_ne (fun z => hD0 (.inr z.symm))]; exact h2
      · exact (hk.trans k13).own nD
    · refine ⟨bs, T, _, _, rfl, k2.atB hD hD0, ?_, ?_, hm, hB2, hk.trans k2⟩
      · exact Tab.imp (fun d v hh => BdNew.keep hh k2 (fun c ys hc => hB1.offT hc) fun c _ hc _ => hB.off hc) hT
      · rw [htk, List.map_append]
        exact hs.trans (List.sublist_append_left _ _)
  · rintro σ H1 ⟨bs, T, y, z, rfl, hD, hT, hs, hm, hB1, hk⟩
    rw [hxl, List.take_length] at hs
    exact ⟨_, rfl, k D bs T H1 nD hD hT hs hm hB1 hk⟩
end
/-! Normal forms of all bounds; emptiness; membership. -/
open PySem PySem.Spec PyProof.Rows L2
abbrev s_l_normals : Stmt := top 42
theorem sc_l_normals : FnScope ["_law_params", "_law_bounds_here", "_law_name", "_law_sort"] ["_law_params", "_law_bounds_here"] (defScope s_l_normals) := ⟨rfl, rfl, rfl, by decide +kernel, rfl, by decide +kernel, by decide +kernel⟩
abbrev s_l_is_void : Stmt := top 44
theorem sc_l_is_void : FnScope ["_law_params", "_law_full", "_law_name", "_law_sort"] ["_law_params", "_law_full"] (defScope s_l_is_void) := ⟨rfl, rfl, rfl, by decide +kernel, rfl, by decide +kernel, by decide +kernel⟩
abbrev s_l_is_in : Stmt := top 45
theorem sc_l_is_in : FnScope ["_law_params", "_law_full", "_law_call", "_law_name", "_law_sort"] ["_law_params", "_law_full", "_law_call"] (defScope s_l_is_in) := ⟨rfl, rfl, rfl, by decide +kernel, rfl, by decide +kernel, by decide +kernel⟩
structure Txt4 (K : PySem.W.Frag) (mg : Str → Option Value) : Prop extends Txt3 K mg where
  d_l_normals : HasDef K mg "_law_normals" s_l_normals [] []
  d_l_is_void : HasDef K mg "_law_is_void" s_l_is_void [] []
  d_l_is_in : HasDef K mg "_law_is_in" s_l_is_in [] []
theorem Tab.keep {K : PySem.W.Frag} {H H' : Hp} (k : Kp0 H H') {fs : List (Str × Bd)} {T : List (Str × V)} (h : Tab (fun d v => NmAt K H v d) fs T) : Tab (fun d v => NmAt K H' v d) fs T := Tab.imp (fun _ _ h => h.keep k) h
/-- a list of pairs that dict() takes -/
def PairsOf (K : PySem.W.Frag) (H : Hp) (as : List Addr) (T : List (Str × V)) : Prop := Paired (fun a q => SqT K H a [.str q.1, q.2]) as T
theorem PairsOf.keep {K : PySem.W.Frag} {H H' : Hp} (k : Kp0 H H') {as : List Addr} {T : List (Str × V)} (h : PairsOf K H as T) : PairsOf K H' as T := paired_imp (fun _ _ h => k.sqt0 h) h
theorem PairsOf.tk {K : PySem.W.Frag} {H : Hp} : ∀ {as : List Addr} {T : List (Str × V)}, PairsOf K H as T → Paired (fun p kv => SqT K H p [kV kv.1, kv.2]) as (Hk.tk T)
  | _, _, .nil => .nil
  | _, _, .cons h t => .cons h (PairsOf.tk t)
/-- a store to a list -/
theorem SqT.list {K : PySem.W.Frag} {H : Hp} {a L : Addr} {xs acc : List V} {o : HO} (h : SqT K H a xs) (hL : H L = some (.lst acc)) : SqT K (upd H L o) a xs :=
  SqT.keep (M := fun c => c = L) h (Keep.refl.mut rfl) fun c u e m => ⟨.lst acc, _, (show H c = some (.lst acc) from (show c = L from m) ▸ hL), rfl, (fun _ z => by cases z), fun _ _ z => by cases z⟩
theorem NmAt.list {K : PySem.W.Frag} {H : Hp} {v : V} {n : Bd} {L : Addr} {acc : List V} {o : HO} (h : NmAt K H v n) (hL : H L = some (.lst acc)) : NmAt K (upd H L o) v n := by
  cases n with
  | num lo hi =>
    obtain ⟨t, e, h⟩ := h
    exact ⟨t, e, SqT.list h hL⟩
  | wrd ws ins =>
    obtain ⟨t, q, e, h1, h2, h3⟩ := h
    exact ⟨t, q, e, SqT.list h1 hL, SqT.list h2 hL, h3⟩
theorem PairsOf.list {K : PySem.W.Frag} {H : Hp} {L : Addr} {acc : List V} {o : HO} {as : List Addr} {T : List (Str × V)} (h : PairsOf K H as T) (hL : H L = some (.lst acc)) : PairsOf K (upd H L o) as T := paired_imp (fun _ _ h => SqT.list h hL) h
theorem merge_nil {T : List (Str × V)} (nd : (T.map (·.1)).Nodup) : mergeK [] (tk T) = tk T := by
  exact merge_tk T [] (by simpa using nd)
section
variable {P : Program} {w : World} {K : PySem.W.Frag} {mg : Str → Option Value} {base : Heap}
def spNormals (K : PySem.W.Frag) : Sp := fun vs H Q _ => ∃ (a D : Addr) (ps : List (Str × Bool)) (bs : List (Str × Bd)) (T : List (Str × V)), vs = [.ref a, .ref D] ∧ PsAt K H a ps ∧ (ps.map (·.1)).Nodup ∧ ps.length < 64 ∧ H D = some (.dK (tk T)) ∧
  Tab (fun d v => BdAt H v d) bs T ∧ (∀ q ∈ bs, (q.1, q.2.isW) ∈ ps) ∧
  ∀ (F : Addr) (fs : List (Str × Bd)) (T' : List (Str × V)) (H' : Hp), H F = none → H' F = some (.dK (tk T')) → Tab (fun d v => NmAt K H' v d) fs T' → Norms bs ps fs → Kp0 H H' → Q (.ref F) H'
theorem Txt4.c_l_normals (T : Txt4 K mg) : C8.Cal P w K mg base 2 "_law_normals" (spNormals K) [] := by
  refine cal_of T.d_l_normals sc_l_normals (fun _ _ _ _ _ _ us hl => match us, hl with | [_, _], _ => rfl) (fun vs H Q E h => ?_) (fun f cdv A outer s H vs Q E hr h => ?_)
  · obtain ⟨a, D, ps, bs, T, rfl, _⟩ := h
    rfl
  obtain ⟨a, D, ps, bs, Tb, rfl, ⟨xs, hA, hP⟩, nd, hlen, hD, hT, hin, k⟩ := h
  have hu := hu_of hr
  refine ⟨_, (pss_one (ps_ret (pe_callTy (call_dictP (by rfl)) (by rfl) T.f_dict (by decide +kernel) (pa_cons (pe_lc (own := [("_law_name", 2), ("_law_sort", 3)]) rfl sc_l_normals.nd (pi_list (pv 0)) (blkOk_by (own := [("_law_name", 2), ("_law_sort", 3)]) (N := ["_law_params", "_law_bounds_here", "_law_name", "_law_sort"]) (sc := defScope s_l_normals) (by decide +kernel)) (fun _ _ _ _ _ => (pg_tupB (n := 2) rfl (pgs_cons (pg_name (i := 2) sc_l_normals.nd rfl (by first | exact .inl rfl | exact .inr rfl)) (pgs_cons (pg_name (i := 3) sc_l_normals.nd rfl (by first | exact .inl rfl | exact .inr rfl)) pgs_nil)))) (fun _ _ _ _ _ => pts_nil) (fun _ _ _ _ _ => (pe_tup (pa_cons (pv 2) (pa_cons (C8.pe_c T.c_l_normal hr (by decide) (by rfl) (pa_cons (pv 3) (pa_cons (pe_dget1 hu (pv 1) (pv 2) ⟨by rfl, by rfl, by rfl, by rfl⟩) pa_nil))) pa_nil))))) pa_nil)))), ?_⟩
  have hxl : xs.length = ps.length := (Paired.length hP).symm
  refine ⟨_, rfl, a, rfl, ⟨_, hA⟩, fun L nL => ?_⟩
  have k0 : Kp0 H (upd H L (.lst [])) := Keep.refl.new nL
  refine lc_list (xs := xs) (fun i H' => ∃ (as : List Addr) (fs : List (Str × Bd)) (T' : List (Str × V)), H' L = some (.lst (as.map V.ref)) ∧ PairsOf K H' as T' ∧ Tab (fun d v => NmAt K H' v d) fs T' ∧ Norms bs (ps.take i) fs ∧ as.length ≤ i ∧ Kp0 H H')
    ⟨[], [], [], upd_same, .nil, .nil, .nil, Nat.le_refl _, k0⟩ (fun i H' _ ⟨_, _, _, _, _, _, _, _, hk⟩ => hk.sql0 hA) ?_ ?_
  · rintro i x H1 hx ⟨as, fs, T', hL, hPs, hTa, hN, hal, hk⟩
    obtain ⟨p, hp, t, rfl, ht⟩ := paired_get hP hx
    have ht1 := hk.sqt0 ht
    have hil : i < ps.length := (List.getElem?_eq_some_iff.mp hp).1
    refine ⟨t, _, rfl, ht1, rfl, _, _, rfl, _, _, rfl, rfl, rfl, ?_⟩
    have hD1 := hk.at0 hD
    have hpm : p ∈ ps := List.mem_of_getElem? hp
    have hob : ∃ ob, ob = bs.lookup p.1 ∧ optV H1 (((tk Tb).find? fun kv => decide (kv.1 = Sum.inr p.1)).map (·.2) |>.getD .non) ob ∧ ∀ d, ob = some d → d.isW = p.2 := by
      have e : ((tk Tb).find? fun kv => decide (kv.1 = Sum.inr p.1)).map (·.2) = Tb.lookup p.1 := tk_val p.1 Tb
      rw [e]
      rcases hT.look p.1 with ⟨h1, h2⟩ | ⟨d, v, h1, h2, h3⟩
      · exact ⟨none, h1.symm, by rw [h2]; rfl, fun d z => by cases z⟩
      · refine ⟨some d, h1.symm, by rw [h2]; exact h3.keep hk, fun d' z => ?_⟩
        cases z
        have h4 := hin _ (lookup_mem h1)
        have e1 := lookup_in nd h4
        rw [lookup_in nd hpm] at e1
        exact (Option.some.inj e1).symm
    obtain ⟨ob, hob1, hob2, hob3⟩ := hob
    refine ⟨_, rfl, _, rfl, _, rfl, D, rfl, .inl ⟨_, .inl hD1⟩, _, rfl, _, .k (k := Sum.inr p.1) hD1, p.2, _, ob, rfl, hob2, hob3, fun v' n H2 hn hnw hv k2 => ?_⟩
    refine ⟨by rw [sizeLine_eq]; show 2 ≤ _; decide, fun r nr => ?_⟩
    have k3 : Kp0 H1 (upd H2 r (.tup [.str p.1, v'])) := k2.new nr
    have nL1 : H L = none := nL
    refine ⟨_, k3.at0 hL, small1000 (by rw [List.length_map]; omega), as ++ [r], fs ++ [(p.1, n)], T' ++ [(p.1, v')], by rw [upd_same, List.map_append]; rfl, ?_, ?_, ?_, by rw [List.length_append]; show as.length + 1 ≤ _; omega, (hk.trans k3).own nL⟩
    · exact Paired.snoc (PairsOf.list (PairsOf.keep k3 hPs) (k3.at0 hL)) (SqT.list (.of upd_same) (k3.at0 hL))
    · exact Tab.snoc (Tab.imp (fun _ _ h => NmAt.list h (k3.at0 hL)) (Tab.keep k3 hTa)) (NmAt.list (hv.keep (Keep.refl.new nr)) (k3.at0 hL))
    · rw [List.take_add_one, hp]
      exact Paired.snoc hN ⟨rfl, hnw, by rw [← hob1]; exact hn⟩
  · rintro H1 ⟨as, fs, T', hL, hPs, hTa, hN, hal, hk⟩
    rw [hxl, List.take_length] at hN
    have hnm := Norms.names hN
    have hnd : (T'.map (·.1)).Nodup := by
      rw [hTa.names]
      have : fs.map (·.1) = ps.map (·.1) := by rw [← hnm, List.map_map]; rfl
      rw [this]; exact nd
    refine ⟨L, as, tk T', rfl, .of hL, hPs.tk, fun F nF => ?_⟩
    rw [merge_nil hnd]
    have k2 := Keep.refl (M := fun _ => False) |>.new (o := .dK (tk T')) nF
    exact k F fs T' _ (hk.free0 nF) upd_same (Tab.keep k2 hTa) hN (hk.trans k2)
/-- the bounds in normal form that stand in a dict -/
def FsAt (K : PySem.W.Frag) (H : Hp) (F : Addr) (fs : List (Str × Bd)) : Prop := ∃ T, H F = some (.dK (tk T)) ∧ Tab (fun d v => NmAt K H v d) fs T
def kinds (fs : List (Str × Bd)) : List (Str × Bool) := fs.map fun f => (f.1, f.2.isW)
theorem kinds_get {fs : List (Str × Bd)} {ps : List (Str × Bool)} {p : Str × Bool} {i : Nat} (e : kinds fs = ps) (h : ps[i]? = some p) : ∃ d, fs[i]? = some (p.1, d) ∧ d.isW = p.2 := by
  rw [← e] at h
  unfold kinds at h
  rw [List.getElem?_map] at h
  cases q : fs[i]? with
  | none => rw [q] at h; cases h
  | some f =>
    rw [q] at h
    have h' := Option.some.inj h
    exact ⟨f.2, by rw [← h'], by rw [← h']⟩
theorem kinds_names {fs : List (Str × Bd)} : (kinds fs).map (·.1) = fs.map (·.1) := by
  unfold kinds
  rw [List.map_map]; rfl
theorem FsAt.get {K : PySem.W.Frag} {H H' : Hp} {F : Addr} {fs : List (Str × Bd)} (h : FsAt K H F fs) (k : Kp0 H H') (nd : (fs.map (·.1)).Nodup) {n : Str} {d : Bd} (hm : (n, d) ∈ fs) : ∃ v, NmAt K H' v d ∧ DGet H' F (.str n) (some v) := by
  obtain ⟨T, h1, h2⟩ := h
  rcases h2.look n with ⟨z, _⟩ | ⟨d', v, e1, e2, e3⟩
  · rw [lookup_in nd hm] at z; cases z
  · rw [lookup_in nd hm] at e1
    cases e1
    refine ⟨v, e3.keep k, ?_⟩
    have q := DGet.k (k := Sum.inr n) (k.at0 h1)
    rw [tk_val, e2] at q
    exact q
theorem FsAt.keep {K : PySem.W.Frag} {H H' : Hp} {F : Addr} {fs : List (Str × Bd)} (h : FsAt K H F fs) (k : Kp0 H H') : FsAt K H' F fs := by
  obtain ⟨T, h1, h2⟩ := h
  exact ⟨T, k.at0 h1, h2.keep k⟩
theorem dp_ints {K : PySem.W.Frag} {H : Hp} : ∀ ns : List Int, DpAll K H (ns.map V.int) (ns.map PyData.int)
  | [] => .nil
  | x :: ns => .cons (.int x) (dp_ints ns)
theorem eqv_none (ns : List Int) : PyData.eqv (.list (ns.map PyData.int)) (.list []) = ns.isEmpty := by
  cases ns <;> simp [PyData.eqv, PyData.eqvAll]
def ones {α : Type} (p : α → Bool) (l : List α) : List Int := (l.filter p).map fun _ => 1
theorem ones_snoc {α : Type} (p : α → Bool) (l : List α) (x : α) : ones p (l ++ [x]) = ones p l ++ (if p x = true then [1] else []) := by
  unfold ones
  rw [List.filter_append, List.map_append]
  congr 1
  cases h : p x
  · rw [List.filter_cons_of_neg (by rw [h]; decide)]; rfl
  · rw [List.filter_cons_of_pos h]; rfl
theorem ones_len {α : Type} (p : α → Bool) (l : List α) : (ones p l).length ≤ l.length := by
  unfold ones
  rw [List.length_map]
  exact List.length_filter_le _ _
theorem ones_empty {α : Type} (p : α → Bool) (l : List α) : (ones p l).isEmpty = !l.any p := by
  unfold ones
  induction l with
  | nil => rfl
  | cons x l ih =>
    rw [List.any_cons]
    cases h : p x
    · rw [List.filter_cons_of_neg (by rw [h]; decide), ih]; rfl
    · rw [List.filter_cons_of_pos h]; rfl
def spIsVoid (K : PySem.W.Frag) : Sp := fun vs H Q _ => ∃ (a F : Addr) (ps : List (Str × Bool)) (fs : List (Str × Bd)), vs = [.ref a, .ref F] ∧ PsAt K H a ps ∧ (ps.map (·.1)).Nodup ∧ ps.length < 64 ∧ FsAt K H F fs ∧ kinds fs = ps ∧
  ∀ H', Kp0 H H' → Q (.bl (fs.any fun f => emptyB f.2)) H'
theorem Txt4.c_l_is_void (T : Txt4 K mg) : C8.Cal P w K mg base 2 "_law_is_void" (spIsVoid K) [] := by
  refine cal_of T.d_l_is_void sc_l_is_void (fun _ _ _ _ _ _ us hl => match us, hl with | [_, _], _ => rfl) (fun vs H Q E h => ?_) (fun f cdv A outer s H vs Q E hr h => ?_)
  · obtain ⟨a, F, ps, fs, rfl, _⟩ := h
    rfl
  obtain ⟨a, F, ps, fs, rfl, ⟨xs, hA, hP⟩, nd, hlen, hF, hK, k⟩ := h
  have hu := hu_of hr
  refine ⟨_, (pss_one (ps_ret (pe_cmpR (op_neD hr.units) (pe_lc (own := [("_law_name", 2), ("_law_sort", 3)]) rfl sc_l_is_void.nd (pi_list (pv 0)) (blkOk_by (own := [("_law_name", 2), ("_law_sort", 3)]) (N := ["_law_params", "_law_full", "_law_name", "_law_sort"]) (sc := defScope s_l_is_void) (by decide +kernel)) (fun _ _ _ _ _ => (pg_tupB (n := 2) rfl (pgs_cons (pg_name (i := 2) sc_l_is_void.nd rfl (by first | exact .inl rfl | exact .inr rfl)) (pgs_cons (pg_name (i := 3) sc_l_is_void.nd rfl (by first | exact .inl rfl | exact .inr rfl)) pgs_nil)))) (fun _ _ _ _ _ => (pts_one (pt_val (C8.pe_c T.c_l_is_none hr (by decide) (by rfl) (pa_cons (pv 3) (pa_cons (pe_dget hu (pv 1) (pv 2) (fun _ _ => rfl)) pa_nil)))))) (fun _ _ _ _ _ => pe_int)) (pe_lst pa_nil) (nomark _)))), ?_⟩
  have hxl : xs.length = ps.length := (Paired.length hP).symm
  have hfl : fs.length = ps.length := by rw [← hK]; exact (List.length_map ..).symm
  have ndf : (fs.map (·.1)).Nodup := by rw [← kinds_names, hK]; exact nd
  refine ⟨_, rfl, a, rfl, ⟨_, hA⟩, fun L nL => ?_⟩
  have k0 : Kp0 H (upd H L (.lst [])) := Keep.refl.new nL
  refine lc_list (xs := xs) (fun i H' => H' L = some (.lst ((ones (fun f => emptyB f.2) (fs.take i)).map V.int)) ∧ Kp0 H H') ⟨upd_same, k0⟩ (fun i H' _ ⟨_, hk⟩ => hk.sql0 hA) ?_ ?_
  · rintro i x H1 hx ⟨hL, hk⟩
    obtain ⟨p, hp, t, rfl, ht⟩ := paired_get hP hx
    have ht1 := hk.sqt0 ht
    have hil : i < ps.length := (List.getElem?_eq_some_iff.mp hp).1
    obtain ⟨d, hd, hw⟩ := kinds_get hK hp
    obtain ⟨v, hv, hg⟩ := hF.get hk ndf (List.mem_of_getElem? hd)
    refine ⟨t, _, rfl, ht1, rfl, _, _, rfl, _, _, rfl, rfl, rfl, ?_⟩
    have htk : fs.take (i + 1) = fs.take i ++ [(p.1, d)] := by rw [List.take_add_one, hd]; rfl
    have hol := ones_len (fun f : Str × Bd => emptyB f.2) (fs.take i)
    rw [List.length_take] at hol
    refine ⟨_, rfl, _, rfl, _, rfl, F, v, rfl, hg, v, d, by rw [hw]; rfl, hv, fun H2 k2 => ⟨_, rfl, ite2 (fun e => ?_) (fun e => ?_)⟩⟩
    · refine ⟨_, k2.at0 hL, small1000 (by rw [List.length_map]; omega), ?_, (hk.trans k2).own nL⟩
      rw [upd_same, htk, ones_snoc, if_pos e, List.map_append]; rfl
    · rw [htk, ones_snoc, if_neg e, List.append_nil]
      exact ⟨k2.at0 hL, hk.trans k2⟩
  · rintro H1 ⟨hL, hk⟩
    rw [hxl, ← hfl, List.take_length] at hL
    refine ⟨(by show 0 ≤ _; omega), fun R nR => ?_⟩
    have k2 : Kp0 H1 (upd H1 R (.lst [])) := Keep.refl.new nR
    refine ⟨.list ((ones (fun f => emptyB f.2) fs).map .int), .list [], .lst (.of (k2.at0 hL)) (dp_ints _), .lst (.of upd_same) .nil, PySem.W.shaped_ints _, by decide +kernel, ?_⟩
    rw [eqv_none, ones_empty, Bool.not_not]
    exact k _ (hk.trans k2)
def CallAt (H : Hp) (C : Addr) (ps : List (Str × Bool)) (S : List (Str × V)) : Prop := H C = some (.dK (tk S)) ∧ Paired (fun (p : Str × Bool) (q : Str × V) => q.1 = p.1 ∧ OfSort p.2 q.2) ps S
/-- whether a call is within all bounds -/
def inB (fs : List (Str × Bd)) (S : List (Str × V)) : Bool := fs.all fun f => hasB f.2 ((S.lookup f.1).getD .non)
def spIsIn (K : PySem.W.Frag) : Sp := fun vs H Q _ => ∃ (a F C : Addr) (ps : List (Str × Bool)) (fs : List (Str × Bd)) (S : List (Str × V)), vs = [.ref a, .ref F, .ref C] ∧ PsAt K H a ps ∧ (ps.map (·.1)).Nodup ∧ ps.length < 64 ∧ FsAt K H F fs ∧ kinds fs = ps ∧ CallAt H C ps S ∧
  ∀ H', Kp0 H H' → Q (.bl (inB fs S)) H'
theorem CallAt.names {H : Hp} {C : Addr} {ps : List (Str × Bool)} {S : List (Str × V)} (h : CallAt H C ps S) : S.map (·.1) = ps.map (·.1) := by
  have : ∀ {ps : List (Str × Bool)} {S : List (Str × V)}, Paired (fun (p : Str × Bool) (q : Str × V) => q.1 = p.1 ∧ OfSort p.2 q.2) ps S → S.map (·.1) = ps.map (·.1) := by
    intro ps S h
    induction h with
    | nil => rfl
    | cons h _ ih => rw [List.map_cons, List.map_cons, ih, h.1]
  exact this h.2
theorem paired_get1 {α β : Type} {F : α → β → Prop} : ∀ {l₁ : List α} {l₂ : List β} {i : Nat} {x : α}, Paired F l₁ l₂ → l₁[i]? = some x → ∃ y, l₂[i]? = some y ∧ F x y
  | _, _, _, _, .nil, e => by simp at e
  | _, _, 0, _, .cons r _, e => by simp at e; subst e; exact ⟨_, rfl, r⟩
  | _, _, i + 1, x, .cons _ t, e => by
    obtain ⟨y, h1, h2⟩ := paired_get1 (i := i) (x := x) t (by simpa using e)
    exact ⟨y, by simpa using h1, h2⟩
theorem CallAt.get {H H' : Hp} {C : Addr} {ps : List (Str × Bool)} {S : List (Str × V)} (h : CallAt H C ps S) (k : Kp0 H H') (nd : (ps.map (·.1)).Nodup) {i : Nat} {p : Str × Bool} (hp : ps[i]? = some p) : ∃ x, OfSort p.2 x ∧ S.lookup p.1 = some x ∧ DGet H' C (.str p.1) (some x) := by
  obtain ⟨q, hq, e, hs⟩ := paired_get1 h.2 hp
  have nd2 : (S.map (·.1)).Nodup := by rw [h.names]; exact nd
  have hl : S.lookup p.1 = some q.2 := lookup_in nd2 (by rw [← e]; exact List.mem_of_getElem? hq)
  refine ⟨q.2, hs, hl, ?_⟩
  have g := DGet.k (k := Sum.inr p.1) (k.at0 h.1)
  rw [tk_val, hl] at g
  exact g
theorem all_not_any {α : Type} (p : α → Bool) (l : List α) : (l.all p) = !(l.any fun x => !p x) := by
  induction l with
  | nil => rfl
  | cons x l ih => rw [List.all_cons, List.any_cons, ih, Bool.not_or, Bool.not_not]
theorem Txt4.c_l_is_in (T : Txt4 K mg) : C8.Cal P w K mg base 2 "_law_is_in" (spIsIn K) [] := by
  refine cal_of T.d_l_is_in sc_l_is_in (fun _ _ _ _ _ _ us hl => match us, hl with | [_, _, _], _ => rfl) (fun vs H Q E h => ?_) (fun f cdv A outer s H vs Q E hr h => ?_)
  · obtain ⟨a, F, C, ps, fs, S, rfl, _⟩ := h
    rfl
  obtain ⟨a, F, C, ps, fs, S, rfl, ⟨xs, hA, hP⟩, nd, hlen, hF, hK, hC, k⟩ := h
  have hu := hu_of hr
  refine ⟨_, (pss_one (ps_ret (pe_cmpR (op_eqD hr.units) (pe_lc (own := [("_law_name", 3), ("_law_sort", 4)]) rfl sc_l_is_in.nd (pi_list (pv 0)) (blkOk_by (own := [("_law_name", 3), ("_law_sort", 4)]) (N := ["_law_params", "_law_full", "_law_call", "_law_name", "_law_sort"]) (sc := defScope s_l_is_in) (by decide +kernel)) (fun _ _ _ _ _ => (pg_tupB (n := 2) rfl (pgs_cons (pg_name (i := 3) sc_l_is_in.nd rfl (by first | exact .inl rfl | exact .inr rfl)) (pgs_cons (pg_name (i := 4) sc_l_is_in.nd rfl (by first | exact .inl rfl | exact .inr rfl)) pgs_nil)))) (fun _ _ _ _ _ => (pts_one (pt_not (pt_val (C8.pe_c T.c_l_fits hr (by decide) (by rfl) (pa_cons (pv 4) (pa_cons (pe_dget hu (pv 1) (pv 3) (fun _ _ => rfl)) (pa_cons (pe_dget hu (pv 2) (pv 3) (fun _ _ => rfl)) pa_nil)))))))) (fun _ _ _ _ _ => pe_int)) (pe_lst pa_nil) (nomark _)))), ?_⟩
  have hxl : xs.length = ps.length := (Paired.length hP).symm
  have hfl : fs.length = ps.length := by rw [← hK]; exact (List.length_map ..).symm
  have ndf : (fs.map (·.1)).Nodup := by rw [← kinds_names, hK]; exact nd
  refine ⟨_, rfl, a, rfl, ⟨_, hA⟩, fun L nL => ?_⟩
  have k0 : Kp0 H (upd H L (.lst [])) := Keep.refl.new nL
  refine lc_list (xs := xs) (fun i H' => H' L = some (.lst ((ones (fun f => !hasB f.2 ((S.lookup f.1).getD .non)) (fs.take i)).map V.int)) ∧ Kp0 H H') ⟨upd_same, k0⟩ (fun i H' _ ⟨_, hk⟩ => hk.sql0 hA) ?_ ?_
  · rintro i x H1 hx ⟨hL, hk⟩
    obtain ⟨p, hp, t, rfl, ht⟩ := paired_get hP hx
    have ht1 := hk.sqt0 ht
    have hil : i < ps.length := (List.getElem?_eq_some_iff.mp hp).1
    obtain ⟨d, hd, hw⟩ := kinds_get hK hp
    obtain ⟨v, hv, hg⟩ := hF.get hk ndf (List.mem_of_getElem? hd)
    obtain ⟨y, hy, hl, hg2⟩ := hC.get hk nd hp
    refine ⟨t, _, rfl, ht1, rfl, _, _, rfl, _, _, rfl, rfl, rfl, ?_⟩
    have htk : fs.take (i + 1) = fs.take i ++ [(p.1, d)] := by rw [List.take_add_one, hd]; rfl
    have hol := ones_len (fun f : Str × Bd => !hasB f.2 ((S.lookup f.1).getD .non)) (fs.take i)
    rw [List.length_take] at hol
    have hval : hasB d ((S.lookup p.1).getD .non) = hasB d y := by rw [hl]; rfl
    refine ⟨_, rfl, _, rfl, _, rfl, F, v, rfl, hg, _, rfl, _, rfl, C, y, rfl, hg2, v, y, d, by rw [hw]; rfl, hv, by rw [hw]; exact hy, _, rfl, ite2 (fun e => ?_) (fun e => ?_)⟩
    · rw [← hval] at e
      refine ⟨_, hL, small1000 (by rw [List.length_map]; omega), ?_, hk.own nL⟩
      rw [upd_same, htk, ones_snoc, if_pos e, List.map_append]; rfl
    · rw [← hval] at e
      rw [htk, ones_snoc, if_neg e, List.append_nil]
      exact ⟨hL, hk⟩
  · rintro H1 ⟨hL, hk⟩
    rw [hxl, ← hfl, List.take_length] at hL
    refine ⟨(by show 0 ≤ _; omega), fun R nR => ?_⟩
    have k2 : Kp0 H1 (upd H1 R (.lst [])) := Keep.refl.new nR
    refine ⟨.list ((ones (fun f => !hasB f.2 ((S.lookup f.1).getD .non)) fs).map .int), .list [], .lst (.of (k2.at0 hL)) (dp_ints _), .lst (.of upd_same) .nil, PySem.W.shaped_ints _, by decide +kernel, ?_⟩
    rw [eqv_none, ones_empty, ← all_not_any]
    exact k _ (hk.trans k2)
end
/-! Values and calls near the bounds. -/
open PySem PySem.Spec PyProof.Rows L2
abbrev s_l_near_values : Stmt := top 46
theorem sc_l_near_values : FnScope ["_law_sort", "_law_bounds_here", "_law_found", "_law_words_here", "_law_inside", "_law_bound_here", "_law_end"] ["_law_sort", "_law_bounds_here"] (defScope s_l_near_values) := ⟨rfl, rfl, rfl, by decide +kernel, rfl, by decide +kernel, by decide +kernel⟩
abbrev s_l_near_calls : Stmt := top 47
theorem sc_l_near_calls : FnScope ["_law_box_here", "_law_params", "_law_lots", "_law_found", "_law_name", "_law_sort", "_law_values", "_law_longer", "_law_call", "_law_value", "_law_full"] ["_law_box_here", "_law_params", "_law_lots"] (defScope s_l_near_calls) := ⟨rfl, rfl, rfl, by decide +kernel, rfl, by decide +kernel, by decide +kernel⟩
structure Txt5 (K : PySem.W.Frag) (mg : Str → Option Value) : Prop extends Txt4 K mg where
  d_l_near_values : HasDef K mg "_law_near_values" s_l_near_values [] []
  d_l_near_calls : HasDef K mg "_law_near_calls" s_l_near_calls [] []
/-- sorted of a set of texts or of ints -/
theorem cr_sortedSet2 {X : Cx} (hc : X.calm = true) : CallR X (.builtin "sorted") (fun vs H Q => (∃ (a : Addr) (ss : List Str), vs = [V.ref a] ∧ H a = some (SetLO X.prog X.w a (ss.map Sum.inr)) ∧ ss.length < 64 ∧
      ∀ (ys : List Str) (p : Addr), ys.Perm ss → sortedS ys = true → H p = none → Q (.ref p) (upd H p (.lst (ys.map V.str)))) ∨
    ∃ (a : Addr) (ns : List Int), vs = [V.ref a] ∧ H a = some (SetLO X.prog X.w a (ns.map Sum.inl)) ∧ ns.length < 64 ∧ ∀ (ys : List Int) (p : Addr), ys.Perm ns → ys.Pairwise (· ≤ ·) → H p = none → Q (.ref p) (upd H p (.lst (ys.map V.int)))) := by
  intro pins s σ H vs us Q I r h
  rcases h with h | h
  · exact cr_sortedSetS hc pins s σ H vs us Q I r h
  · exact cr_sortedSetI hc pins s σ H vs us Q I r h
theorem keys_ints : ∀ {L : List Key}, (∀ j ∈ L, ∃ x : Int, j = Sum.inl x) → ∃ ss : List Int, L = ss.map Sum.inl
  | [], _ => ⟨[], rfl⟩
  | j :: L, h => by
    obtain ⟨x, rfl⟩ := h j (List.mem_cons_self ..)
    obtain ⟨ss, e⟩ := keys_ints (L := L) fun k hk => h k (List.mem_cons_of_mem _ hk)
    exact ⟨x :: ss, by rw [e]; rfl⟩
theorem set_ints {ws : List Int} {L : List Key} (hm : ∀ j, j ∈ L ↔ j ∈ ws.map (Sum.inl : Int → Key)) : ∃ ss : List Int, L = ss.map Sum.inl ∧ ∀ x ∈ ss, x ∈ ws := by
  obtain ⟨ss, rfl⟩ := keys_ints (L := L) fun j hj => by
    obtain ⟨x, _, e⟩ := List.mem_map.mp ((hm j).mp hj)
    exact ⟨x, e.symm⟩
  refine ⟨ss, rfl, fun x h => ?_⟩
  obtain ⟨y, hy, e⟩ := List.mem_map.mp ((hm (Sum.inl x)).mp (List.mem_map_of_mem h))
  rw [← Sum.inl.inj e]; exact hy
theorem kv_inl (ws : List Int) : (ws.map (Sum.inl : Int → Key)).map kV = ws.map V.int := by
  rw [List.map_map]
  rfl
/-- a value of a sort, small -/
def ValOk (w : Bool) (x : V) : Prop := if w then ∃ y, x = .str y ∧ isNm y = true else ∃ i, x = .int i ∧ -900001 ≤ i ∧ i ≤ 900001
theorem ValOk.sort {w : Bool} {x : V} (h : ValOk w x) : OfSort w x := by
  cases w with
  | false =>
    obtain ⟨i, e, _⟩ := h
    exact ⟨i, e⟩
  | true =>
    obtain ⟨y, e, _⟩ := h
    exact ⟨y, e⟩
section
variable {P : Program} {w : World} {K : PySem.W.Frag} {mg : Str → Option Value} {base : Heap}
def spNear (K : PySem.W.Frag) : Sp := fun vs H Q _ => ∃ (w : Bool) (a : Addr) (v : V) (d : Bd), vs = [.str (srt w), .ref a] ∧ SqL K H a [v] ∧ NmAt K H v d ∧ d.isW = w ∧ SmB d ∧
  ∀ (p : Addr) (xs : List V) (H' : Hp), H p = none → H' p = some (.lst xs) → xs.length < 64 → (∀ x ∈ xs, ValOk w x) → Kp0 H H' → Q (.ref p) H'
theorem Txt5.c_l_near_values (T : Txt5 K mg) : C8.Cal P w K mg base 1 "_law_near_values" (spNear K) [] := by
  refine cal_of T.d_l_near_values sc_l_near_values (fun _ _ _ _ _ _ us hl => match us, hl with | [_, _], _ => rfl) (fun vs H Q E h => ?_) (fun f cdv A outer s H vs Q E hr h => ?_)
  · obtain ⟨w, a, v, d, rfl, _⟩ := h
    rfl
  obtain ⟨w, a, v, d, rfl, hA, hv, hw, hs, k⟩ := h
  refine ⟨_, (pss_cons (ps_if (pt_cmpR op_eq (pv 0) pe_str (nomark _)) (pss_cons (ps_set (i := 2) sc_l_near_values.nd rfl (by first | exact .inl rfl | exact .inr rfl) (pe_lst (pa_cons pe_str (pa_cons pe_str pa_nil))))
        (pss_cons (ps_for PassesOwn.never rfl (pi_list (pv 1)) (pg_tup rfl (pgs_cons (pg_name (i := 3) sc_l_near_values.nd rfl (by first | exact .inl rfl | exact .inr rfl)) (pgs_cons (pg_name (i := 4) sc_l_near_values.nd rfl (by first | exact .inl rfl | exact .inr rfl)) pgs_nil))) (pss_one (ps_expr (pe_bm PySem.F.plainAttrs_list PySem.F.slot_list_extend PySem.F.type_list_extend mt_extT (pv 2) (pa_cons (pv 3) pa_nil)))))
        (pss_one (ps_ret (pe_callB (cr_sortedSet2 (by rfl)) (by rfl) T.f_sorted (by decide +kernel) (pa_cons (pe_callTy (call_setL (by rfl)) (by rfl) T.f_set (by decide +kernel) (pa_cons (pv 2) pa_nil)) pa_nil)))))) pss_nil)
      (pss_cons (ps_set (i := 2) sc_l_near_values.nd rfl (by first | exact .inl rfl | exact .inr rfl) (pe_lst (pa_cons pe_int pa_nil)))
      (pss_cons (ps_for PassesOwn.never rfl (pi_list (pv 1)) (pg_name (i := 5) sc_l_near_values.nd rfl (by first | exact .inl rfl | exact .inr rfl)) (pss_one (ps_for PassesOwn.never rfl (pi_tup (pv 5)) (pg_name (i := 6) sc_l_near_values.nd rfl (by first | exact .inl rfl | exact .inr rfl)) (pss_one (ps_expr (pe_bm PySem.F.plainAttrs_list PySem.F.slot_list_extend PySem.F.type_list_extend mt_extend (pv 2) (pa_cons (pe_ifExp (pt_cmpR op_isN (pv 6) pe_non (nomark _)) (pe_lst pa_nil) (pe_lst (pa_cons (pe_op op_sub (pv 6) pe_int) (pa_cons (pv 6) (pa_cons (pe_op op_add (pv 6) pe_int) pa_nil))))) pa_nil)))))))
      (pss_one (ps_ret (pe_callB (cr_sortedSet2 (by rfl)) (by rfl) T.f_sorted (by decide +kernel) (pa_cons (pe_callTy (call_setL (by rfl)) (by rfl) T.f_set (by decide +kernel) (pa_cons (pv 2) pa_nil)) pa_nil))))))), ?_⟩
  rcases d with ⟨lo, hi⟩ | ⟨ws, ins⟩
  · obtain ⟨t, rfl, ht⟩ := hv
    obtain rfl : false = w := hw
    refine ⟨_, rfl, rfl, _, rfl, ite2 (fun z => absurd z srtF_wrd) (fun _ => ?_)⟩
    refine ⟨by rw [sizeLine_eq]; show 1 ≤ _; decide, fun L nL => ?_⟩
    have k0 : Kp0 H (upd H L (.lst [.int 0])) := Keep.refl.new nL
    refine ⟨_, rfl, a, rfl, ⟨_, k0.sql0 hA⟩, ?_⟩
    refine for_list (xs := [.ref t]) (fun i σ H' => ∃ (ns : List Int) (y1 y2 y3 y4 : Option V), σ = [some (.str (srt false)), some (.ref a), some (.ref L), y1, y2, y3, y4] ∧ H' L = some (.lst (ns.map V.int)) ∧ ns.length ≤ 1 + 6 * i ∧ (∀ n ∈ ns, -900001 ≤ n ∧ n ≤ 900001) ∧ Kp0 H H') ?_ ?_ ?_ ?_
    · exact ⟨[0], none, none, none, none, rfl, upd_same, by decide, (by intro n hn; rw [List.mem_singleton.mp hn]; decide), k0⟩
    · rintro i σ H' _ ⟨ns, _, _, _, _, _, _, _, _, hk⟩
      exact hk.sql0 hA
    · rintro i x σ H1 hx ⟨ns, y1, y2, y3, y4, rfl, hL, hl, hn, hk⟩
      have hi0 : i = 0 := by
        have := (List.getElem?_eq_some_iff.mp hx).1
        simpa using this
      subst hi0
      cases hx
      refine ⟨_, rfl, t, rfl, ⟨_, hk.sqt0 ht⟩, ?_⟩
      refine for_tup (xs := [oI lo, oI hi]) (fun i σ H' => ∃ (ns : List Int) (y1 y2 y3 y4 : Option V), σ = [some (.str (srt false)), some (.ref a), some (.ref L), y1, y2, y3, y4] ∧ H' L = some (.lst (ns.map V.int)) ∧ ns.length ≤ 1 + 3 * i ∧ (∀ n ∈ ns, -900001 ≤ n ∧ n ≤ 900001) ∧ Kp0 H H') ?_ ?_ ?_ ?_
      · exact ⟨ns, _, _, _, _, rfl, hL, hl, hn, hk⟩
      · rintro i σ H' _ ⟨ns, _, _, _, _, _, _, _, _, hk⟩
        exact hk.sqt0 ht
      · rintro i x σ H2 hx ⟨ns, y1, y2, y3, y4, rfl, hL, hl, hn, hk⟩
        have hi2 : i < 2 := (List.getElem?_eq_some_iff.mp hx).1
        have hx2 : ∃ o, x = oI o ∧ smE o := by
          match i, hx with
          | 0, hx => exact ⟨lo, (Option.some.inj hx).symm, hs.1⟩
          | 1, hx => exact ⟨hi, (Option.some.inj hx).symm, hs.2⟩
        obtain ⟨o, rfl, ho⟩ := hx2
        cases o with
        | none =>
          refine ⟨_, rfl, .inl ⟨rfl, _, .inl (.inl hL)⟩, _, rfl, rfl, _, rfl, ite2 (fun _ => ?_) (fun z => absurd (decide_eq_true rfl) z)⟩
          refine ⟨(by show 0 ≤ _; omega), fun R nR => ?_⟩
          have k2 : Kp0 H2 (upd H2 R (.lst [])) := Keep.refl.new nR
          refine ⟨L, R, _, _, rfl, rfl, k2.at0 hL, upd_same, by rw [List.length_map, sizeLine_eq]; show _ + 0 ≤ _; omega, ns, _, _, _, _, rfl, ?_, by omega, hn, (hk.trans k2).own nL⟩
          rw [upd_same, List.append_nil]
        | some e =>
          have he := ho e rfl
          refine ⟨_, rfl, .inl ⟨rfl, _, .inl (.inl hL)⟩, _, rfl, rfl, _, rfl, ite2 (fun z => absurd z oI_some) (fun _ => ?_)⟩
          refine ⟨_, rfl, _, _, rfl, rfl, _, rfl, _, rfl, _, _, rfl, rfl, (by rw [sizeLine_eq]; show 3 ≤ _; decide), fun R nR => ?_⟩
          have k2 : Kp0 H2 (upd H2 R (.lst [.int (e - 1), .int e, .int (e + 1)])) := Keep.refl.new nR
          refine ⟨L, R, _, _, rfl, rfl, k2.at0 hL, upd_same, by rw [List.length_map, sizeLine_eq]; show _ + 3 ≤ _; omega, ns ++ [e - 1, e, e + 1], _, _, _, _, rfl, ?_, by rw [List.length_append]; show _ + 3 ≤ _; omega, ?_, (hk.trans k2).own nL⟩
          · rw [upd_same, List.map_append]; rfl
          · intro n hn'
            rcases List.mem_append.mp hn' with z | z
            · exact hn n z
            · simp only [List.mem_cons, List.not_mem_nil, or_false] at z
              omega
      · rintro σ H2 ⟨ns, y1, y2, y3, y4, rfl, hL, hl, hn, hk⟩
        exact ⟨ns, _, _, _, _, rfl, hL, by simpa using hl, hn, hk⟩
    · rintro σ H1 ⟨ns, y1, y2, y3, y4, rfl, hL, hl, hn, hk⟩
      refine ⟨_, rfl, L, ns.map Sum.inl, rfl, .inl (by rw [kv_inl]; exact .of hL), by rw [List.length_map]; have : ns.length ≤ 1 + 6 * 1 := hl; omega, fun p Ls nd hle hm np => .inr ?_⟩
      obtain ⟨ss, rfl, hss⟩ := set_ints hm
      rw [List.length_map, List.length_map] at hle
      have hl7 : ns.length ≤ 1 + 6 * 1 := hl
      refine ⟨p, ss, rfl, upd_same, by omega, fun ys r pm so nr => ?_⟩
      have k2 : Kp0 H1 (upd H1 p (SetLO P w p (ss.map Sum.inl))) := Keep.refl.new np
      have k3 := k2.new (o := .lst (ys.map V.int)) nr
      refine k r _ _ ((hk.trans k2).free0 nr) upd_same (by rw [List.length_map, pm.length_eq]; omega) (fun x hx => ?_) (hk.trans k3)
      obtain ⟨y, hy, rfl⟩ := List.mem_map.mp hx
      exact ⟨y, rfl, hn y (hss y (pm.mem_iff.mp hy))⟩
  · obtain ⟨t, q, rfl, ht, hq, hlen, hnm⟩ := hv
    obtain rfl : true = w := hw
    refine ⟨_, rfl, rfl, _, rfl, ite2 (fun _ => ?_) (fun z => absurd srtT_wrd z)⟩
    refine ⟨by rw [sizeLine_eq]; show 2 ≤ _; decide, fun L nL => ?_⟩
    have k0 : Kp0 H (upd H L (.lst [.str "a", .str "zz"])) := Keep.refl.new nL
    refine ⟨_, rfl, a, rfl, ⟨_, k0.sql0 hA⟩, ?_⟩
    refine for_list (xs := [.ref t]) (fun i σ H' => ∃ (ns : List Str) (y1 y2 y3 y4 : Option V), σ = [some (.str (srt true)), some (.ref a), some (.ref L), y1, y2, y3, y4] ∧ H' L = some (.lst (ns.map V.str)) ∧ ns.length ≤ 2 + 16 * i ∧ (∀ n ∈ ns, isNm n = true) ∧ Kp0 H H') ?_ ?_ ?_ ?_
    · exact ⟨["a", "zz"], none, none, none, none, rfl, upd_same, by decide, (by decide +kernel), k0⟩
    · rintro i σ H' _ ⟨ns, _, _, _, _, _, _, _, _, hk⟩
      exact hk.sql0 hA
    · rintro i x σ H1 hx ⟨ns, y1, y2, y3, y4, rfl, hL, hl, hn, hk⟩
      have hi0 : i = 0 := by
        have := (List.getElem?_eq_some_iff.mp hx).1
        simpa using this
      subst hi0
      cases hx
      refine ⟨t, _, rfl, hk.sqt0 ht, rfl, _, _, rfl, _, _, rfl, rfl, ?_⟩
      refine ⟨_, rfl, .inl ⟨rfl, _, .inl (.inl hL)⟩, _, rfl, L, q, _, _, rfl, rfl, hL, hk.sqt0 hq, by rw [List.length_map, List.length_map, sizeLine_eq]; omega, ns ++ ws, _, _, _, _, rfl, ?_, by rw [List.length_append]; omega, ?_, hk.own nL⟩
      · rw [upd_same, List.map_append]
      · intro n hn'
        rcases List.mem_append.mp hn' with z | z
        · exact hn n z
        · exact hnm n z
    · rintro σ H1 ⟨ns, y1, y2, y3, y4, rfl, hL, hl, hn, hk⟩
      have hl18 : ns.length ≤ 2 + 16 * 1 := hl
      refine ⟨_, rfl, L, ns.map Sum.inr, rfl, .inl (by rw [kv_inr]; exact .of hL), by rw [List.length_map]; omega, fun p Ls nd hle hm np => .inl ?_⟩
      obtain ⟨ss, rfl, hsn, hss⟩ := set_strs nd hm
      rw [List.length_map, List.length_map] at hle
      refine ⟨p, ss, rfl, upd_same, by omega, fun ys r pm so nr => ?_⟩
      have k2 : Kp0 H1 (upd H1 p (SetLO P w p (ss.map Sum.inr))) := Keep.refl.new np
      have k3 := k2.new (o := .lst (ys.map V.str)) nr
      refine k r _ _ ((hk.trans k2).free0 nr) upd_same (by rw [List.length_map, pm.length_eq]; omega) (fun x hx => ?_) (hk.trans k3)
      obtain ⟨y, hy, rfl⟩ := List.mem_map.mp hx
      exact ⟨y, rfl, hn y ((hss y).mp (pm.mem_iff.mp hy))⟩
theorem cut_take (xs : List V) (n : Nat) : cutV xs none (some (n : Int)) = xs.take n := by
  unfold cutV
  rw [show HT.sIx xs.length 0 none = 0 from rfl, List.drop_zero, Nat.sub_zero, HT.sIx_nat, List.take_eq_take_iff]
  omega
theorem cut_drop (xs : List V) (n : Nat) : cutV xs (some (n : Int)) none = xs.drop n := by
  unfold cutV
  rw [show HT.sIx xs.length xs.length none = xs.length from rfl, HT.sIx_nat]
  by_cases h : n ≤ xs.length
  · rw [Nat.min_eq_left h, List.take_of_length_le (by rw [List.length_drop]; omega)]
  · rw [Nat.min_eq_right (by omega), List.drop_length, List.drop_of_length_le (by omega), List.take_nil]
/-- a call, its values small -/
def CallV (H : Hp) (C : Addr) (ps : List (Str × Bool)) (S : List (Str × V)) : Prop := H C = some (.dK (tk S)) ∧ Paired (fun (p : Str × Bool) (q : Str × V) => q.1 = p.1 ∧ ValOk p.2 q.2) ps S
theorem CallV.at_ {H : Hp} {C : Addr} {ps : List (Str × Bool)} {S : List (Str × V)} (h : CallV H C ps S) : CallAt H C ps S := ⟨h.1, paired_imp (fun _ _ z => ⟨z.1, z.2.sort⟩) h.2⟩
theorem FsAt.keepB {K : PySem.W.Frag} {H H' : Hp} {F b g : Addr} {fs : List (Str × Bd)} (h : FsAt K H F fs) (hB : BoxAt H b g) (k : Keep (Bm b g) H H') (n : ¬ Bm b g F) : FsAt K H' F fs := by
  obtain ⟨T, h1, h2⟩ := h
  refine ⟨T, k.atB h1 n, Tab.imp (fun d v hv => ?_) h2⟩
  cases d with
  | num lo hi =>
    obtain ⟨t, e, h⟩ := hv
    exact ⟨t, e, SqT.keepB h hB k⟩
  | wrd ws ins =>
    obtain ⟨t, q, e, h1, h2, h3⟩ := hv
    exact ⟨t, q, e, SqT.keepB h1 hB k, SqT.keepB h2 hB k, h3⟩
def spNearCalls (K : PySem.W.Frag) : Sp := fun vs H Q _ => ∃ (b g a l F : Addr) (ps : List (Str × Bool)) (fs : List (Str × Bd)), vs = [.ref b, .ref a, .ref l] ∧ BoxAt H b g ∧ PsAt K H a ps ∧ ¬ Bm b g a ∧ (ps.map (·.1)).Nodup ∧ ps.length ≤ 3 ∧ SqL K H l [.ref F] ∧ ¬ Bm b g l ∧
  FsAt K H F fs ∧ ¬ Bm b g F ∧ kinds fs = ps ∧ (∀ f ∈ fs, SmB f.2) ∧
  ∀ (p : Addr) (cs : List Addr) (H' : Hp), H' p = some (.lst (cs.map V.ref)) → (∀ c ∈ cs, ∃ S, CallV H' c ps S) → BoxAt H' b g → Keep (Bm b g) H H' → Q (.ref p) H'
theorem Txt5.c_l_near_calls (T : Txt5 K mg) : C8.Cal P w K mg base 3 "_law_near_calls" (spNearCalls K) [] := by
  refine cal_of T.d_l_near_calls sc_l_near_calls (fun _ _ _ _ _ _ us hl => match us, hl with | [_, _, _], _ => rfl) (fun vs H Q E h => ?_) (fun f cdv A outer s H vs Q E hr h => ?_)
  · obtain ⟨b, g, a, l, F, ps, fs, rfl, _⟩ := h
    rfl
  obtain ⟨b, g, a, l, F, ps, fs, rfl, hB, ⟨xs, hA, hP⟩, hna, nd, hlen, hl, hnl, hF, hnF, hK, hsm, k⟩ := h
  have hu := hu_of hr
  refine ⟨_, (pss_cons (ps_set (i := 3) sc_l_near_calls.nd rfl (by first | exact .inl rfl | exact .inr rfl) (pe_lst (pa_cons pe_dnewK pa_nil)))
      (pss_cons (ps_for PassesOwn.never rfl (pi_list (pv 1)) (pg_tup rfl (pgs_cons (pg_name (i := 4) sc_l_near_calls.nd rfl (by first | exact .inl rfl | exact .inr rfl)) (pgs_cons (pg_name (i := 5) sc_l_near_calls.nd rfl (by first | exact .inl rfl | exact .inr rfl)) pgs_nil))) (pss_cons (ps_set (i := 6) sc_l_near_calls.nd rfl (by first | exact .inl rfl | exact .inr rfl) (pe_slice sl_list (C8.pe_c T.c_l_mixed hr (by decide) (by rfl) (pa_cons (pv 0) (pa_cons (C8.pe_c T.c_l_near_values hr (by decide) (by rfl) (pa_cons (pv 5) (pa_cons (pe_lc (own := [("_law_full", 10)]) rfl sc_l_near_calls.nd (pi_list (pv 2)) (blkOk_by (own := [("_law_full", 10)]) (N := ["_law_box_here", "_law_params", "_law_lots", "_law_found", "_law_name", "_law_sort", "_law_values", "_law_longer", "_law_call", "_law_value", "_law_full"]) (sc := defScope s_l_near_calls) (by decide +kernel)) (fun _ _ _ _ _ => (pg_name (i := 10) sc_l_near_calls.nd rfl (by first | exact .inl rfl | exact .inr rfl))) (fun _ _ _ _ _ => pts_nil) (fun _ _ _ _ _ => (pe_dget hu (pv 10) (pv 4) (fun _ _ => rfl)))) pa_nil))) pa_nil))) po_none (po_some pe_int)))
        (pss_cons (ps_set (i := 7) sc_l_near_calls.nd rfl (by first | exact .inl rfl | exact .inr rfl) (pe_lst pa_nil))
        (pss_cons (ps_for PassesOwn.never rfl (pi_list (pe_callTy call_list_of (by rfl) T.f_list (by decide +kernel) (pa_cons (pv 3) pa_nil))) (pg_name (i := 8) sc_l_near_calls.nd rfl (by first | exact .inl rfl | exact .inr rfl)) (pss_one (ps_for PassesOwn.never rfl (pi_list (pv 6)) (pg_name (i := 9) sc_l_near_calls.nd rfl (by first | exact .inl rfl | exact .inr rfl)) (pss_one (ps_expr (pe_bm PySem.F.plainAttrs_list PySem.F.slot_list_append PySem.F.type_list_append mt_append (pv 7) (pa_cons (pe_callTy (call_dictP (by rfl)) (by rfl) T.f_dict (by decide +kernel) (pa_cons (pe_op op_cat (LiI.pe_listItems (by rfl) (pv 8) (by rfl) T.f_list (by decide +kernel)) (pe_lst (pa_cons (pe_tup (pa_cons (pv 4) (pa_cons (pv 9) pa_nil))) pa_nil))) pa_nil)) pa_nil)))))))
        (pss_one (ps_set (i := 3) sc_l_near_calls.nd rfl (by first | exact .inl rfl | exact .inr rfl) (pv 7)))))))
      (pss_one (ps_ret (pe_slice sl_list (C8.pe_c T.c_l_mixed hr (by decide) (by rfl) (pa_cons (pv 0) (pa_cons (pe_slice sl_list (pv 3) po_none (po_some pe_int)) pa_nil))) po_none (po_some pe_int)))))), ?_⟩
  have hxl : xs.length = ps.length := (Paired.length hP).symm
  have ndf : (fs.map (·.1)).Nodup := by rw [← kinds_names, hK]; exact nd
  intro e ne
  have ke : Kp0 H (upd H e (.dK [])) := Keep.refl.new ne
  refine ⟨by rw [sizeLine_eq]; show 1 ≤ _; decide, fun C nC => ?_⟩
  have k0 : Kp0 H (upd (upd H e (.dK [])) C (.lst [.ref e])) := ke.new nC
  refine ⟨_, rfl, a, rfl, ⟨_, k0.sql0 hA⟩, ?_⟩
  refine for_list (xs := xs) (fun i σ H' => ∃ (C : Addr) (cs : List Addr) (y1 y2 y3 y4 y5 y6 y7 : Option V), σ = [some (.ref b), some (.ref a), some (.ref l), some (.ref C), y1, y2, y3, y4, y5, y6, y7] ∧
    H' C = some (.lst (cs.map V.ref)) ∧ H C = none ∧ cs.length ≤ 6 ^ i ∧ (∀ c ∈ cs, (∃ S, CallV H' c (ps.take i) S) ∧ H c = none) ∧ BoxAt H' b g ∧ Keep (Bm b g) H H') ?_ ?_ ?_ ?_
  · refine ⟨C, [e], none, none, none, none, none, none, none, rfl, upd_same, ke.free0 nC, (by show 1 ≤ 1; omega), fun c hc => ?_, hB.keep k0, k0.weak0⟩
    rw [List.mem_singleton.mp hc]
    refine ⟨⟨[], ?_, .nil⟩, ne⟩
    rw [upd_ne (fun z => by rw [← z, upd_same] at nC; cases nC), upd_same]; rfl
  · rintro i σ H' _ ⟨_, _, _, _, _, _, _, _, _, _, _, _, _, _, hB', hk⟩
    exact hk.sql hA hna
  · rintro i x σ H1 hx ⟨C, cs, y1, y2, y3, y4, y5, y6, y7, rfl, hC, nC, hcl, hcs, hB1, hk⟩
    obtain ⟨p, hp, t, rfl, ht⟩ := paired_get hP hx
    have ht1 := SqT.keepB ht hB hk
    have hil : i < ps.length := (List.getElem?_eq_some_iff.mp hp).1
    obtain ⟨d, hd, hw⟩ := kinds_get hK hp
    have hdm : (p.1, d) ∈ fs := List.mem_of_getElem? hd
    have hF1 := hF.keepB hB hk hnF
    have hl1 := hk.sql hl hnl
    have htk : ps.take (i + 1) = ps.take i ++ [p] := by rw [List.take_add_one, hp]; rfl
    refine ⟨t, _, rfl, ht1, rfl, _, _, rfl, _, _, rfl, rfl, ?_⟩
    refine ⟨_, rfl, _, rfl, _, rfl, l, rfl, ⟨_, hl1⟩, fun L nL => ?_⟩
    refine lc_list (xs := [.ref F]) (fun j H' => ∃ vs, H' L = some (.lst vs) ∧ vs.length = j ∧ (∀ x ∈ vs, NmAt K H' x d) ∧ Kp0 H1 H') ⟨[], upd_same, rfl, (fun x h => by cases h), Keep.refl.new nL⟩ (fun j H' _ ⟨_, _, _, _, kk⟩ => kk.sql0 hl1) ?_ ?_
    · rintro j x H2 hx2 ⟨vs, hL, hvl, hvs, kk⟩
      have hj : j = 0 := by
        have := (List.getElem?_eq_some_iff.mp hx2).1
        simpa using this
      subst hj
      cases hx2
      obtain ⟨v, hv, hg⟩ := hF1.get kk ndf hdm
      refine ⟨rfl, _, rfl, _, rfl, F, v, rfl, hg, vs, hL, small1000 (by omega), vs ++ [v], upd_same, by rw [List.length_append, hvl]; rfl, fun x hx => ?_, kk.own nL⟩
      rcases List.mem_append.mp hx with z | z
      · exact NmAt.list (hvs x z) hL
      · rw [List.mem_singleton.mp z]
        exact NmAt.list hv hL
    · rintro H2 ⟨vs, hL, hvl, hvs, kk⟩
      obtain ⟨v, rfl⟩ := List.length_eq_one_iff.mp hvl
      have hB2 := hB1.keep kk
      refine ⟨p.2, L, v, d, rfl, .of hL, hvs v (List.mem_singleton.mpr rfl), hw, hsm _ hdm, fun q1 us H3 nq1 hq1 hul huv k3 => ?_⟩
      have hB3 := hB2.keep k3
      refine ⟨b, g, q1, us, rfl, hB3, .of hq1, by omega, fun q2 ys H4 pm hB4 nq2 hq2 k4 => ?_⟩
      refine ⟨_, rfl, q2, _, rfl, .of hq2, fun V1 nV1 => ?_⟩
      rw [show cutV ys none (some 6) = ys.take 6 from cut_take ys 6]
      have hy6 : (ys.take 6).length ≤ 6 := by rw [List.length_take]; omega
      have hyv : ∀ x ∈ ys.take 6, ValOk p.2 x := fun x hx => huv x (pm.mem_iff.mp (List.mem_of_mem_take hx))
      have k5 : Kp0 H4 (upd H4 V1 (.lst (ys.take 6))) := Keep.refl.new nV1
      refine ⟨(by show 0 ≤ _; omega), fun G nG => ?_⟩
      have k6 := k5.new (o := .lst []) nG
      have kH6 : Keep (Bm b g) H (upd (upd H4 V1 (.lst (ys.take 6))) G (.lst [])) := (((hk.trans (kk.trans k3).weak0).trans k4).trans k6.weak0)
      have nGH : H G = none := hB4.free (((hk.trans (kk.trans k3).weak0).trans k4)) (k5.free0 nG)
      have hC6 : upd (upd H4 V1 (.lst (ys.take 6))) G (.lst []) C = some (.lst (cs.map V.ref)) := k6.at0 (k4.atB ((kk.trans k3).at0 hC) (hB.off nC))
      have hcs6 : ∀ c ∈ cs, (∃ S, CallV (upd (upd H4 V1 (.lst (ys.take 6))) G (.lst [])) c (ps.take i) S) ∧ H c = none := fun c hc => by
        obtain ⟨⟨S, h1, h2⟩, h3⟩ := hcs c hc
        exact ⟨⟨S, k6.at0 (k4.atB ((kk.trans k3).at0 h1) (hB.off h3)), h2⟩, h3⟩
      have hV6 : upd (upd H4 V1 (.lst (ys.take 6))) G (.lst []) V1 = some (.lst (ys.take 6)) := by
        rw [upd_ne (fun z => by rw [← z, upd_same] at nG; cases nG), upd_same]
      have hG6 : upd (upd H4 V1 (.lst (ys.take 6))) G (.lst []) G = some (.lst []) := upd_same
      have hB6 := hB4.keep k6
      revert hC6 hcs6 hV6 hG6 hB6 kH6
      generalize upd (upd H4 V1 (.lst (ys.take 6))) G (.lst []) = H6
      intro kH6 hC6 hcs6 hV6 hG6 hB6
      refine ⟨_, rfl, C, _, rfl, .inl (.of hC6), fun C2 nC2 => ⟨C2, rfl, ⟨_, .of upd_same⟩, ?_⟩⟩
      have hGC : G ≠ C2 := fun z => by rw [z, nC2] at hG6; cases hG6
      have k7 : Kp0 H6 (upd H6 C2 (.lst (cs.map V.ref))) := Keep.refl.new nC2
      have hVG : V1 ≠ G := fun z => by rw [z] at nV1; rw [z, upd_same] at nG; cases nG
      refine for_list (xs := cs.map V.ref) (fun j σ H' => ∃ (ds : List Addr) (y8 y9 y10 : Option V), σ = [some (.ref b), some (.ref a), some (.ref l), some (.ref C), some (.str p.1), some (.str (srt p.2)), some (.ref V1), some (.ref G), y8, y9, y10] ∧
        H' G = some (.lst (ds.map V.ref)) ∧ ds.length ≤ 6 * j ∧ (∀ c ∈ ds, (∃ S, CallV H' c (ps.take (i + 1)) S) ∧ H c = none) ∧ Keep (fun c => c = G) (upd H6 C2 (.lst (cs.map V.ref))) H') ?_ ?_ ?_ ?_
      · exact ⟨[], _, _, _, rfl, k7.at0 hG6, by decide, (fun c h => by cases h), .refl⟩
      · rintro j σ H' _ ⟨_, _, _, _, _, _, _, _, kj⟩
        exact .of (kj _ _ upd_same hGC.symm)
      · rintro j x σ H7 hx7 ⟨ds, y8, y9, y10, rfl, hG7, hdl, hds, kj⟩
        obtain ⟨c, hcm, rfl⟩ := List.mem_map.mp (List.mem_of_getElem? hx7)
        have hjl : j < cs.length := by
          have := (List.getElem?_eq_some_iff.mp hx7).1
          rwa [List.length_map] at this
        have hc216 : cs.length ≤ 36 := by
          have h3 : i ≤ 2 := by omega
          exact Nat.le_trans hcl (Nat.le_trans (Nat.pow_le_pow_right (by decide) h3) (by decide))
        obtain ⟨⟨S, hS1, hS2⟩, hcn⟩ := hcs6 c hcm
        have hcG : ¬ c = G := fun z => by rw [z, hG6] at hS1; cases hS1
        have hV7 : H7 V1 = some (.lst (ys.take 6)) := kj _ _ (k7.at0 hV6) hVG
        refine ⟨_, rfl, V1, rfl, ⟨_, .of hV7⟩, ?_⟩
        refine for_list (xs := ys.take 6) (fun m σ H' => ∃ (ds : List Addr) (y9 y10 : Option V), σ = [some (.ref b), some (.ref a), some (.ref l), some (.ref C), some (.str p.1), some (.str (srt p.2)), some (.ref V1), some (.ref G), some (.ref c), y9, y10] ∧
          H' G = some (.lst (ds.map V.ref)) ∧ ds.length ≤ 6 * j + m ∧ (∀ c ∈ ds, (∃ S, CallV H' c (ps.take (i + 1)) S) ∧ H c = none) ∧ Keep (fun c => c = G) (upd H6 C2 (.lst (cs.map V.ref))) H') ?_ ?_ ?_ ?_
        · exact ⟨ds, _, _, rfl, hG7, hdl, hds, kj⟩
        · rintro m σ H' _ ⟨_, _, _, _, _, _, _, km⟩
          exact .of (km _ _ (k7.at0 hV6) hVG)
        · rintro m x σ H8 hx8 ⟨ds, y9, y10, rfl, hG8, hdl, hds, km⟩
          have hm6 : m < 6 := by
            have := (List.getElem?_eq_some_iff.mp hx8).1
            omega
          have hxv := hyv x (List.mem_of_getElem? hx8)
          have hc8 : H8 c = some (.dK (tk S)) := km _ _ (k7.at0 hS1) hcG
          have hSl : S.length ≤ 3 := by
            have := Paired.length hS2
            rw [List.length_take] at this
            omega
          refine ⟨_, rfl, .inl ⟨rfl, _, .inl (.inl hG8)⟩, _, rfl, c, tk S, rfl, hc8, fun H9 q ts kx nq nts hqn hq hts => ?_⟩
          have k9 : Kp0 H8 H9 := fun a o h _ => kx a o h
          have htl : ts.length = S.length := by rw [Paired.length hts, tk_len]
          refine ⟨_, rfl, _, rfl, (by rw [sizeLine_eq]; show 2 ≤ _; decide), fun tt ntt => ⟨(by rw [sizeLine_eq]; show 1 ≤ _; decide), fun r nr => ?_⟩⟩
          have k10 : Kp0 H9 (upd H9 tt (.tup [.str p.1, x])) := Keep.refl.new ntt
          have k11 := k10.new (o := .lst [.ref tt]) nr
          refine ⟨q, r, _, _, rfl, rfl, k11.at0 hq, upd_same, by rw [List.length_map, sizeLine_eq]; show _ + 1 ≤ _; omega, fun z nz => ?_⟩
          have k12 := k11.new (o := .lst (ts.map V.ref ++ [.ref tt])) nz
          have httr : tt ≠ r := fun zz => by rw [← zz, upd_same] at nr; cases nr
          have hndS : ((S ++ [(p.1, x)]).map (·.1)).Nodup := by
            have e1 : (S ++ [(p.1, x)]).map (·.1) = (ps.take (i + 1)).map (·.1) := by
              have : S.map (·.1) = (ps.take i).map (·.1) := CallAt.names (H := H8) (C := c) ⟨hc8, paired_imp (fun _ _ z => ⟨z.1, z.2.sort⟩) hS2⟩
              rw [List.map_append, this, htk, List.map_append]; rfl
            rw [e1]
            exact nd.sublist ((List.take_sublist _ _).map _)
          refine ⟨z, ts ++ [tt], tk (S ++ [(p.1, x)]), rfl, .of (by rw [upd_same, List.map_append]; rfl), ?_, fun w nw => ?_⟩
          · have : tk (S ++ [(p.1, x)]) = tk S ++ [(Sum.inr p.1, x)] := by unfold tk; rw [List.map_append]; rfl
            rw [this]
            have kt : Kp0 (upd H9 tt (.tup [.str p.1, x])) _ := (Keep.refl.new (o := .lst [.ref tt]) nr).new (o := .lst (ts.map V.ref ++ [.ref tt])) nz
            exact Paired.snoc (paired_imp (fun _ _ h => .of (k12.at0 h)) hts) (.of (kt.at0 upd_same))
          · rw [merge_nil hndS]
            have k13 := k12.new (o := .dK (tk (S ++ [(p.1, x)]))) nw
            have kAll : Kp0 H8 _ := k9.trans k13
            have nw8 : H8 w = none := (k9.trans k12).free0 nw
            have hGw : G ≠ w := fun zz => by rw [zz, nw8] at hG8; cases hG8
            have nwH : H w = none := by
              refine hB6.free kH6 ?_
              refine k7.free0 ?_
              cases hq : upd H6 C2 (.lst (cs.map V.ref)) w with
              | none => rfl
              | some o =>
                have := km _ _ hq hGw.symm
                rw [nw8] at this; cases this
            refine ⟨G, _, .ref w, rfl, rfl, kAll.at0 hG8, small1000 (by rw [List.length_map]; omega), ds ++ [w], _, _, rfl, ?_, by rw [List.length_append]; show _ + 1 ≤ _; omega, fun c' hc' => ?_, (km.trans kAll.weak0).mut rfl⟩
            · rw [upd_same, List.map_append]; rfl
            · rcases List.mem_append.mp hc' with z1 | z1
              · obtain ⟨⟨S', h1, h2⟩, h3⟩ := hds c' z1
                refine ⟨⟨S', ?_, h2⟩, h3⟩
                rw [upd_ne (fun zz => by rw [zz, hG8] at h1; cases h1)]
                exact kAll.at0 h1
              · rw [List.mem_singleton.mp z1]
                refine ⟨⟨S ++ [(p.1, x)], ?_, ?_⟩, nwH⟩
                · rw [upd_ne hGw.symm, upd_same]
                · rw [htk]
                  exact Paired.snoc hS2 ⟨rfl, hxv⟩
        · rintro σ H8 ⟨ds, y9, y10, rfl, hG8, hdl, hds, km⟩
          exact ⟨ds, _, _, _, rfl, hG8, by omega, hds, km⟩
      · rintro σ H7 ⟨ds, y8, y9, y10, rfl, hG7, hdl, hds, kj⟩
        rw [List.length_map] at hdl
        have kH7 : Keep (Bm b g) H H7 := by
          have k1 := kH6.trans k7.weak0
          have k2 : Keep (fun c => Bm b g c ∨ c = G) H H7 := (k1.weak (fun c z => .inl z)).trans (kj.weak (fun c z => .inr z))
          refine k2.drop fun c z => ?_
          rcases z with z | z
          · exact .inl z
          · exact .inr (by rw [z]; exact nGH)
        have hB7 : BoxAt H7 b g := by
          obtain ⟨⟨n, sd, tt, h1⟩, gs, h2⟩ := hB6.keep k7
          have hbG := hB.off nGH
          exact ⟨⟨n, sd, tt, kj _ _ h1 (fun z => hbG (.inl z.symm))⟩, gs, kj _ _ h2 (fun z => hbG (.inr z.symm))⟩
        refine ⟨_, rfl, G, ds, _, _, _, _, _, _, _, rfl, hG7, nGH, ?_, hds, hB7, kH7⟩
        rw [Nat.pow_succ]
        omega
  · rintro σ H1 ⟨C, cs, y1, y2, y3, y4, y5, y6, y7, rfl, hC, nC, hcl, hcs, hB1, hk⟩
    rw [hxl, List.take_length] at hcs
    have hx3 : xs.length ≤ 3 := by omega
    have hc216 : cs.length ≤ 216 := Nat.le_trans hcl (Nat.le_trans (Nat.pow_le_pow_right (by decide) hx3) (by decide))
    refine ⟨_, rfl, _, rfl, _, rfl, C, _, rfl, .of hC, fun r nr => ?_⟩
    rw [show cutV (cs.map V.ref) none (some 216) = (cs.map V.ref).take 216 from cut_take _ 216, List.take_of_length_le (by rw [List.length_map]; exact hc216)]
    have k2 : Kp0 H1 (upd H1 r (.lst (cs.map V.ref))) := Keep.refl.new nr
    refine ⟨b, g, r, _, rfl, hB1.keep k2, .of upd_same, by rw [List.length_map]; omega, fun z ys H2 pm hB2 nz hz k3 => ?_⟩
    obtain ⟨ms, rfl, pm2⟩ := perm_map pm
    refine ⟨_, rfl, z, _, rfl, .of hz, fun u nu => ?_⟩
    rw [show cutV (ms.map V.ref) none (some 60) = (ms.map V.ref).take 60 from cut_take _ 60, ← List.map_take]
    have k4 : Kp0 H2 (upd H2 u (.lst ((ms.take 60).map V.ref))) := Keep.refl.new nu
    refine k u _ _ upd_same (fun c hc => ?_) (hB2.keep k4) (((hk.trans k2.weak0).trans k3).trans k4.weak0)
    have hcm : c ∈ cs := pm2.mem_iff.mp (List.mem_of_mem_take hc)
    obtain ⟨⟨S, h1, h2⟩, h3⟩ := hcs c hcm
    exact ⟨S, k4.at0 (k3.atB (k2.at0 h1) (hB.off h3)), h2⟩
end
/-! Hooks. -/
open PySem PySem.Spec PyProof.Rows L2
abbrev s_fits : Stmt := top 7
theorem sc_fits : FnScope ["sort", "thing"] ["sort", "thing"] (defScope s_fits) := ⟨rfl, rfl, rfl, by decide +kernel, rfl, by decide +kernel, by decide +kernel⟩
abbrev s_Hook_look_param : Stmt := inClass (top 28) 2
theorem sc_Hook_look_param : FnScope ["self", "at", "name", "sort", "default", "elder", "param"] ["self", "at"] (defScope s_Hook_look_param) := ⟨rfl, rfl, rfl, by decide +kernel, rfl, by decide +kernel, by decide +kernel⟩
abbrev s_Hook_look : Stmt := inClass (top 28) 1
theorem sc_Hook_look : FnScope ["self", "at"] ["self"] (defScope s_Hook_look) := ⟨rfl, rfl, rfl, by decide +kernel, rfl, by decide +kernel, by decide +kernel⟩
abbrev s_Hook_init : Stmt := inClass (top 28) 0
theorem sc_Hook_init : FnScope ["self", "name", "kind", "params", "only", "gives", "param"] ["self", "name", "kind", "params", "only", "gives"] (defScope s_Hook_init) := ⟨rfl, rfl, rfl, by decide +kernel, rfl, by decide +kernel, by decide +kernel⟩
def KEPTL : List Str := ["if", "then", "else", "not", "both", "and", "either", "or", "is", "none", "fail", "ask", "with", "giving", "failing", "inner", "unanswered"]
def SORTL : List Str := ["number", "word"]
def KINDL : List Str := ["first", "through", "each"]
structure Txt6 (K : PySem.W.Frag) (mg : Str → Option Value) (hC oA : Addr) : Prop extends Txt5 K mg where
  d_fits : HasDef K mg "fits" s_fits [] []
  v_KEPT : ∃ u, mg "KEPT" = some u ∧ RelV (.ref (He.ga K "KEPT")) u
  v_SORTS : ∃ u, mg "SORTS" = some u ∧ RelV (.ref (He.ga K "SORTS")) u
  v_KINDS : ∃ u, mg "KINDS" = some u ∧ RelV (.ref (He.ga K "KINDS")) u
  t_KEPT : ∀ H, SqT K H (He.ga K "KEPT") (KEPTL.map V.str)
  t_SORTS : ∀ H, SqT K H (He.ga K "SORTS") (SORTL.map V.str)
  t_KINDS : ∀ H, SqT K H (He.ga K "KINDS") (KINDL.map V.str)
  n_h : ∀ x ∈ (["name", "kind", "gives", "params", "only", "names"] : List Str), NoAttr K hC x
  m_look : HasMeth K hC "look" "Hook.look" s_Hook_look [] []
  m_look_param : HasMeth K hC "look_param" "Hook.look_param" s_Hook_look_param [] []
  i_Hook : HasInit K mg "Hook" hC "Hook.__init__" s_Hook_init [] [("only", .ref oA), ("gives", .str "number")]
/-- a hook -/
structure HookD where
  name : Str
  kind : Str
  gw : Bool
  ps : List (Str × Bool)
  os : List (Str × Bool)
def HookD.all (d : HookD) : List (Str × Bool) := d.ps ++ d.os
structure HookOk (d : HookD) : Prop where
  nm : isNm d.name = true
  kd : d.kind = "first" ∨ d.kind = "through" ∨ d.kind = "each"
  ns : ∀ p ∈ d.all, isNm p.1 = true ∧ p.1 ∉ KEPTL
  nd : (d.all.map (·.1)).Nodup
  le : d.all.length ≤ 3
  th : d.kind = "through" → ∃ p r, d.ps = p :: r ∧ p.2 = d.gw
def hkF (d : HookD) (p o n : Addr) : List (Str × V) := [("name", .str d.name), ("kind", .str d.kind), ("gives", .str (srt d.gw)), ("params", .ref p), ("only", .ref o), ("names", .ref n)]
/-- a hook's object -/
structure HookAt (K : PySem.W.Frag) (hC : Addr) (H : Hp) (h : Addr) (d : HookD) : Prop where
  ex : ∃ (dx p o n : Addr) (xs ys : List V), H h = some (.ins hC dx (hkF d p o n)) ∧ SqT K H p xs ∧ Paired (fun q x => TrAt K H x q) d.ps xs ∧ SqT K H o ys ∧ Paired (fun q x => TrAt K H x q) d.os ys ∧ SqT K H n ((d.all.map (·.1)).map V.str)
theorem HookAt.keep {K : PySem.W.Frag} {hC : Addr} {H H' : Hp} {h : Addr} {d : HookD} (k : Kp0 H H') (x : HookAt K hC H h d) : HookAt K hC H' h d := by
  obtain ⟨dx, p, o, n, xs, ys, h1, h2, h3, h4, h5, h6⟩ := x.ex
  exact ⟨dx, p, o, n, xs, ys, k.at0 h1, k.sqt0 h2, paired_imp (fun _ _ z => z.keep k) h3, k.sqt0 h4, paired_imp (fun _ _ z => z.keep k) h5, k.sqt0 h6⟩
theorem paired_append {α β : Type} {F : α → β → Prop} : ∀ {l m : List α} {l' m' : List β}, Paired F l l' → Paired F m m' → Paired F (l ++ m) (l' ++ m')
  | _, _, _, _, .nil, h => h
  | _, _, _, _, .cons r t, h => .cons r (paired_append t h)
section
variable {P : Program} {w : World} {K : PySem.W.Frag} {mg : Str → Option Value} {base : Heap} {hC oA : Addr}
theorem inF {x : Str} {xs : List Str} (h : x ∉ xs) : ¬ (if false = true then !inV (.str x) (xs.map V.str) else inV (.str x) (xs.map V.str)) = true := fun z => by
  have z' : inV (.str x) (xs.map V.str) = true := z
  rw [inV_str] at z'
  exact h (of_decide_eq_true z')
theorem notInF {x : Str} {xs : List Str} (h : x ∈ xs) : ¬ (if true = true then !inV (.str x) (xs.map V.str) else inV (.str x) (xs.map V.str)) = true := fun z => by
  have z' : (!inV (.str x) (xs.map V.str)) = true := z
  rw [inV_str, decide_eq_true h] at z'
  cases z'
theorem kd_in {k : Str} (h : k = "first" ∨ k = "through" ∨ k = "each") : k ∈ KINDL := by
  rcases h with rfl | rfl | rfl <;> decide
theorem srt_in (w : Bool) : srt w ∈ SORTL := by cases w <;> decide
theorem slA_take {H : Hp} {a : Addr} {xs : List V} (hA : SqT K H a xs) (i : Nat) {Q : VK} (k : ∀ q H', SqT K H' q (xs.take i) → Kp0 H H' → Q (.ref q) H') : rSlA K (.ref a) none (some (i : Int)) H Q := by
  refine ⟨a, xs, rfl, hA, fun h => ?_, fun h p np => ?_⟩
  · have e := h.2
    rw [HT.sIx_nat] at e
    exact k a H (by rw [List.take_of_length_le (by omega)]; exact hA) .refl
  · rw [cut_take]
    exact k p _ (.of upd_same) (Keep.refl.new np)
theorem Txt6.c_fits (T : Txt6 K mg hC oA) : C8.Cal P w K mg base 1 "fits" (fun _ _ _ _ => False) [] :=
  cal_of T.d_fits sc_fits (fun _ _ _ _ _ _ us hl => match us, hl with | [_, _], _ => rfl) (fun vs H Q E h => h.elim) (fun f cdv A outer s H vs Q E hr h => h.elim)
def spLookParam (K : PySem.W.Frag) (hC : Addr) : Sp := fun vs H Q _ => ∃ (h : Addr) (d : HookD) (i : Nat), vs = [.ref h, .int (i : Int)] ∧ HookAt K hC H h d ∧ HookOk d ∧ i < d.all.length ∧ ∀ H', Kp0 H H' → Q .non H'
theorem Txt6.c_Hook_look_param (T : Txt6 K mg hC oA) : C8.Met P w K mg base 2 hC "look_param" (spLookParam K hC) [] := by
  refine met_of T.m_look_param sc_Hook_look_param (fun _ _ _ _ _ _ us hl => match us, hl with | [_, _], _ => rfl) (fun vs H Q E h => ?_) (fun f cdv A outer s H vs Q E hr h => ?_)
  · obtain ⟨h, d, i, rfl, _⟩ := h
    rfl
  obtain ⟨h, d, i, rfl, hH, ok, hi, k⟩ := h
  refine ⟨_, (pss_cons (ps_asg (pe_ix ix_tup (pe_tup (StX.pa_star (pe_fld (pv 0) rfl) (StX.pa_star (pe_fld (pv 0) rfl) pa_nil))) (pv 1) (fun _ _ => rfl)) (pg_tup rfl (pgs_cons (pg_name (i := 2) sc_Hook_look_param.nd rfl (by first | exact .inl rfl | exact .inr rfl)) (pgs_cons (pg_name (i := 3) sc_Hook_look_param.nd rfl (by first | exact .inl rfl | exact .inr rfl)) (pgs_cons (pg_name (i := 4) sc_Hook_look_param.nd rfl (by first | exact .inl rfl | exact .inr rfl)) pgs_nil)))))
      (pss_cons (ps_if (PW.pt (pw_or (pt_not (pt_val (C8.pe_c T.c_is_name hr (by decide) (by rfl) (pa_cons (pv 2) pa_nil)))) (pw_or1 (pt_cmpR op_in_seq (pv 2) (C8.pe_gc (by rfl) T.v_KEPT) (by rfl))))) (pss_one ps_never) pss_nil)
      (pss_cons (ps_if (pt_cmpR op_in_seq (pv 2) (pe_slice sl_tupA (pe_fld (pv 0) rfl) po_none (po_some (pv 1))) (by rfl)) (pss_one ps_never) pss_nil)
      (pss_cons (ps_if (pt_cmpR op_notIn_seq (pv 3) (C8.pe_gc (by rfl) T.v_SORTS) (by rfl)) (pss_one ps_never) pss_nil)
      (pss_cons (ps_if (PW.pt (pw_and (pt_cmpR op_notN (pv 4) pe_non (nomark _)) (pw_and1 (pt_not (pt_val (C8.pe_c T.c_fits hr (by decide) (by rfl) (pa_cons (pv 3) (pa_cons (pv 4) pa_nil)))))))) (pss_one ps_never) pss_nil)
      (pss_cons (ps_setLc (i := 5) (own := [("param", 6)]) rfl sc_Hook_look_param.nd rfl rfl (sw_true rfl rfl rfl (by decide +kernel)) (pi_tup (pe_slice sl_tupA (pe_fld (pv 0) rfl) po_none (po_some (pv 1)))) (blkOk_by (own := [("param", 6)]) (N := ["self", "at", "name", "sort", "default", "elder", "param"]) (sc := defScope s_Hook_look_param) (by decide +kernel)) (fun _ _ _ _ _ => (pg_name (i := 6) sc_Hook_look_param.nd rfl (by first | exact .inl rfl | exact .inr rfl))) (fun _ _ _ _ _ => (pts_one (pt_cmpR op_notN (pe_ix ix_tupB (pv 6) pe_int (fun _ _ => rfl)) pe_non (nomark _)))) (fun _ _ _ _ _ => (pv 6)))
      (pss_one (ps_if (PW.pt (pw_and (pt_cmpR op_lt (pv 1) (pe_callB call_len (by rfl) T.f_len (by decide +kernel) (pa_cons (pe_fld (pv 0) rfl) pa_nil)) (nomark _)) (pw_and (pt_cmpR op_isN (pv 4) pe_non (nomark _)) (pw_and1 (pt_cmpR (op_neD hr.units) (pv 5) (pe_lst pa_nil) (nomark _)))))) (pss_one ps_never) pss_nil)))))))), ?_⟩
  obtain ⟨dx, p, o, n, xs, ys, h1, h2, h3, h4, h5, h6⟩ := hH.ex
  have cl := T.m_look.cl
  obtain ⟨q, hq⟩ : ∃ q, d.all[i]? = some q := ⟨_, List.getElem?_eq_getElem hi⟩
  obtain ⟨x, hx, t, rfl, ht⟩ := paired_get1 (paired_append h3 h5) hq
  have hlen := ok.le
  have hxl : xs.length = d.ps.length := (Paired.length h3).symm
  have hyl : ys.length = d.os.length := (Paired.length h5).symm
  have hal : d.all.length = d.ps.length + d.os.length := List.length_append
  have oks := ok.ns q (List.mem_of_getElem? hq)
  refine ⟨_, rfl, h, hC, dx, _, .ref p, rfl, h1, cl, T.n_h _ (by decide), rfl, p, xs, rfl, .inl h2, _, rfl, h, hC, dx, _, .ref o, rfl, h1, cl, T.n_h _ (by decide), rfl, o, ys, rfl, .inl h4, by rw [List.append_nil, List.length_append, sizeLine_eq]; omega, fun tp ntp => ?_⟩
  rw [List.append_nil]
  have k1 : Kp0 H (upd H tp (.tup (xs ++ ys))) := Keep.refl.new ntp
  refine ⟨_, rfl, tp, _, i, .ref t, rfl, rfl, .of upd_same, at_of (j := i) (by omega) hx, ?_⟩
  refine ⟨t, _, rfl, k1.sqt0 ht, rfl, _, _, rfl, _, _, rfl, _, _, rfl, rfl, ?_⟩
  revert k1
  generalize upd H tp (.tup (xs ++ ys)) = H1
  intro k1
  -- the name
  refine ⟨_, rfl, q.1, rfl, oks.1, fun H2 k2' => ⟨_, rfl, ite2 (fun z => absurd z (by decide)) (fun _ => ?_)⟩⟩
  have k2 := k1.trans k2'
  refine ⟨_, rfl, _, _, rfl, .inr (T.t_KEPT _), rfl, flat_strs _, _, rfl, ite2 (fun z => absurd z (inF oks.2)) (fun _ => ?_)⟩
  -- not twice
  refine ⟨_, rfl, _, rfl, h, hC, dx, _, .ref n, rfl, k2.at0 h1, cl, T.n_h _ (by decide), rfl, _, rfl, i, rfl, slA_take (k2.sqt0 h6) i fun n2 H3 hn2 k3' => ?_⟩
  have k3 := k2.trans k3'
  rw [← List.map_take] at hn2
  have hnt : q.1 ∉ (d.all.map (·.1)).take i := fun z => by
    have e : (d.all.map (·.1)).take (i + 1) = (d.all.map (·.1)).take i ++ [q.1] := by rw [List.take_add_one, List.getElem?_map, hq]; rfl
    have nd2 : ((d.all.map (·.1)).take (i + 1)).Nodup := ok.nd.sublist (List.take_sublist _ _)
    rw [e, List.nodup_append] at nd2
    exact nd2.2.2 _ z _ (List.mem_singleton.mpr rfl) rfl
  refine ⟨n2, _, rfl, .inr hn2, rfl, flat_strs _, _, rfl, ite2 (fun z => absurd z (inF hnt)) (fun _ => ?_)⟩
  -- the sort
  refine ⟨_, rfl, _, _, rfl, .inr (T.t_SORTS _), rfl, flat_strs _, _, rfl, ite2 (fun z => absurd z (notInF (srt_in q.2))) (fun _ => ?_)⟩
  refine ⟨_, rfl, rfl, _, rfl, ite2 (fun z => absurd z (by decide)) (fun _ => iteF ?_)⟩
  -- elder ones with a default: none
  refine ⟨_, rfl, h, hC, dx, _, .ref p, rfl, k3.at0 h1, cl, T.n_h _ (by decide), rfl, _, rfl, i, rfl, slA_take (k3.sqt0 h2) i fun p2 H4 hp2 k4' => ⟨p2, rfl, ⟨_, hp2⟩, fun D nD => ?_⟩⟩
  have k4 := k3.trans k4'
  refine lc_tup (xs := xs.take i) (fun j H' => H' D = some (.lst []) ∧ Kp0 H4 H') ⟨upd_same, Keep.refl.new nD⟩ (fun j H' _ ⟨_, kk⟩ => kk.sqt0 hp2) ?_ ?_
  · rintro j x H5 hx5 ⟨hD, kk⟩
    have hxm : x ∈ xs := List.mem_of_mem_take (List.mem_of_getElem? hx5)
    obtain ⟨j', hj'⟩ := List.getElem?_of_mem hxm
    obtain ⟨q', _, t', rfl, ht'⟩ := paired_get h3 hj'
    refine ⟨rfl, _, rfl, t', _, 2, .non, rfl, rfl, (k4.trans kk).sqt0 ht', rfl, rfl, _, rfl, ?_⟩
    exact ite2 (fun z => absurd z (by decide)) (fun _ => ⟨hD, kk⟩)
  · rintro H5 ⟨hD, kk⟩
    have k5 := k4.trans kk
    refine ⟨_, rfl, _, rfl, h, hC, dx, _, .ref p, rfl, k5.at0 h1, cl, T.n_h _ (by decide), rfl, _, _, rfl, .inr ⟨xs, k5.sqt0 h2, rfl⟩, _, _, rfl, rfl, _, rfl, ite2 (fun _ => ?_) (fun _ => iteF (k H5 k5))⟩
    refine ⟨_, rfl, rfl, _, rfl, ite2 (fun _ => ?_) (fun z => absurd (by decide) z)⟩
    refine ⟨_, rfl, (by show 0 ≤ _; omega), fun R nR => ?_⟩
    have k6 : Kp0 H5 (upd H5 R (.lst [])) := Keep.refl.new nR
    exact ⟨.list [], .list [], .lst (.of (k6.at0 hD)) .nil, .lst (.of upd_same) .nil, by decide +kernel, by decide +kernel, _, rfl, ite2 (fun z => absurd z (by decide +kernel)) (fun _ => k _ (k5.trans k6))⟩
def spLook (K : PySem.W.Frag) (hC : Addr) : Sp := fun vs H Q _ => ∃ (h : Addr) (d : HookD), vs = [.ref h] ∧ HookAt K hC H h d ∧ HookOk d ∧ ∀ H', Kp0 H H' → Q .non H'
theorem Txt6.c_Hook_look (T : Txt6 K mg hC oA) : C8.Met P w K mg base 3 hC "look" (spLook K hC) [] := by
  refine met_of T.m_look sc_Hook_look (fun _ _ _ _ _ _ us hl => match us, hl with | [_], _ => rfl) (fun vs H Q E h => ?_) (fun f cdv A outer s H vs Q E hr h => ?_)
  · obtain ⟨h, d, rfl, _⟩ := h
    rfl
  obtain ⟨h, d, rfl, hH, ok, k⟩ := h
  refine ⟨_, (pss_cons (ps_if (pt_not (pt_val (C8.pe_c T.c_is_name hr (by decide) (by rfl) (pa_cons (pe_fld (pv 0) rfl) pa_nil)))) (pss_one ps_never) pss_nil)
      (pss_cons (ps_if (pt_cmpR op_notIn_seq (pe_fld (pv 0) rfl) (C8.pe_gc (by rfl) T.v_KINDS) (by rfl)) (pss_one ps_never) pss_nil)
      (pss_cons (ps_for PassesOwn.never rfl (pi_range1 (by rfl) (T.f_range) (pa_cons (pe_callB call_len (by rfl) T.f_len (by decide +kernel) (pa_cons (pe_fld (pv 0) rfl) pa_nil)) pa_nil)) (pg_name (i := 1) sc_Hook_look.nd rfl (by first | exact .inl rfl | exact .inr rfl)) (pss_one (ps_expr (C8.pe_mt T.c_Hook_look_param hr (by decide) (pv 0) (pa_cons (pv 1) pa_nil)))))
      (pss_cons (ps_if (pt_cmpR op_gt (pe_callB call_len (by rfl) T.f_len (by decide +kernel) (pa_cons (pe_fld (pv 0) rfl) pa_nil)) pe_int (nomark _)) (pss_one ps_never) pss_nil)
      (pss_cons (ps_if (PW.pt (pw_and (pt_cmpR op_eq (pe_fld (pv 0) rfl) pe_str (nomark _)) (pw_and1 (PW.pt (pw_or (pt_cmpR op_eq (pe_callB call_len (by rfl) T.f_len (by decide +kernel) (pa_cons (pe_fld (pv 0) rfl) pa_nil)) pe_int (nomark _)) (pw_or1 (pt_cmpR op_notN (pe_ix ix_tup (pe_ix ix_tup (pe_fld (pv 0) rfl) pe_int (fun _ _ => rfl)) pe_int (fun _ _ => rfl)) pe_non (nomark _)))))))) (pss_one ps_never) pss_nil)
      (pss_one (ps_if (PW.pt (pw_or (pt_cmpR op_notIn_seq (pe_fld (pv 0) rfl) (C8.pe_gc (by rfl) T.v_SORTS) (by rfl)) (pw_or1 (PW.pt (pw_and (pt_cmpR op_eq (pe_fld (pv 0) rfl) pe_str (nomark _)) (pw_and1 (pt_cmpR op_ne (pe_fld (pv 0) rfl) (pe_ix ix_tup (pe_ix ix_tup (pe_fld (pv 0) rfl) pe_int (fun _ _ => rfl)) pe_int (fun _ _ => rfl)) (nomark _)))))))) (pss_one ps_never) pss_nil))))))), ?_⟩
  obtain ⟨dx, p, o, n, xs, ys, h1, h2, h3, h4, h5, h6⟩ := hH.ex
  have cl := T.m_look.cl
  have hlen := ok.le
  refine ⟨_, rfl, h, hC, dx, _, .str d.name, rfl, h1, cl, T.n_h _ (by decide), rfl, d.name, rfl, ok.nm, fun H1 k1 => ⟨_, rfl, ite2 (fun z => absurd z (by decide)) (fun _ => ?_)⟩⟩
  refine ⟨_, rfl, h, hC, dx, _, .str d.kind, rfl, k1.at0 h1, cl, T.n_h _ (by decide), rfl, _, _, rfl, .inr (T.t_KINDS _), rfl, flat_strs _, _, rfl, ite2 (fun z => absurd z (notInF (kd_in ok.kd))) (fun _ => ?_)⟩
  have hnl : ((d.all.map (·.1)).map V.str).length = d.all.length := by rw [List.length_map, List.length_map]
  refine ⟨_, rfl, h, hC, dx, _, .ref n, rfl, k1.at0 h1, cl, T.n_h _ (by decide), rfl, _, _, rfl, .inr ⟨_, k1.sqt0 h6, rfl⟩, _, rfl, by omega, by omega, ?_⟩
  rw [Int.toNat_natCast, hnl]
  refine for_range (lo := 0) (n := d.all.length) (fun i σ H' => ∃ y, σ = [some (.ref h), y] ∧ Kp0 H H') ⟨none, rfl, k1⟩ ?_ ?_
  · rintro i σ H2 hi ⟨y, rfl, k2⟩
    refine ⟨_, rfl, h, dx, _, rfl, k2.at0 h1, rfl, _, rfl, h, d, i, by rw [Int.zero_add]; rfl, hH.keep k2, ok, hi, fun H3 k3 => ⟨_, rfl, k2.trans k3⟩⟩
  · rintro σ H2 ⟨y, rfl, k2⟩
    refine ⟨_, rfl, h, hC, dx, _, .ref n, rfl, k2.at0 h1, cl, T.n_h _ (by decide), rfl, _, _, rfl, .inr ⟨_, k2.sqt0 h6, rfl⟩, _, _, rfl, rfl, _, rfl, ite2 (fun z => ?_) (fun _ => ?_)⟩
    · have := of_decide_eq_true z
      omega
    have ksel : ∀ c : Prop, (d.kind = "through" → c) → decide (V.str d.kind = V.str "through") = true → c := fun c f z => f (V.str.inj (of_decide_eq_true z))
    refine ⟨_, rfl, h, hC, dx, _, .str d.kind, rfl, k2.at0 h1, cl, T.n_h _ (by decide), rfl, rfl, _, rfl, ite2 (fun z => ksel _ (fun hk => ?_) z) (fun hk => iteF ?_)⟩
    · obtain ⟨q, r, e, hw⟩ := ok.th hk
      obtain ⟨x, hx, t, rfl, ht⟩ := paired_get1 h3 (i := 0) (x := q) (by rw [e]; rfl)
      have hx0 : atI xs 0 = some (.ref t) := at_of (j := 0) (by omega) hx
      have hl0 : xs.length ≠ 0 := fun z => by rw [List.length_eq_zero_iff.mp z] at hx; cases hx
      refine ⟨_, rfl, h, hC, dx, _, .ref p, rfl, k2.at0 h1, cl, T.n_h _ (by decide), rfl, _, _, rfl, .inr ⟨xs, k2.sqt0 h2, rfl⟩, rfl, _, rfl, ite2 (fun z => ?_) (fun _ => ?_)⟩
      · have := V.int.inj (of_decide_eq_true z)
        exact absurd this (by omega)
      refine ⟨_, rfl, h, hC, dx, _, .ref p, rfl, k2.at0 h1, cl, T.n_h _ (by decide), rfl, p, xs, 0, .ref t, rfl, rfl, k2.sqt0 h2, hx0, t, _, 2, .non, rfl, rfl, k2.sqt0 ht, rfl, rfl, _, rfl, ite2 (fun z => absurd z (by decide)) (fun _ => ?_)⟩
      refine ⟨_, rfl, h, hC, dx, _, .str (srt d.gw), rfl, k2.at0 h1, cl, T.n_h _ (by decide), rfl, _, _, rfl, .inr (T.t_SORTS _), rfl, flat_strs _, _, rfl, ite2 (fun z => absurd z (notInF (srt_in _))) (fun _ => ?_)⟩
      refine ⟨_, rfl, h, hC, dx, _, .str d.kind, rfl, k2.at0 h1, cl, T.n_h _ (by decide), rfl, rfl, _, rfl, ite2 (fun z => ?_) (fun z => absurd (decide_eq_true (by rw [hk])) z)⟩
      refine ⟨_, rfl, h, hC, dx, _, .str (srt d.gw), rfl, k2.at0 h1, cl, T.n_h _ (by decide), rfl, _, rfl, h, hC, dx, _, .ref p, rfl, k2.at0 h1, cl, T.n_h _ (by decide), rfl, p, xs, 0, .ref t, rfl, rfl, k2.sqt0 h2, hx0, t, _, 1, .str (srt q.2), rfl, rfl, k2.sqt0 ht, rfl, rfl, _, rfl, ite2 (fun z => ?_) (fun _ => k H2 k2)⟩
      rw [hw] at z
      exact absurd z (by cases d.gw <;> decide)
    · refine ⟨_, rfl, h, hC, dx, _, .str (srt d.gw), rfl, k2.at0 h1, cl, T.n_h _ (by decide), rfl, _, _, rfl, .inr (T.t_SORTS _), rfl, flat_strs _, _, rfl, ite2 (fun z => absurd z (notInF (srt_in _))) (fun _ => ?_)⟩
      exact ⟨_, rfl, h, hC, dx, _, .str d.kind, rfl, k2.at0 h1, cl, T.n_h _ (by decide), rfl, rfl, _, rfl, ite2 (fun z => absurd z hk) (fun _ => iteF (k H2 k2))⟩
theorem Keep.mutx {x : Addr} {H H1 : Hp} {o : HO} (k : Keep (fun c => c = x) H H1) : Keep (fun c => c = x) H (upd H1 x o) := Keep.mut (M := fun c => c = x) k rfl
def SqA (K : PySem.W.Frag) (H : Hp) (a : Addr) (xs : List V) : Prop := SqL K H a xs ∨ SqT K H a xs
def spHookI (K : PySem.W.Frag) (hC : Addr) : Sp := fun vs H Q _ => ∃ (x dx pa oa : Addr) (d : HookD) (xs ys : List V), vs = [.ref x, .str d.name, .str d.kind, .ref pa, .ref oa, .str (srt d.gw)] ∧ H x = some (.ins hC dx []) ∧
  SqA K H pa xs ∧ Paired (fun q x => PrAt K H x q) d.ps xs ∧ SqA K H oa ys ∧ Paired (fun q x => PrAt K H x q) d.os ys ∧ HookOk d ∧ ∀ H', HookAt K hC H' x d → Keep (fun c => c = x) H H' → Q .non H'
theorem Txt6.c_Hook_init (T : Txt6 K mg hC oA) {f : Addr} {fd : FuncData} (F : FunD K "__init__" "Hook.__init__" (defArgs s_Hook_init) (defBody s_Hook_init) (defScope s_Hook_init) [] [("only", .ref oA), ("gives", .str "number")] f fd) :
    FnOk P w K mg base CX0 4 f fd ["self", "name", "kind", "params", "only", "gives"] (spHookI K hC) := by
  refine ok0 F sc_Hook_init (fun vs H Q E h => ?_) (fun cdv A outer s H vs Q E hr h => ?_)
  · obtain ⟨x, dx, pa, oa, d, xs, ys, rfl, _⟩ := h
    rfl
  obtain ⟨x, dx, pa, oa, d, xs, ys, rfl, hx, hP, hp, hO, ho, ok, k⟩ := h
  refine ⟨_, (pss_cons (ps_fld (pv 0) (pv 1) rfl)
      (pss_cons (ps_fld (pv 0) (pv 2) rfl)
      (pss_cons (ps_fld (pv 0) (pv 5) rfl)
      (pss_cons (ps_fld (pv 0) (pe_callTy call_tuple_of (by rfl) T.f_tuple (by decide +kernel) (pa_cons (pe_lc (own := [("param", 6)]) rfl sc_Hook_init.nd (pi_seq (pv 3)) (blkOk_by (own := [("param", 6)]) (N := ["self", "name", "kind", "params", "only", "gives", "param"]) (sc := defScope s_Hook_init) (by decide +kernel)) (fun _ _ _ _ _ => (pg_name (i := 6) sc_Hook_init.nd rfl (by first | exact .inl rfl | exact .inr rfl))) (fun _ _ _ _ _ => pts_nil) (fun _ _ _ _ _ => (C8.pe_c T.c_whole hr (by decide) (by rfl) (pa_cons (pv 6) pa_nil)))) pa_nil)) rfl)
      (pss_cons (ps_fld (pv 0) (pe_callTy call_tuple_of (by rfl) T.f_tuple (by decide +kernel) (pa_cons (pe_lc (own := [("param", 6)]) rfl sc_Hook_init.nd (pi_seq (pv 4)) (blkOk_by (own := [("param", 6)]) (N := ["self", "name", "kind", "params", "only", "gives", "param"]) (sc := defScope s_Hook_init) (by decide +kernel)) (fun _ _ _ _ _ => (pg_name (i := 6) sc_Hook_init.nd rfl (by first | exact .inl rfl | exact .inr rfl))) (fun _ _ _ _ _ => pts_nil) (fun _ _ _ _ _ => (C8.pe_c T.c_whole hr (by decide) (by rfl) (pa_cons (pv 6) pa_nil)))) pa_nil)) rfl)
      (pss_cons (ps_fld (pv 0) (pe_callTy call_tuple_of (by rfl) T.f_tuple (by decide +kernel) (pa_cons (pe_lc (own := [("param", 6)]) rfl sc_Hook_init.nd (pi_tup (pe_tup (StX.pa_star (pe_fld (pv 0) rfl) (StX.pa_star (pe_fld (pv 0) rfl) pa_nil)))) (blkOk_by (own := [("param", 6)]) (N := ["self", "name", "kind", "params", "only", "gives", "param"]) (sc := defScope s_Hook_init) (by decide +kernel)) (fun _ _ _ _ _ => (pg_name (i := 6) sc_Hook_init.nd rfl (by first | exact .inl rfl | exact .inr rfl))) (fun _ _ _ _ _ => pts_nil) (fun _ _ _ _ _ => (pe_ix ix_tupB (pv 6) pe_int (fun _ _ => rfl)))) pa_nil)) rfl)
      (pss_one (ps_expr (C8.pe_mt0 T.c_Hook_look hr (by decide) (pv 0)))))))))), ?_⟩
  have cl := T.m_look.cl
  refine ⟨_, rfl, _, rfl, x, hC, dx, _, rfl, hx, cl, T.n_h _ (by decide), by decide, ?_⟩
  refine ⟨_, rfl, _, rfl, x, hC, dx, _, rfl, upd_same, cl, T.n_h _ (by decide), (by show 1 < 1000; omega), ?_⟩
  refine ⟨_, rfl, _, rfl, x, hC, dx, _, rfl, upd_same, cl, T.n_h _ (by decide), (by show 2 < 1000; omega), ?_⟩
  have kx0 : Keep (fun c => c = x) H (upd (upd (upd H x (.ins hC dx (putF "name" (.str d.name) []))) x (.ins hC dx (putF "kind" (.str d.kind) (putF "name" (.str d.name) [])))) x (.ins hC dx (putF "gives" (.str (srt d.gw)) (putF "kind" (.str d.kind) (putF "name" (.str d.name) []))))) := Keep.mutx (Keep.mutx (Keep.mutx Keep.refl))
  have hx0 : (upd (upd (upd H x (.ins hC dx (putF "name" (.str d.name) []))) x (.ins hC dx (putF "kind" (.str d.kind) (putF "name" (.str d.name) [])))) x (.ins hC dx (putF "gives" (.str (srt d.gw)) (putF "kind" (.str d.kind) (putF "name" (.str d.name) []))))) x = some (.ins hC dx [("name", .str d.name), ("kind", .str d.kind), ("gives", .str (srt d.gw))]) := upd_same
  revert kx0 hx0
  generalize upd (upd (upd H x (.ins hC dx (putF "name" (.str d.name) []))) x (.ins hC dx (putF "kind" (.str d.kind) (putF "name" (.str d.name) [])))) x (.ins hC dx (putF "gives" (.str (srt d.gw)) (putF "kind" (.str d.kind) (putF "name" (.str d.name) [])))) = H0
  intro kx0 hx0
  have hxl : xs.length = d.ps.length := (Paired.length hp).symm
  have hyl : ys.length = d.os.length := (Paired.length ho).symm
  have hal : d.ps.length + d.os.length ≤ 3 := by rw [← List.length_append]; exact ok.le
  have step : ∀ (i : Nat) (a : Addr) (zs : List V) (qs : List (Str × Bool)) (H1 : Hp) (Q' : VK), ([some (.ref x), some (.str d.name), some (.str d.kind), some (.ref pa), some (.ref oa), some (.str (srt d.gw)), none] : L2.St)[i]? = some (some (.ref a)) → SqA K H1 a zs → Paired (fun q x => PrAt K H1 x q) qs zs → zs.length ≤ 3 →
      (∀ D us H2, H2 D = some (.lst us) → Paired (fun q x => TrAt K H2 x q) qs us → Kp0 H1 H2 → Q' (.ref D) H2) →
      tLc (iSeq K (tVar i)) (gName 6) tYes (tCall (spWhole K) [] C8.E0 (tCons (tVar 6) tNil)) [6] [some (.ref x), some (.str d.name), some (.str d.kind), some (.ref pa), some (.ref oa), some (.str (srt d.gw)), none] H1 Q' := by
    intro i a zs qs H1 Q' hi hA hq hz kk
    have hzl : zs.length = qs.length := (Paired.length hq).symm
    have turn : ∀ (D : Addr) (j : Nat) (y : V) (H2 : Hp), H1 D = none → zs[j]? = some y → (∃ us, H2 D = some (.lst us) ∧ us.length = j ∧ Paired (fun q x => TrAt K H2 x q) (qs.take j) us ∧ Kp0 H1 H2) →
        ∃ q, PrAt K H2 y q ∧ ∀ w H3, TrAt K H3 w q → Kp0 H2 H3 → ∃ acc, H3 D = some (.lst acc) ∧ acc.length < sizeLine ∧ ∃ us, upd H3 D (.lst (acc ++ [w])) D = some (.lst us) ∧ us.length = j + 1 ∧ Paired (fun q x => TrAt K (upd H3 D (.lst (acc ++ [w]))) x q) (qs.take (j + 1)) us ∧ Kp0 H1 (upd H3 D (.lst (acc ++ [w]))) := by
      rintro D j y H2 nD hy ⟨us, hD, hul, hp2, k2⟩
      obtain ⟨q, hq1, hq2⟩ := paired_get hq hy
      have hjl : j < zs.length := (List.getElem?_eq_some_iff.mp hy).1
      refine ⟨q, hq2.keep k2, fun w H3 hw k3 => ⟨us, k3.at0 hD, small1000 (by omega), us ++ [w], upd_same, by rw [List.length_append, hul]; rfl, ?_, (k2.trans k3).own nD⟩⟩
      rw [List.take_add_one, hq1]
      have tl : ∀ {v : V} {r : Str × Bool}, TrAt K H3 v r → TrAt K (upd H3 D (.lst (us ++ [w]))) v r := fun ⟨t, e, h⟩ => ⟨t, e, SqT.list h (k3.at0 hD)⟩
      exact Paired.snoc (paired_imp (fun _ _ z => tl (z.keep k3)) hp2) (tl hw)
    have fin : ∀ D H2, (∃ us, H2 D = some (.lst us) ∧ us.length = zs.length ∧ Paired (fun q x => TrAt K H2 x q) (qs.take zs.length) us ∧ Kp0 H1 H2) → Q' (.ref D) H2 := by
      rintro D H2 ⟨us, hD, _, hp2, k2⟩
      rw [hzl, List.take_length] at hp2
      exact kk D us H2 hD hp2 k2
    rcases hA with hA | hA
    · refine ⟨_, hi, a, rfl, .inl ⟨⟨_, hA⟩, fun D nD => ?_⟩⟩
      refine lc_list (xs := zs) (fun j H2 => ∃ us, H2 D = some (.lst us) ∧ us.length = j ∧ Paired (fun q x => TrAt K H2 x q) (qs.take j) us ∧ Kp0 H1 H2) ⟨[], upd_same, rfl, .nil, Keep.refl.new nD⟩ (fun j H2 _ ⟨_, _, _, _, k2⟩ => k2.sql0 hA) (fun j y H2 hy h => ?_) (fun H2 h => fin D H2 h)
      obtain ⟨q, h1, h2⟩ := turn D j y H2 nD hy h
      exact ⟨rfl, _, rfl, y, q, rfl, h1, h2⟩
    · refine ⟨_, hi, a, rfl, .inr ⟨⟨_, hA⟩, fun D nD => ?_⟩⟩
      refine lc_tup (xs := zs) (fun j H2 => ∃ us, H2 D = some (.lst us) ∧ us.length = j ∧ Paired (fun q x => TrAt K H2 x q) (qs.take j) us ∧ Kp0 H1 H2) ⟨[], upd_same, rfl, .nil, Keep.refl.new nD⟩ (fun j H2 _ ⟨_, _, _, _, k2⟩ => k2.sqt0 hA) (fun j y H2 hy h => ?_) (fun H2 h => fin D H2 h)
      obtain ⟨q, h1, h2⟩ := turn D j y H2 nD hy h
      exact ⟨rfl, _, rfl, y, q, rfl, h1, h2⟩
  have isx : ∀ a o, H a = some o → (∀ dx fs, o ≠ .ins hC dx fs) → ¬ a = x := fun a o e n z => by
    rw [z, hx] at e
    exact n dx [] (Option.some.inj e).symm
  have sqt : ∀ {H1 : Hp} {a : Addr} {zs : List V}, Keep (fun c => c = x) H H1 → SqT K H a zs → SqT K H1 a zs := fun {H1 a zs} kk h => by
    rcases h with (h | ⟨o, h⟩) | h
    · exact .inl (.inl (kk _ _ h (isx _ _ h fun _ _ z => by cases z)))
    · exact .inl (.inr ⟨o, kk _ _ h (isx _ _ h fun _ _ z => by cases z)⟩)
    · exact .inr h
  have sqa : ∀ {H1 : Hp} {a : Addr} {zs : List V}, Keep (fun c => c = x) H H1 → SqA K H a zs → SqA K H1 a zs := fun {H1 a zs} kk h => by
    rcases h with ((h | ⟨o, h⟩) | h) | h
    · exact .inl (.inl (.inl (kk _ _ h (isx _ _ h fun _ _ z => by cases z))))
    · exact .inl (.inl (.inr ⟨o, kk _ _ h (isx _ _ h fun _ _ z => by cases z)⟩))
    · exact .inl (.inr h)
    · exact .inr (sqt kk h)
  have pra : ∀ {H1 : Hp} {v : V} {q : Str × Bool}, Keep (fun c => c = x) H H1 → PrAt K H v q → PrAt K H1 v q := fun {H1 v q} kk ⟨t, e, h⟩ => ⟨t, e, h.imp (sqt kk) (sqt kk)⟩
  have put : ∀ {H1 : Hp} {a : Addr} {zs : List V} {o : HO} {fs : List (Str × V)}, H1 x = some (.ins hC dx fs) → SqT K H1 a zs → SqT K (upd H1 x o) a zs := fun {H1 a zs o fs} e h => by
    rcases h with (h | ⟨u, h⟩) | h
    · exact .inl (.inl (by rw [upd_ne (fun z => by rw [z, e] at h; cases h)]; exact h))
    · exact .inl (.inr ⟨u, by rw [upd_ne (fun z => by rw [z, e] at h; cases h)]; exact h⟩)
    · exact .inr h
  have tput : ∀ {H1 : Hp} {v : V} {q : Str × Bool} {o : HO} {fs : List (Str × V)}, H1 x = some (.ins hC dx fs) → TrAt K H1 v q → TrAt K (upd H1 x o) v q := fun {H1 v q o fs} e ⟨t, e2, h⟩ => ⟨t, e2, put e h⟩
  dsimp only [tSeq, sFld, tCB, tCons]
  refine step 3 pa xs d.ps H0 _ rfl (sqa kx0 hP) (paired_imp (fun _ _ z => pra kx0 z) hp) (by omega) fun D us H2 hD hus k2 => ?_
  refine ⟨D, us, rfl, .inl ⟨.of hD, fun p np => ?_⟩⟩
  have k3 : Kp0 H0 (upd H2 p (.tup us)) := k2.new np
  refine ⟨_, rfl, x, hC, dx, _, rfl, k3.at0 hx0, cl, T.n_h _ (by decide), (by show 3 < 1000; omega), ?_⟩
  have hpt : SqT K (upd (upd H2 p (.tup us)) x (.ins hC dx (putF "params" (.ref p) [("name", .str d.name), ("kind", .str d.kind), ("gives", .str (srt d.gw))]))) p us := put (k3.at0 hx0) (.of upd_same)
  have hus2 : Paired (fun q v => TrAt K (upd (upd H2 p (.tup us)) x (.ins hC dx (putF "params" (.ref p) [("name", .str d.name), ("kind", .str d.kind), ("gives", .str (srt d.gw))]))) v q) d.ps us := paired_imp (fun _ _ z => tput (k3.at0 hx0) (z.keep (Keep.refl.new np))) hus
  have kx1 : Keep (fun c => c = x) H (upd (upd H2 p (.tup us)) x (.ins hC dx (putF "params" (.ref p) [("name", .str d.name), ("kind", .str d.kind), ("gives", .str (srt d.gw))]))) := Keep.mutx (kx0.trans k3.weak0)
  have hx1 : upd (upd H2 p (.tup us)) x (.ins hC dx (putF "params" (.ref p) [("name", .str d.name), ("kind", .str d.kind), ("gives", .str (srt d.gw))])) x = some (.ins hC dx [("name", .str d.name), ("kind", .str d.kind), ("gives", .str (srt d.gw)), ("params", .ref p)]) := upd_same
  revert hpt hus2 kx1 hx1
  generalize upd (upd H2 p (.tup us)) x (.ins hC dx (putF "params" (.ref p) [("name", .str d.name), ("kind", .str d.kind), ("gives", .str (srt d.gw))])) = H3
  intro hpt hus2 kx1 hx1
  refine step 4 oa ys d.os H3 _ rfl (sqa kx1 hO) (paired_imp (fun _ _ z => pra kx1 z) ho) (by omega) fun D2 vs H4 hD2 hvs k4 => ?_
  refine ⟨D2, vs, rfl, .inl ⟨.of hD2, fun o no => ?_⟩⟩
  have k5 : Kp0 H3 (upd H4 o (.tup vs)) := k4.new no
  refine ⟨_, rfl, x, hC, dx, _, rfl, k5.at0 hx1, cl, T.n_h _ (by decide), (by show 4 < 1000; omega), ?_⟩
  have hot : SqT K (upd (upd H4 o (.tup vs)) x (.ins hC dx (putF "only" (.ref o) [("name", .str d.name), ("kind", .str d.kind), ("gives", .str (srt d.gw)), ("params", .ref p)]))) o vs := put (k5.at0 hx1) (.of upd_same)
  have hpt2 : SqT K (upd (upd H4 o (.tup vs)) x (.ins hC dx (putF "only" (.ref o) [("name", .str d.name), ("kind", .str d.kind), ("gives", .str (srt d.gw)), ("params", .ref p)]))) p us := put (k5.at0 hx1) (k5.sqt0 hpt)
  have hvs2 : Paired (fun q v => TrAt K (upd (upd H4 o (.tup vs)) x (.ins hC dx (putF "only" (.ref o) [("name", .str d.name), ("kind", .str d.kind), ("gives", .str (srt d.gw)), ("params", .ref p)]))) v q) d.os vs := paired_imp (fun _ _ z => tput (k5.at0 hx1) (z.keep (Keep.refl.new no))) hvs
  have hus3 : Paired (fun q v => TrAt K (upd (upd H4 o (.tup vs)) x (.ins hC dx (putF "only" (.ref o) [("name", .str d.name), ("kind", .str d.kind), ("gives", .str (srt d.gw)), ("params", .ref p)]))) v q) d.ps us := paired_imp (fun _ _ z => tput (k5.at0 hx1) (z.keep k5)) hus2
  have kx2 : Keep (fun c => c = x) H (upd (upd H4 o (.tup vs)) x (.ins hC dx (putF "only" (.ref o) [("name", .str d.name), ("kind", .str d.kind), ("gives", .str (srt d.gw)), ("params", .ref p)]))) := Keep.mutx (kx1.trans k5.weak0)
  have hx2 : upd (upd H4 o (.tup vs)) x (.ins hC dx (putF "only" (.ref o) [("name", .str d.name), ("kind", .str d.kind), ("gives", .str (srt d.gw)), ("params", .ref p)])) x = some (.ins hC dx [("name", .str d.name), ("kind", .str d.kind), ("gives", .str (srt d.gw)), ("params", .ref p), ("only", .ref o)]) := upd_same
  revert hot hpt2 hvs2 hus3 kx2 hx2
  generalize upd (upd H4 o (.tup vs)) x (.ins hC dx (putF "only" (.ref o) [("name", .str d.name), ("kind", .str d.kind), ("gives", .str (srt d.gw)), ("params", .ref p)])) = H5
  intro hot hpt2 hvs2 hus3 kx2 hx2
  have hul : us.length = d.ps.length := (Paired.length hus3).symm
  have hvl : vs.length = d.os.length := (Paired.length hvs2).symm
  -- the names
  refine ⟨_, rfl, x, hC, dx, _, .ref p, rfl, hx2, cl, T.n_h _ (by decide), rfl, p, us, rfl, .inl hpt2, _, rfl, x, hC, dx, _, .ref o, rfl, hx2, cl, T.n_h _ (by decide), rfl, o, vs, rfl, .inl hot, by rw [List.append_nil, List.length_append, sizeLine_eq]; omega, fun tp ntp => ?_⟩
  rw [List.append_nil]
  have k6 : Kp0 H5 (upd H5 tp (.tup (us ++ vs))) := Keep.refl.new ntp
  refine ⟨tp, rfl, ⟨_, .of upd_same⟩, fun D3 nD3 => ?_⟩
  have hall := paired_append hus3 hvs2
  refine lc_tup (xs := us ++ vs) (fun j H' => H' D3 = some (.lst (((d.all.take j).map (·.1)).map V.str)) ∧ Kp0 (upd H5 tp (.tup (us ++ vs))) H') ⟨upd_same, Keep.refl.new nD3⟩ (fun j H' _ ⟨_, kk⟩ => kk.sqt0 (.of upd_same)) ?_ ?_
  · rintro j y H6 hy ⟨hD3, kk⟩
    obtain ⟨q, hq, t, rfl, ht⟩ := paired_get hall hy
    have hjl : j < d.all.length := (List.getElem?_eq_some_iff.mp hq).1
    have hal2 := ok.le
    refine ⟨rfl, _, rfl, t, _, 0, .str q.1, rfl, rfl, (k6.trans kk).sqt0 ht, rfl, _, hD3, small1000 (by rw [List.length_map, List.length_map, List.length_take]; omega), ?_, kk.own nD3⟩
    rw [upd_same, List.take_add_one, (show d.all[j]? = some q from hq), List.map_append, List.map_append]; rfl
  · rintro H6 ⟨hD3, kk⟩
    have hlall : (us ++ vs).length = d.all.length := by rw [List.length_append]; unfold HookD.all; rw [List.length_append]; omega
    rw [hlall, List.take_length] at hD3
    refine ⟨D3, _, rfl, .inl ⟨.of hD3, fun n nn => ?_⟩⟩
    have k7 : Kp0 H5 (upd H6 n (.tup ((d.all.map (·.1)).map V.str))) := (k6.trans kk).new nn
    refine ⟨_, rfl, x, hC, dx, _, rfl, k7.at0 hx2, cl, T.n_h _ (by decide), (by show 5 < 1000; omega), ?_⟩
    have kF : Keep (fun c => c = x) H (upd (upd H6 n (.tup ((d.all.map (·.1)).map V.str))) x (.ins hC dx (putF "names" (.ref n) [("name", .str d.name), ("kind", .str d.kind), ("gives", .str (srt d.gw)), ("params", .ref p), ("only", .ref o)]))) := Keep.mutx (kx2.trans k7.weak0)
    have hF : HookAt K hC (upd (upd H6 n (.tup ((d.all.map (·.1)).map V.str))) x (.ins hC dx (putF "names" (.ref n) [("name", .str d.name), ("kind", .str d.kind), ("gives", .str (srt d.gw)), ("params", .ref p), ("only", .ref o)]))) x d :=
      ⟨dx, p, o, n, us, vs, upd_same, put (k7.at0 hx2) (k7.sqt0 hpt2), paired_imp (fun _ _ z => tput (k7.at0 hx2) (z.keep k7)) hus3, put (k7.at0 hx2) (k7.sqt0 hot), paired_imp (fun _ _ z => tput (k7.at0 hx2) (z.keep k7)) hvs2, put (k7.at0 hx2) (.of upd_same)⟩
    exact ⟨_, rfl, x, dx, _, rfl, upd_same, rfl, x, d, rfl, hF, ok, fun H7 k8 => k H7 (hF.keep k8) (kF.trans k8.weak0)⟩
end
/-! Drawn hooks, twins; hooks compared. -/
open PySem PySem.Spec PyProof.Rows L2
abbrev s_l_hook : Stmt := top 35
theorem sc_l_hook : FnScope ["_law_box_here", "_law_names", "_law_params", "_law_cut", "_law_kind", "_law_told_here", "_law_name"] ["_law_box_here"] (defScope s_l_hook) := ⟨rfl, rfl, rfl, by decide +kernel, rfl, by decide +kernel, by decide +kernel⟩
abbrev s_l_twin : Stmt := top 36
theorem sc_l_twin : FnScope ["_law_hook_here"] ["_law_hook_here"] (defScope s_l_twin) := ⟨rfl, rfl, rfl, by decide +kernel, rfl, by decide +kernel, by decide +kernel⟩
abbrev s_Hook_eq : Stmt := inClass (top 28) 5
theorem sc_Hook_eq : FnScope ["self", "other"] ["self", "other"] (defScope s_Hook_eq) := ⟨rfl, rfl, rfl, by decide +kernel, rfl, by decide +kernel, by decide +kernel⟩
structure Txt7 (K : PySem.W.Frag) (mg : Str → Option Value) (hC oA : Addr) : Prop extends Txt6 K mg hC oA where
  d_l_hook : HasDef K mg "_law_hook" s_l_hook [] []
  d_l_twin : HasDef K mg "_law_twin" s_l_twin [] []
  m_eq : HasMeth K hC "__eq__" "Hook.__eq__" s_Hook_eq [] []
  c_Hook : C8.InsC K hC
section
variable {P : Program} {w : World} {K : PySem.W.Frag} {mg : Str → Option Value} {base : Heap} {hC oA : Addr}
theorem Txt7.v_Hook (T : Txt7 K mg hC oA) : ∃ u, mg "Hook" = some u ∧ RelV (.ref hC) u := ⟨_, T.i_Hook.mg, rfl⟩
theorem Txt6.mk_Hook (T : Txt6 K mg hC oA) : ∃ (f : Addr) (fd : FuncData) (g : List Value → List Value → List Value), Mk K hC f ∧ FnOk P w K mg base CX0 4 f fd ["self", "name", "kind", "params", "only", "gives"] (spHookI K hC) ∧
    KBn K fd ["self", "name", "kind", "params", "only", "gives"] (3 + 1) ["only", "gives"] g (fun vs zs => vs ++ zs) ∧ mg "Hook" = some (.ref hC) := by
  obtain ⟨f, fd, F, M⟩ := T.i_Hook.ex
  obtain ⟨mv, b⟩ := FunD.kbinds0 (ps := ["self", "name", "kind", "params", "only", "gives"]) F (3 + 1) ["only", "gives"] [] (fun vs _ zs => vs ++ zs) (fun z => by cases z) (fun q h => by cases h) (fun r1 _ r3 => r1.append r3) (fun D doc pm an cdv ct us mv ws h1 h2 h3 => by
    match us, h1, ws, h3 with
    | [_, _, _, _], _, [_, _], _ => exact rfl)
  exact ⟨f, fd, _, M, T.c_Hook_init F, b, T.i_Hook.mg⟩
def spTwin (K : PySem.W.Frag) (hC : Addr) : Sp := fun vs H Q _ => ∃ (h : Addr) (d : HookD), vs = [.ref h] ∧ HookAt K hC H h d ∧ HookOk d ∧ ∀ h' H', HookAt K hC H' h' d → Kp0 H H' → Q (.ref h') H'
theorem Txt7.c_l_twin (T : Txt7 K mg hC oA) : C8.Cal P w K mg base 6 "_law_twin" (spTwin K hC) [] := by
  refine cal_of T.d_l_twin sc_l_twin (fun _ _ _ _ _ _ us hl => match us, hl with | [_], _ => rfl) (fun vs H Q E h => ?_) (fun f cdv A outer s H vs Q E hr h => ?_)
  · obtain ⟨h, d, rfl, _⟩ := h
    rfl
  obtain ⟨h, d, rfl, hH, ok, k⟩ := h
  obtain ⟨fH, fdH, gH, MH, FH, bH, mH⟩ := T.mk_Hook (P := P) (w := w) (base := base)
  refine ⟨_, (pss_one (ps_ret (pe_makeK (n := 3) (E := C8.E0) MH FH (hr.mono (by decide)) (by rfl) mH bH C8.pass0 (pa_cons (pe_fld (pv 0) rfl) (pa_cons (pe_fld (pv 0) rfl) (pa_cons (pe_fld (pv 0) rfl) pa_nil))) (pk_cons (pe_fld (pv 0) rfl) (pk_cons (pe_fld (pv 0) rfl) pk_nil))))), ?_⟩
  obtain ⟨dx, p, o, n, xs, ys, h1, h2, h3, h4, h5, h6⟩ := hH.ex
  have cl := T.m_look.cl
  refine ⟨_, rfl, h, hC, dx, _, .str d.name, rfl, h1, cl, T.n_h _ (by decide), rfl, _, rfl, h, hC, dx, _, .str d.kind, rfl, h1, cl, T.n_h _ (by decide), rfl, _, rfl, h, hC, dx, _, .ref p, rfl, h1, cl, T.n_h _ (by decide), rfl,
    _, rfl, h, hC, dx, _, .ref o, rfl, h1, cl, T.n_h _ (by decide), rfl, _, rfl, h, hC, dx, _, .str (srt d.gw), rfl, h1, cl, T.n_h _ (by decide), rfl, rfl, rfl, fun x ex nx nex ne => ?_⟩
  have k1 : Kp0 H (upd (upd H ex (.own x)) x (.ins hC ex [])) := (Keep.refl.new nex).new (by rw [upd_ne (fun z => ne z.symm)]; exact nx)
  have pr : ∀ {v : V} {q : Str × Bool}, TrAt K H v q → PrAt K (upd (upd H ex (.own x)) x (.ins hC ex [])) v q := fun {v q} ⟨t, e, z⟩ => ⟨t, e, .inr (k1.sqt0 z)⟩
  refine ⟨x, ex, p, o, d, xs, ys, rfl, upd_same, .inr (k1.sqt0 h2), paired_imp (fun _ _ z => pr z) h3, .inr (k1.sqt0 h4), paired_imp (fun _ _ z => pr z) h5, ok, fun H' hH' kk => ⟨rfl, k x H' hH' ?_⟩⟩
  exact (k1.weak0.trans kk).drop fun c z => .inr (by rw [show c = x from z]; exact nx)
def spEq2 (K : PySem.W.Frag) (hC : Addr) : Sp := fun vs H Q _ => ∃ (h h' : Addr) (d : HookD), vs = [.ref h, .ref h'] ∧ HookAt K hC H h d ∧ HookAt K hC H h' d ∧ HookOk d ∧ Q (.bl true) H
def triD (q : Str × Bool) : PyData := .tuple [.str q.1, .str (srt q.2), .none]
theorem dp_tri {H : Hp} : ∀ {qs : List (Str × Bool)} {xs : List V}, Paired (fun q x => TrAt K H x q) qs xs → DpAll K H xs (qs.map triD)
  | _, _, .nil => .nil
  | _, _, .cons h t => by
    obtain ⟨a, rfl, h⟩ := h
    exact .cons (.tup h (.cons (.str _) (.cons (.str _) (.cons .non .nil)))) (dp_tri t)
theorem canLay_tri : ∀ {qs : List (Str × Bool)}, (∀ q ∈ qs, isNm q.1 = true) → PyData.canLayAll0 (qs.map triD) = true
  | [], _ => by simp [PyData.canLayAll0]
  | q :: qs, h => by
    have h1 := strOk_nm (h q (List.mem_cons_self ..))
    have h2 : PyData.strOk (srt q.2) = true := by cases q.2 <;> decide +kernel
    have h3 := canLay_tri (qs := qs) fun p hp => h p (List.mem_cons_of_mem _ hp)
    simp only [List.map_cons, PyData.canLayAll0, triD, PyData.canLay0, h1, h2, h3, Bool.and_self]
theorem depth_tri : ∀ qs : List (Str × Bool), PyData.depthAll (qs.map triD) ≤ 2
  | [] => by simp [PyData.depthAll]
  | q :: qs => by
    have := depth_tri qs
    simp only [List.map_cons, PyData.depthAll, triD, PyData.depth]
    omega
theorem shaped_tris {qs : List (Str × Bool)} (h : ∀ q ∈ qs, isNm q.1 = true) : SeqAt.shaped (.tuple (qs.map triD)) = true := by
  have := depth_tri qs
  have h1 : (PyData.tuple (qs.map triD)).canLay0 = true := by simp only [PyData.canLay0]; exact canLay_tri h
  have h2 : (PyData.tuple (qs.map triD)).depth ≤ 64 := by simp only [PyData.depth]; omega
  unfold SeqAt.shaped
  rw [h1, decide_eq_true h2]; rfl
theorem Txt7.c_Hook_eq (T : Txt7 K mg hC oA) : C8.Met P w K mg base 1 hC "__eq__" (spEq2 K hC) [] := by
  refine met_of T.m_eq sc_Hook_eq (fun _ _ _ _ _ _ us hl => match us, hl with | [_, _], _ => rfl) (fun vs H Q E h => ?_) (fun f cdv A outer s H vs Q E hr h => ?_)
  · obtain ⟨h, h', d, rfl, _⟩ := h
    rfl
  obtain ⟨h, h', d, rfl, hH, hH', ok, k⟩ := h
  refine ⟨_, (pss_one (ps_ret (pe_and (pe_callB (C8.call_isC T.c_Hook) (by rfl) T.f_isinstance (by decide +kernel) (pa_cons (pv 1) (pa_cons (C8.pe_gc (by rfl) T.v_Hook) pa_nil))) (pe_and (pe_cmpR op_eq (pe_fld (pv 0) rfl) (pe_fld (pv 1) rfl) (nomark _)) (pe_and (pe_cmpR op_eq (pe_fld (pv 0) rfl) (pe_fld (pv 1) rfl) (nomark _)) (pe_and (pe_cmpR op_eq (pe_fld (pv 0) rfl) (pe_fld (pv 1) rfl) (nomark _)) (pe_and (pe_cmpR (op_eqD hr.units) (pe_fld (pv 0) rfl) (pe_fld (pv 1) rfl) (nomark _)) (pe_one (pe_cmpR (op_eqD hr.units) (pe_fld (pv 0) rfl) (pe_fld (pv 1) rfl) (nomark _)))))))))), ?_⟩
  obtain ⟨dx, p, o, n, xs, ys, h1, h2, h3, h4, h5, h6⟩ := hH.ex
  obtain ⟨ex, p', o', n', xs', ys', g1, g2, g3, g4, g5, g6⟩ := hH'.ex
  have cl := T.m_look.cl
  have eq2 : ∀ (f : Str) (v : V) (Z : Prop), scal v v = true → Z → ∃ c, (V.bl (decide (v = v))) = V.bl c ∧ if c = true then Z else Q (.bl false) H := fun f v Z _ z => ⟨true, by rw [decide_eq_true rfl], iteT z⟩
  have nps : ∀ q ∈ d.ps, isNm q.1 = true := fun q hq => (ok.ns q (List.mem_append_left _ hq)).1
  have nos : ∀ q ∈ d.os, isNm q.1 = true := fun q hq => (ok.ns q (List.mem_append_right _ hq)).1
  refine ⟨_, rfl, h', ex, _, rfl, g1, _, rfl, iteT ?_⟩
  refine ⟨_, rfl, h, hC, dx, _, .str d.name, rfl, h1, cl, T.n_h _ (by decide), rfl, _, rfl, h', hC, ex, _, .str d.name, rfl, g1, cl, T.n_h _ (by decide), rfl, rfl, eq2 "name" _ _ rfl ?_⟩
  refine ⟨_, rfl, h, hC, dx, _, .str d.kind, rfl, h1, cl, T.n_h _ (by decide), rfl, _, rfl, h', hC, ex, _, .str d.kind, rfl, g1, cl, T.n_h _ (by decide), rfl, rfl, eq2 "kind" _ _ rfl ?_⟩
  refine ⟨_, rfl, h, hC, dx, _, .str (srt d.gw), rfl, h1, cl, T.n_h _ (by decide), rfl, _, rfl, h', hC, ex, _, .str (srt d.gw), rfl, g1, cl, T.n_h _ (by decide), rfl, rfl, eq2 "gives" _ _ rfl ?_⟩
  refine ⟨_, rfl, h, hC, dx, _, .ref p, rfl, h1, cl, T.n_h _ (by decide), rfl, _, rfl, h', hC, ex, _, .ref p', rfl, g1, cl, T.n_h _ (by decide), rfl, .tuple (d.ps.map triD), .tuple (d.ps.map triD), .tup h2 (dp_tri h3), .tup g2 (dp_tri g3), shaped_tris nps, shaped_tris nps, true, by rw [(plain_of (shaped_tris nps)).2], iteT ?_⟩
  refine ⟨_, rfl, h, hC, dx, _, .ref o, rfl, h1, cl, T.n_h _ (by decide), rfl, _, rfl, h', hC, ex, _, .ref o', rfl, g1, cl, T.n_h _ (by decide), rfl, .tuple (d.os.map triD), .tuple (d.os.map triD), .tup h4 (dp_tri h5), .tup g4 (dp_tri g5), shaped_tris nos, shaped_tris nos, ?_⟩
  rw [(plain_of (shaped_tris nos)).2]
  exact k
theorem paired_take {α β : Type} {F : α → β → Prop} : ∀ (n : Nat) {l : List α} {m : List β}, Paired F l m → Paired F (l.take n) (m.take n)
  | 0, _, _, _ => by rw [List.take_zero, List.take_zero]; exact .nil
  | n + 1, _, _, .nil => by rw [List.take_nil, List.take_nil]; exact .nil
  | n + 1, _, _, .cons r t => .cons r (paired_take n t)
theorem paired_drop {α β : Type} {F : α → β → Prop} : ∀ (n : Nat) {l : List α} {m : List β}, Paired F l m → Paired F (l.drop n) (m.drop n)
  | 0, _, _, h => h
  | n + 1, _, _, .nil => .nil
  | n + 1, _, _, .cons r t => paired_drop n t
def N6 : List Str := ["size", "mode", "text", "ab", "b", "sizes"]
theorem n6_ok : ∀ x ∈ N6, isNm x = true ∧ x ∉ KEPTL := by decide +kernel
theorem n6_nd : N6.Nodup := by decide +kernel
theorem ix6 {i : Int} (h0 : 0 ≤ i) (h1 : i < 6) : ∃ m : Nat, m ≤ 3 ∧ atI [V.int 1, .int 2, .int 3, .int 3, .int 2, .int 0] i = some (.int (m : Int)) := by
  have h : i = 0 ∨ i = 1 ∨ i = 2 ∨ i = 3 ∨ i = 4 ∨ i = 5 := by omega
  rcases h with rfl | rfl | rfl | rfl | rfl | rfl
  · exact ⟨1, by decide, rfl⟩
  · exact ⟨2, by decide, rfl⟩
  · exact ⟨3, by decide, rfl⟩
  · exact ⟨3, by decide, rfl⟩
  · exact ⟨2, by decide, rfl⟩
  · exact ⟨0, by decide, rfl⟩
theorem ix2 {i : Int} (h0 : 0 ≤ i) (h1 : i < 2) : ∃ w : Bool, atI [V.str "number", .str "word"] i = some (.str (srt w)) := by
  have h : i = 0 ∨ i = 1 := by omega
  rcases h with rfl | rfl
  · exact ⟨false, rfl⟩
  · exact ⟨true, rfl⟩
theorem ix3 {i : Nat} {x : V} (h : [V.str "first", .str "each", .str "through"][i]? = some x) : ∃ k : Str, x = .str k ∧ (k = "first" ∨ k = "through" ∨ k = "each") := by
  have hi : i < 3 := (List.getElem?_eq_some_iff.mp h).1
  have h2 : i = 0 ∨ i = 1 ∨ i = 2 := by omega
  rcases h2 with rfl | rfl | rfl
  · exact ⟨_, (Option.some.inj h).symm, .inl rfl⟩
  · exact ⟨_, (Option.some.inj h).symm, .inr (.inr rfl)⟩
  · exact ⟨_, (Option.some.inj h).symm, .inr (.inl rfl)⟩
theorem ix2' {i : Nat} {x : V} (h : [V.str "number", .str "word"][i]? = some x) : ∃ w : Bool, x = .str (srt w) := by
  have hi : i < 2 := (List.getElem?_eq_some_iff.mp h).1
  have h2 : i = 0 ∨ i = 1 := by omega
  rcases h2 with rfl | rfl
  · exact ⟨false, (Option.some.inj h).symm⟩
  · exact ⟨true, (Option.some.inj h).symm⟩
def spHookDraw (K : PySem.W.Frag) (hC : Addr) : Sp := fun vs H Q _ => ∃ (b g : Addr), vs = [.ref b] ∧ BoxAt H b g ∧ ∀ (r h a : Addr) (d : HookD) (H' : Hp), H' r = some (.tup [.ref h, .ref a]) → HookAt K hC H' h d → HookOk d → PsAt K H' a d.all → H a = none → (∃ xs, H' a = some (.lst xs)) → BoxAt H' b g → Keep (Bm b g) H H' → Q (.ref r) H'
theorem Txt7.c_l_hook (T : Txt7 K mg hC oA) : C8.Cal P w K mg base 6 "_law_hook" (spHookDraw K hC) [] := by
  refine cal_of T.d_l_hook sc_l_hook (fun _ _ _ _ _ _ us hl => match us, hl with | [_], _ => rfl) (fun vs H Q E h => ?_) (fun f cdv A outer s H vs Q E hr h => ?_)
  · obtain ⟨b, g, rfl, _⟩ := h
    rfl
  obtain ⟨b, g, rfl, hB, k⟩ := h
  obtain ⟨fH, fdH, gH, MH, FH, bH, mH⟩ := T.mk_Hook (P := P) (w := w) (base := base)
  refine ⟨_, (pss_cons (ps_set (i := 1) sc_l_hook.nd rfl (by first | exact .inl rfl | exact .inr rfl) (pe_slice sl_list (C8.pe_c T.c_l_mixed hr (by decide) (by rfl) (pa_cons (pv 0) (pa_cons (pe_lst (pa_cons pe_str (pa_cons pe_str (pa_cons pe_str (pa_cons pe_str (pa_cons pe_str (pa_cons pe_str pa_nil))))))) pa_nil))) po_none (po_some (pe_ix ix_list (pe_lst (pa_cons pe_int (pa_cons pe_int (pa_cons pe_int (pa_cons pe_int (pa_cons pe_int (pa_cons pe_int pa_nil))))))) (C8.pe_c T.c_l_take hr (by decide) (by rfl) (pa_cons (pv 0) (pa_cons pe_int pa_nil))) (fun _ _ => rfl)))))
      (pss_cons (ps_setLc (i := 2) (own := [("_law_name", 6)]) rfl sc_l_hook.nd rfl rfl (sw_true rfl rfl rfl (by decide +kernel)) (pi_list (pv 1)) (blkOk_by (own := [("_law_name", 6)]) (N := ["_law_box_here", "_law_names", "_law_params", "_law_cut", "_law_kind", "_law_told_here", "_law_name"]) (sc := defScope s_l_hook) (by decide +kernel)) (fun _ _ _ _ _ => (pg_name (i := 6) sc_l_hook.nd rfl (by first | exact .inl rfl | exact .inr rfl))) (fun _ _ _ _ _ => pts_nil) (fun _ _ _ _ _ => (pe_tup (pa_cons (pv 6) (pa_cons (pe_ix ix_listB (pe_lst (pa_cons pe_str (pa_cons pe_str pa_nil))) (C8.pe_c T.c_l_take hr (by decide) (by rfl) (pa_cons (pv 0) (pa_cons pe_int pa_nil))) (fun _ _ => rfl)) pa_nil)))))
      (pss_cons (ps_par (i := 3) (j := 4) rfl sc_l_hook.nd rfl rfl (by decide) rfl rfl (pa_cons (C8.pe_c T.c_l_take hr (by decide) (by rfl) (pa_cons (pv 0) (pa_cons (pe_op op_add (pe_callB call_len (by rfl) T.f_len (by decide +kernel) (pa_cons (pv 2) pa_nil)) pe_int) pa_nil))) (pa_cons (C8.pe_c T.c_l_pick hr (by decide) (by rfl) (pa_cons (pv 0) (pa_cons (pe_lst (pa_cons pe_str (pa_cons pe_str (pa_cons pe_str pa_nil)))) pa_nil))) pa_nil)) (by rfl))
      (pss_cons (ps_set (i := 5) sc_l_hook.nd rfl (by first | exact .inl rfl | exact .inr rfl) (C8.pe_c T.c_l_pick hr (by decide) (by rfl) (pa_cons (pv 0) (pa_cons (pe_lst (pa_cons pe_str (pa_cons pe_str pa_nil))) pa_nil))))
      (C8.pss_cut (ps_if (pt_cmpR op_eq (pv 4) pe_str (nomark _)) (pss_one (ps_asg (pe_ifExp (pt_cmpR op_gt (pv 3) pe_int (nomark _)) (pe_tup (pa_cons (pv 4) (pa_cons (pe_ix ix_tup (pe_ix ix_list (pv 2) pe_int (fun _ _ => rfl)) pe_int (fun _ _ => rfl)) pa_nil))) (pe_tup (pa_cons pe_str (pa_cons (pv 5) pa_nil)))) (pg_tup rfl (pgs_cons (pg_name (i := 4) sc_l_hook.nd rfl (by first | exact .inl rfl | exact .inr rfl)) (pgs_cons (pg_name (i := 5) sc_l_hook.nd rfl (by first | exact .inl rfl | exact .inr rfl)) pgs_nil))))) pss_nil)
      (pss_one (ps_ret (pe_tup (pa_cons (pe_makeK (n := 3) (E := C8.E0) MH FH (hr.mono (by decide)) (by rfl) mH bH C8.pass0 (pa_cons pe_str (pa_cons (pv 4) (pa_cons (pe_slice sl_list (pv 2) po_none (po_some (pv 3))) pa_nil))) (pk_cons (pe_slice sl_list (pv 2) (po_some (pv 3)) po_none) (pk_cons (pv 5) pk_nil))) (pa_cons (pv 2) pa_nil)))))))))), ?_⟩
  have cl := T.m_look.cl
  -- the names
  refine ⟨_, rfl, (by rw [sizeLine_eq]; show 6 ≤ _; decide), fun L nL => ?_⟩
  have k1 : Kp0 H (upd H L (.lst (N6.map V.str))) := Keep.refl.new nL
  refine ⟨b, g, L, N6.map V.str, rfl, hB.keep k1, .of upd_same, (by show 6 < 1000; decide), fun p ys H1 pm hB1 np hp k2 => ?_⟩
  obtain ⟨ms, rfl, pm2⟩ := perm_map pm
  have kH1 : Keep (Bm b g) H H1 := k1.weak0.trans k2
  have np0 : H p = none := k1.free0 np
  refine ⟨(by rw [sizeLine_eq]; show 6 ≤ _; decide), fun I nI => ?_⟩
  have k3 : Kp0 H1 (upd H1 I (.lst [.int 1, .int 2, .int 3, .int 3, .int 2, .int 0])) := Keep.refl.new nI
  have nI0 : H I = none := hB1.free kH1 nI
  refine ⟨_, rfl, b, g, 6, rfl, hB1.keep k3, ⟨by decide, by decide⟩, fun i H2 h0 h1 hB2 k4 => ?_⟩
  obtain ⟨mn, hmn, hat⟩ := ix6 h0 h1
  have hI2 : H2 I = some (.lst [.int 1, .int 2, .int 3, .int 3, .int 2, .int 0]) := k4.atB upd_same (hB.off nI0)
  have hp2 : H2 p = some (.lst (ms.map V.str)) := k4.atB (k3.at0 hp) (hB.off np0)
  refine ⟨I, _, i, _, rfl, rfl, .of hI2, hat, _, rfl, p, _, rfl, .of hp2, fun N nN => ?_⟩
  rw [cut_take, ← List.map_take]
  have kH2 : Keep (Bm b g) H H2 := (kH1.trans k3.weak0).trans k4
  have k5 : Kp0 H2 (upd H2 N (.lst ((ms.take mn).map V.str))) := Keep.refl.new nN
  have hN : upd H2 N (.lst ((ms.take mn).map V.str)) N = some (.lst ((ms.take mn).map V.str)) := upd_same
  have nN0 : H N = none := hB2.free kH2 nN
  have hB3 := hB2.keep k5
  have kH3 := kH2.trans k5.weak0
  revert hN hB3 kH3
  generalize upd H2 N (.lst ((ms.take mn).map V.str)) = H3
  intro hN hB3 kH3
  have hul : (ms.take mn).length ≤ 3 := by rw [List.length_take]; omega
  have hun : ∀ x ∈ ms.take mn, isNm x = true ∧ x ∉ KEPTL := fun x hx => n6_ok x (pm2.mem_iff.mp (List.mem_of_mem_take hx))
  have hud : (ms.take mn).Nodup := (pm2.nodup_iff.mpr n6_nd).sublist (List.take_sublist _ _)
  generalize ms.take mn = us at hN hul hun hud
  -- the parameters
  refine ⟨_, rfl, N, rfl, ⟨_, .of hN⟩, fun D nD => ?_⟩
  have nD0 : H D = none := hB3.free kH3 nD
  refine lc_list (xs := us.map V.str) (fun j H' => ∃ (qs : List (Str × Bool)) (ts : List V), H' D = some (.lst ts) ∧ Paired (fun q x => PairAt K H' x q) qs ts ∧ qs.map (·.1) = us.take j ∧ BoxAt H' b g ∧ Keep (Bm b g) H3 H') ?_ ?_ ?_ ?_
  · exact ⟨[], [], upd_same, .nil, rfl, hB3.keep (Keep.refl.new nD), (Keep.refl.new nD : Kp0 _ _).weak0⟩
  · rintro j H' _ ⟨_, _, _, _, _, _, kk⟩
    exact .of (kk.atB hN (hB.off nN0))
  · rintro j y H4 hy ⟨qs, ts, hD, hq, hqu, hB4, kk⟩
    obtain ⟨u, hu, rfl⟩ := List.mem_map.mp (List.mem_of_getElem? hy)
    have hju : us[j]? = some u := by
      rw [List.getElem?_map] at hy
      cases e : us[j]? with
      | none => rw [e] at hy; cases hy
      | some z => rw [e] at hy; cases hy; rfl
    have hj3 : j < us.length := (List.getElem?_eq_some_iff.mp hju).1
    have htl : ts.length ≤ 3 := by
      have h1 := Paired.length hq
      have h2 := congrArg List.length hqu
      rw [List.length_map, List.length_take] at h2
      omega
    refine ⟨rfl, _, rfl, (by rw [sizeLine_eq]; show 2 ≤ _; decide), fun W nW => ?_⟩
    have k6 : Kp0 H4 (upd H4 W (.lst [.str "number", .str "word"])) := Keep.refl.new nW
    have nW0 : H W = none := hB4.free (kH3.trans kk) nW
    refine ⟨_, rfl, b, g, 2, rfl, hB4.keep k6, ⟨by decide, by decide⟩, fun c H5 c0 c1 hB5 k7 => ?_⟩
    obtain ⟨w, hw⟩ := ix2 c0 c1
    have hW5 : H5 W = some (.lst [.str "number", .str "word"]) := k7.atB upd_same (hB.off nW0)
    refine ⟨W, _, c, _, rfl, rfl, .of hW5, hw, (by rw [sizeLine_eq]; show 2 ≤ _; decide), fun t nt => ?_⟩
    have k8 : Kp0 H5 (upd H5 t (.tup [.str u, .str (srt w)])) := Keep.refl.new nt
    have hD5 : H5 D = some (.lst ts) := k7.atB (k6.at0 hD) (hB.off nD0)
    have hD6 : upd H5 t (.tup [.str u, .str (srt w)]) D = some (.lst ts) := k8.at0 hD5
    have tl : ∀ {v : V} {r : Str × Bool} {o : HO}, PairAt K (upd H5 t (.tup [.str u, .str (srt w)])) v r → PairAt K (upd (upd H5 t (.tup [.str u, .str (srt w)])) D o) v r := fun ⟨t, e, h⟩ => ⟨t, e, SqT.list h hD6⟩
    refine ⟨ts, hD6, small1000 (by omega), qs ++ [(u, w)], ts ++ [.ref t], upd_same, ?_, ?_, ?_, ?_⟩
    · exact Paired.snoc (paired_imp (fun _ _ z => tl (((z.keep k6).keepB (hB4.keep k6) k7).keep k8)) hq) (tl ⟨t, rfl, .of upd_same⟩)
    · rw [List.map_append, hqu, List.take_add_one, hju]; rfl
    · obtain ⟨⟨n, sd, tt, z1⟩, gs, z2⟩ := hB5.keep k8
      have hbD := hB.off nD0
      exact ⟨⟨n, sd, tt, by rw [upd_ne (fun z => hbD (.inl z.symm))]; exact z1⟩, gs, by rw [upd_ne (fun z => hbD (.inr z.symm))]; exact z2⟩
    · exact (((kk.trans k6.weak0).trans k7).trans k8.weak0).own nD
  · rintro H4 ⟨qs, ts, hD, hq, hqu, hB4, kk⟩
    rw [List.length_map, List.take_length] at hqu
    have kH4 := kH3.trans kk
    have hql : qs.length = us.length := by rw [← hqu, List.length_map]
    have htl : ts.length = qs.length := (Paired.length hq).symm
    -- cut and kind
    refine ⟨_, rfl, _, rfl, _, _, rfl, .inl ⟨ts, .of hD, rfl⟩, _, _, rfl, rfl, b, g, _, rfl, hB4, ⟨by omega, by omega⟩, fun c H5 c0 c1 hB5 k6 => ?_⟩
    obtain ⟨cn, rfl⟩ : ∃ cn : Nat, c = (cn : Int) := ⟨c.toNat, by omega⟩
    refine ⟨_, rfl, (by rw [sizeLine_eq]; show 3 ≤ _; decide), fun X1 nX1 => ?_⟩
    have k7 : Kp0 H5 (upd H5 X1 (.lst [.str "first", .str "each", .str "through"])) := Keep.refl.new nX1
    have kH5 := kH4.trans k6
    have nX1' : H X1 = none := hB5.free kH5 nX1
    refine ⟨b, g, X1, _, rfl, hB5.keep k7, .of upd_same, ⟨by decide, by decide⟩, hB.off nX1', fun i6 kv H6 hkv hB6 k8 => ?_⟩
    obtain ⟨kd, rfl, hkd⟩ := ix3 hkv
    refine ⟨_, _, rfl, ?_⟩
    refine ⟨_, rfl, (by rw [sizeLine_eq]; show 2 ≤ _; decide), fun X2 nX2 => ?_⟩
    have k9 : Kp0 H6 (upd H6 X2 (.lst [.str "number", .str "word"])) := Keep.refl.new nX2
    have kH6 := (kH5.trans k7.weak0).trans k8
    have nX2' : H X2 = none := hB6.free kH6 nX2
    refine ⟨b, g, X2, _, rfl, hB6.keep k9, .of upd_same, ⟨by decide, by decide⟩, hB.off nX2', fun i7 tv H7 htv hB7 k10 => ?_⟩
    obtain ⟨gw, rfl⟩ := ix2' htv
    have kH7 := (kH6.trans k9.weak0).trans k10
    have hD7 : H7 D = some (.lst ts) := k10.atB (k9.at0 (k8.atB (k7.at0 (k6.atB hD (hB.off nD0))) (hB.off nD0))) (hB.off nD0)
    have hq7 : Paired (fun q x => PairAt K H7 x q) qs ts := paired_imp (fun _ _ z => ((((z.keepB hB4 k6).keep k7).keepB (hB5.keep k7) k8).keep k9).keepB (hB6.keep k9) k10) hq
    refine ⟨fun σ H' => ∃ (kd : Str) (gw : Bool) (y : Option V), σ = [some (.ref b), some (.ref N), some (.ref D), some (.int (cn : Int)), some (.str kd), some (.str (srt gw)), y] ∧ (kd = "first" ∨ kd = "through" ∨ kd = "each") ∧ (kd = "through" → ∃ p r, qs.take cn = p :: r ∧ p.2 = gw) ∧ Kp0 H7 H', ?_, ?_⟩
    · refine ⟨_, rfl, rfl, _, rfl, ite2 (fun ek => ?_) (fun ek => ?_)⟩
      · have hk : kd = "through" := V.str.inj (of_decide_eq_true ek)
        refine ⟨_, rfl, _, _, rfl, rfl, _, rfl, ite2 (fun ec => ?_) (fun ec => ?_)⟩
        · have hc : 0 < cn := by have := of_decide_eq_true ec; omega
          obtain ⟨q, hq0⟩ : ∃ q, qs[0]? = some q := ⟨_, List.getElem?_eq_getElem (by omega)⟩
          obtain ⟨x, hx, t, rfl, ht⟩ := paired_get1 hq7 hq0
          have hx0 : atI ts 0 = some (.ref t) := at_of (j := 0) (by omega) hx
          refine ⟨_, rfl, _, rfl, D, ts, 0, .ref t, rfl, rfl, .of hD7, hx0, t, _, 1, .str (srt q.2), rfl, rfl, ht, rfl, (by rw [sizeLine_eq]; show 2 ≤ _; decide), fun r nr => ?_⟩
          refine ⟨r, _, rfl, .of upd_same, rfl, _, _, rfl, _, _, rfl, rfl, kd, q.2, _, rfl, hkd, fun _ => ?_, Keep.refl.new nr⟩
          cases qs with
          | nil => cases hq0
          | cons q' rr =>
            cases hq0
            cases cn with
            | zero => omega
            | succ cn => exact ⟨_, _, rfl, rfl⟩
        · refine ⟨_, rfl, (by rw [sizeLine_eq]; show 2 ≤ _; decide), fun r nr => ?_⟩
          refine ⟨r, _, rfl, .of upd_same, rfl, _, _, rfl, _, _, rfl, rfl, "first", gw, _, rfl, .inl rfl, fun z => absurd z (by decide), Keep.refl.new nr⟩
      · exact ⟨kd, gw, _, rfl, hkd, fun z => absurd (decide_eq_true (by rw [z])) ek, .refl⟩
    · rintro σ H8 ⟨kd, gw, y, rfl, hkd, hth, k11⟩
      have hD8 := k11.at0 hD7
      have hB8 := hB7.keep k11
      have kH8 : Keep (Bm b g) H H8 := kH7.trans k11.weak0
      have hq8 : Paired (fun q x => PairAt K H8 x q) qs ts := paired_imp (fun _ _ z => z.keep k11) hq7
      refine ⟨_, rfl, _, rfl, _, rfl, (cn : Int), rfl, D, _, rfl, .of hD8, fun P1 nP1 => ?_⟩
      rw [cut_take]
      have k12 : Kp0 H8 (upd H8 P1 (.lst (ts.take cn))) := Keep.refl.new nP1
      refine ⟨_, rfl, _, rfl, (cn : Int), rfl, D, _, rfl, .of (k12.at0 hD8), fun P2 nP2 => ?_⟩
      rw [cut_drop]
      have k13 := k12.new (o := .lst (ts.drop cn)) nP2
      refine ⟨_, rfl, rfl, rfl, fun x ex nx nex ne => ?_⟩
      have k14 : Kp0 H8 _ := (k13.new (o := .own x) nex).new (o := .ins hC ex []) (by rw [upd_ne (fun z => ne z.symm)]; exact nx)
      have pr : ∀ {v : V} {q : Str × Bool}, PairAt K H8 v q → PrAt K (upd (upd (upd (upd H8 P1 (.lst (ts.take cn))) P2 (.lst (ts.drop cn))) ex (.own x)) x (.ins hC ex [])) v q := fun {v q} ⟨t, e, z⟩ => ⟨t, e, .inl (k14.sqt0 z)⟩
      have hP2 : P1 ≠ P2 := fun z => by rw [← z, upd_same] at nP2; cases nP2
      have k15 : Kp0 (upd (upd H8 P1 (.lst (ts.take cn))) P2 (.lst (ts.drop cn))) (upd (upd (upd (upd H8 P1 (.lst (ts.take cn))) P2 (.lst (ts.drop cn))) ex (.own x)) x (.ins hC ex [])) := (Keep.refl.new nex).new (by rw [upd_ne (fun z => ne z.symm)]; exact nx)
      have hall : ∀ q ∈ qs, isNm q.1 = true ∧ q.1 ∉ KEPTL := fun q hq => hun q.1 (by rw [← hqu]; exact List.mem_map_of_mem (f := (·.1)) hq)
      have eall : (HookD.mk "shade" kd gw (qs.take cn) (qs.drop cn)).all = qs := List.take_append_drop cn qs
      have ok : HookOk ⟨"shade", kd, gw, qs.take cn, qs.drop cn⟩ := by
        refine ⟨(show isNm "shade" = true from by decide +kernel), hkd, ?_, ?_, ?_, hth⟩
        · rw [eall]; exact hall
        · rw [eall, hqu]; exact hud
        · rw [eall]; omega
      refine ⟨x, ex, P1, P2, ⟨"shade", kd, gw, qs.take cn, qs.drop cn⟩, ts.take cn, ts.drop cn, rfl, upd_same, .inl (.of (k15.at0 ?_)), paired_take cn (paired_imp (fun _ _ z => pr z) hq8), .inl (.of (k15.at0 upd_same)), paired_drop cn (paired_imp (fun _ _ z => pr z) hq8), ok, fun H9 hH9 k16 => ⟨rfl, ?_⟩⟩
      · rw [upd_ne hP2, upd_same]
      have k17 : Kp0 H8 H9 := (k14.weak0.trans k16).drop fun c z => .inr (by rw [show c = x from z]; exact k13.free0 nx)
      refine ⟨_, rfl, (by rw [sizeLine_eq]; show 2 ≤ _; decide), fun r nr => ?_⟩
      have k18 : Kp0 H9 (upd H9 r (.tup [.ref x, .ref D])) := Keep.refl.new nr
      have k19 := k17.trans k18
      refine k r x D _ _ upd_same (hH9.keep k18) ok ⟨ts, .of (k19.at0 hD8), ?_⟩ nD0 ⟨_, k19.at0 hD8⟩ (hB8.keep k19) (kH8.trans k19.weak0)
      rw [eall]
      exact paired_imp (fun _ _ z => z.keep k19) hq8
end
/-! Sets of calls. -/
open PySem PySem.Spec PyProof.Rows L2
abbrev s_Calls_init : Stmt := inClass (top 24) 0
theorem sc_Calls_init : FnScope ["self", "hook", "bounds", "given", "sorts", "name", "param"] ["self", "hook", "bounds"] (defScope s_Calls_init) := ⟨rfl, rfl, rfl, by decide +kernel, rfl, by decide +kernel, by decide +kernel⟩
abbrev s_Calls_bound : Stmt := inClass (top 24) 1
theorem sc_Calls_bound : FnScope ["self", "name"] ["self", "name"] (defScope s_Calls_bound) := ⟨rfl, rfl, rfl, by decide +kernel, rfl, by decide +kernel, by decide +kernel⟩
abbrev s_Calls_contains : Stmt := inClass (top 24) 3
theorem sc_Calls_contains : FnScope ["self", "call", "name"] ["self", "call"] (defScope s_Calls_contains) := ⟨rfl, rfl, rfl, by decide +kernel, rfl, by decide +kernel, by decide +kernel⟩
abbrev s_Calls_bool : Stmt := inClass (top 24) 4
theorem sc_Calls_bool : FnScope ["self", "name"] ["self"] (defScope s_Calls_bool) := ⟨rfl, rfl, rfl, by decide +kernel, rfl, by decide +kernel, by decide +kernel⟩
abbrev s_l_told : Stmt := top 48
theorem sc_l_told : FnScope ["_law_params", "_law_calls", "_law_name", "_law_sort"] ["_law_params", "_law_calls"] (defScope s_l_told) := ⟨rfl, rfl, rfl, by decide +kernel, rfl, by decide +kernel, by decide +kernel⟩
structure Txt8 (K : PySem.W.Frag) (mg : Str → Option Value) (hC oA cC : Addr) : Prop extends Txt7 K mg hC oA where
  n_c : ∀ x ∈ (["hook", "sorts", "ends"] : List Str), NoAttr K cC x
  i_Calls : HasInit K mg "Calls" cC "Calls.__init__" s_Calls_init [.non] []
  m_bound : HasMeth K cC "bound" "Calls.bound" s_Calls_bound [] []
  m_contains : HasMeth K cC "__contains__" "Calls.__contains__" s_Calls_contains [] []
  m_bool : HasMeth K cC "__bool__" "Calls.__bool__" s_Calls_bool [] []
  d_l_told : HasDef K mg "_law_told" s_l_told [] []
def srts (ps : List (Str × Bool)) : List (Str × V) := ps.map fun p => (p.1, V.str (srt p.2))
theorem srts_names (ps : List (Str × Bool)) : (srts ps).map (·.1) = ps.map (·.1) := by
  unfold srts
  rw [List.map_map]; rfl
theorem srts_look {ps : List (Str × Bool)} (nd : (ps.map (·.1)).Nodup) {p : Str × Bool} (h : p ∈ ps) : (srts ps).lookup p.1 = some (.str (srt p.2)) :=
  lookup_in (by rw [srts_names]; exact nd) (List.mem_map_of_mem (f := fun p : Str × Bool => (p.1, V.str (srt p.2))) h)
/-- a set of calls -/
structure CallsAt (K : PySem.W.Frag) (cC : Addr) (H : Hp) (x h : Addr) (ps : List (Str × Bool)) (fs : List (Str × Bd)) : Prop where
  ex : ∃ (dx s e : Addr) (T : List (Str × V)), H x = some (.ins cC dx [("hook", .ref h), ("sorts", .ref s), ("ends", .ref e)]) ∧ H s = some (.dK (tk (srts ps))) ∧ H e = some (.dK (tk T)) ∧ Tab (fun d v => NmAt K H v d) fs T ∧ s ≠ e
  kd : kinds fs = ps
theorem CallsAt.keep {K : PySem.W.Frag} {cC : Addr} {H H' : Hp} {x h : Addr} {ps : List (Str × Bool)} {fs : List (Str × Bd)} (c : CallsAt K cC H x h ps fs) (k : Kp0 H H') : CallsAt K cC H' x h ps fs := by
  obtain ⟨dx, s, e, T, h1, h2, h3, h4, h5⟩ := c.ex
  exact ⟨⟨dx, s, e, T, k.at0 h1, k.at0 h2, k.at0 h3, h4.keep k, h5⟩, c.kd⟩
/-- a store to what holds no tuple -/
theorem SqT.put {K : PySem.W.Frag} {H : Hp} {a L : Addr} {xs : List V} {u o : HO} (h : SqT K H a xs) (hL : H L = some u) (n1 : ∀ xs, u ≠ .tup xs) (n2 : ∀ w xs, u ≠ .frz w (.tup xs)) : SqT K (upd H L o) a xs :=
  SqT.keep (M := fun c => c = L) h (Keep.refl.mut rfl) fun c z e m => ⟨u, _, (show H c = some u from (show c = L from m) ▸ hL), rfl, n1, n2⟩
theorem NmAt.put {K : PySem.W.Frag} {H : Hp} {v : V} {n : Bd} {L : Addr} {u o : HO} (h : NmAt K H v n) (hL : H L = some u) (n1 : ∀ xs, u ≠ .tup xs) (n2 : ∀ w xs, u ≠ .frz w (.tup xs)) : NmAt K (upd H L o) v n := by
  cases n with
  | num lo hi =>
    obtain ⟨t, e, h⟩ := h
    exact ⟨t, e, SqT.put h hL n1 n2⟩
  | wrd ws ins =>
    obtain ⟨t, q, e, h1, h2, h3⟩ := h
    exact ⟨t, q, e, SqT.put h1 hL n1 n2, SqT.put h2 hL n1 n2, h3⟩
theorem BdAt.put {H : Hp} {v : V} {n : Bd} {L : Addr} {kvs : List (Key × V)} {o : HO} (h : BdAt H v n) (hL : H L = some (.dK kvs)) : BdAt (upd H L o) v n := by
  have st : ∀ {a : Addr} {u : HO}, H a = some u → (∀ kvs, u ≠ .dK kvs) → upd H L o a = some u := fun {a u} e n => by
    rw [upd_ne (fun z => by rw [z, hL] at e; exact n _ (Option.some.inj e).symm)]; exact e
  cases n with
  | num lo hi =>
    obtain ⟨t, e, h⟩ := h
    exact ⟨t, e, st h fun _ z => by cases z⟩
  | wrd ws ins =>
    obtain ⟨t, q, e, h1, h2, h3⟩ := h
    exact ⟨t, q, e, st h1 (fun _ z => by cases z), h2.imp (fun z => st z (fun _ z => by cases z)) (fun z => st z (fun _ z => by cases z)), h3⟩
theorem BdAt.keepM {H H' : Hp} {v : V} {n : Bd} {M : Addr → Prop} (h : BdAt H v n) (k : Keep M H H') (f : ∀ a o, H a = some o → M a → (∀ xs, o ≠ .tup xs) ∧ ∀ xs, o ≠ .lst xs) : BdAt H' v n := by
  have st : ∀ {a : Addr} {xs : List V}, H a = some (.tup xs) → H' a = some (.tup xs) := fun e => k _ _ e fun m => (f _ _ e m).1 _ rfl
  have sl : ∀ {a : Addr} {xs : List V}, H a = some (.lst xs) → H' a = some (.lst xs) := fun e => k _ _ e fun m => (f _ _ e m).2 _ rfl
  cases n with
  | num lo hi =>
    obtain ⟨t, e, h⟩ := h
    exact ⟨t, e, st h⟩
  | wrd ws ins =>
    obtain ⟨t, q, e, h1, h2, h3⟩ := h
    exact ⟨t, q, e, st h1, h2.imp sl st, h3⟩
theorem lock_keep {H H' : Hp} {S : Addr} {u : HO} {od : Obj} (hS : H S = some u) (k : Kp0 (upd H S (.frz od u)) H') : Kp0 H (upd H' S u) := fun a o e _ => by
  by_cases z : a = S
  · rw [z, hS] at e
    cases e
    rw [z, upd_same]
  · rw [upd_ne z]
    exact k.at0 (by rw [upd_ne z]; exact e)
theorem dget_frz {H : Hp} {S : Addr} {od : Obj} {T : List (Str × V)} {n : Str} (h : H S = some (.frz od (.dK (tk T)))) : DGet H S (.str n) (T.lookup n) := by
  rw [← tk_val]
  exact .inl ⟨tk T, Sum.inr n, .inr ⟨od, h⟩, rfl, rfl⟩
theorem dget_tk {H : Hp} {S : Addr} {T : List (Str × V)} {n : Str} (h : H S = some (.dK (tk T))) : DGet H S (.str n) (T.lookup n) := by
  rw [← tk_val]
  exact .inl ⟨tk T, Sum.inr n, .inl h, rfl, rfl⟩
theorem dget_in {H H' : Hp} {C e : Addr} {S : List (Str × V)} {u : HO} {od : Obj} {n : Str} (hC : H C = some (.dK (tk S))) (he : H e = some u) (k : Kp0 (upd H e (.frz od u)) H') : DGet H' C (.str n) (S.lookup n) := by
  by_cases z : C = e
  · rw [z, he] at hC
    cases hC
    rw [z]
    exact dget_frz (k.at0 upd_same)
  · exact dget_tk (k.at0 (by rw [upd_ne z]; exact hC))
section
variable {P : Program} {w : World} {K : PySem.W.Frag} {mg : Str → Option Value} {base : Heap} {hC oA cC : Addr}
def spCallsI (K : PySem.W.Frag) (hC cC : Addr) : Sp := fun vs H Q _ => ∃ (x dx h : Addr) (d : HookD) (v : V) (bs : List (Str × Bd)) (T : List (Str × V)), vs = [.ref x, .ref h, v] ∧ H x = some (.ins cC dx []) ∧ HookAt K hC H h d ∧ HookOk d ∧
  ((v = .non ∧ bs = [] ∧ T = []) ∨ ∃ D, v = .ref D ∧ H D = some (.dK (tk T))) ∧ Tab (fun b u => BdAt H u b) bs T ∧ (∀ q ∈ bs, (q.1, q.2.isW) ∈ d.all) ∧ (bs.map (·.1)).Nodup ∧ bs.length ≤ 3 ∧
  ∀ H' fs, CallsAt K cC H' x h d.all fs → (∀ dx s e, H' x = some (.ins cC dx [("hook", .ref h), ("sorts", .ref s), ("ends", .ref e)]) → H s = none ∧ H e = none) → Norms bs d.all fs → Keep (fun c => c = x) H H' → Q .non H'
theorem Txt8.c_Calls_init (T : Txt8 K mg hC oA cC) {f : Addr} {fd : FuncData} (F : FunD K "__init__" "Calls.__init__" (defArgs s_Calls_init) (defBody s_Calls_init) (defScope s_Calls_init) [.non] [] f fd) :
    FnOk P w K mg base CX0 3 f fd ["self", "hook", "bounds"] (spCallsI K hC cC) := by
  refine ok0 F sc_Calls_init (fun vs H Q E h => ?_) (fun cdv A outer s H vs Q E hr h => ?_)
  · obtain ⟨x, dx, h, d, v, bs, T, rfl, _⟩ := h
    rfl
  obtain ⟨x, dx, h, d, v, bs, Tb, rfl, hx, hH, ok, hv, hT, hin, hnd, hbl, k⟩ := h
  have hu := hu_of hr
  refine ⟨_, (C8.pss_cut (ps_set (i := 3) sc_Calls_init.nd rfl (by first | exact .inl rfl | exact .inr rfl) (pe_ifExp (pt_cmpR op_isN (pv 2) pe_non (nomark _)) pe_dnewK (pv 2)))
      (pss_cons (ps_set (i := 4) sc_Calls_init.nd rfl (by first | exact .inl rfl | exact .inr rfl) (pe_dc (own := [("param", 6)]) rfl sc_Calls_init.nd (pi_tup (pe_tup (StX.pa_star (pe_fld (pv 1) rfl) (StX.pa_star (pe_fld (pv 1) rfl) pa_nil)))) (blkOk_by (own := [("param", 6)]) (N := ["self", "hook", "bounds", "given", "sorts", "name", "param"]) (sc := defScope s_Calls_init) (by decide +kernel)) (fun _ _ _ _ _ => (pg_name (i := 6) sc_Calls_init.nd rfl (by first | exact .inl rfl | exact .inr rfl))) (fun _ _ _ _ _ => pts_nil) (fun _ _ _ _ _ => (pe_ix ix_tupB (pv 6) pe_int (fun _ _ => rfl))) (fun _ _ _ _ _ => (pe_ix ix_tupB (pv 6) pe_int (fun _ _ => rfl)))))
      (pss_cons (ps_for PassesOwn.never rfl (pi_list (pe_callB (call_sortedD (by rfl)) (by rfl) T.f_sorted (by decide +kernel) (pa_cons (pv 3) pa_nil))) (pg_name (i := 5) sc_Calls_init.nd rfl (by first | exact .inl rfl | exact .inr rfl)) (pss_one (ps_if (PW.pt (pw_or (pt_cmp (pc_dnotin hu (pv 5) (pv 4))) (pw_or1 (pt_not (pt_val (C8.pe_c T.c_is_bound hr (by decide) (by rfl) (pa_cons (pe_dget hu (pv 4) (pv 5) (fun _ _ => rfl)) (pa_cons (pe_dget hu (pv 3) (pv 5) (fun _ _ => rfl)) pa_nil)))))))) (pss_one ps_never) pss_nil)))
      (pss_cons (ps_fld (pv 0) (pv 1) rfl)
      (pss_cons (ps_fld (pv 0) (pv 4) rfl)
      (pss_one (ps_fld (pv 0) (pe_lock (pe_dc (own := [("name", 5)]) rfl sc_Calls_init.nd (pi_keys (pv 4)) (blkOk_by (own := [("name", 5)]) (N := ["self", "hook", "bounds", "given", "sorts", "name", "param"]) (sc := defScope s_Calls_init) (by decide +kernel)) (fun _ _ _ _ _ => (pg_name (i := 5) sc_Calls_init.nd rfl (by first | exact .inl rfl | exact .inr rfl))) (fun _ _ _ _ _ => pts_nil) (fun _ _ _ _ _ => (pv 5)) (fun _ _ _ _ _ => (C8.pe_c T.c_normal hr (by decide) (by rfl) (pa_cons (pe_dget hu (pv 4) (pv 5) (fun _ _ => rfl)) (pa_cons (pe_dget1 hu (pv 3) (pv 5) ⟨by rfl, by rfl, by rfl, by rfl⟩) pa_nil)))))) rfl))))))), ?_⟩
  have cl := T.m_bound.cl
  have hcl := T.m_look.cl
  refine ⟨fun σ H' => ∃ G, σ = [some (.ref x), some (.ref h), some v, some (.ref G), none, none, none] ∧ H' G = some (.dK (tk Tb)) ∧ Kp0 H H', ?_, ?_⟩
  · rcases hv with ⟨rfl, rfl, rfl⟩ | ⟨D, rfl, hD⟩
    · refine ⟨_, rfl, rfl, _, rfl, ite2 (fun _ => ?_) (fun z => absurd (decide_eq_true rfl) z)⟩
      exact fun G nG => ⟨G, rfl, upd_same, Keep.refl.new nG⟩
    · refine ⟨_, rfl, rfl, _, rfl, ite2 (fun z => absurd (of_decide_eq_true z) (fun y => by cases y)) (fun _ => ?_)⟩
      exact ⟨_, rfl, D, rfl, hD, .refl⟩
  · rintro σ H1 ⟨G, rfl, hG, k1⟩
    obtain ⟨dx', p, o, n, xs, ys, h1, h2, h3, h4, h5, h6⟩ := (hH.keep k1).ex
    have hxl : xs.length = d.ps.length := (Paired.length h3).symm
    have hyl : ys.length = d.os.length := (Paired.length h5).symm
    have hle := ok.le
    have hal : d.all.length = d.ps.length + d.os.length := List.length_append
    refine ⟨_, rfl, h, hC, dx', _, .ref p, rfl, h1, hcl, T.n_h _ (by decide), rfl, p, xs, rfl, .inl h2, _, rfl, h, hC, dx', _, .ref o, rfl, h1, hcl, T.n_h _ (by decide), rfl, o, ys, rfl, .inl h4, by rw [List.append_nil, List.length_append, sizeLine_eq]; omega, fun tp ntp => ?_⟩
    rw [List.append_nil]
    have k2 : Kp0 H1 (upd H1 tp (.tup (xs ++ ys))) := Keep.refl.new ntp
    refine ⟨tp, rfl, ⟨_, .of upd_same⟩, fun S nS => ?_⟩
    have hall := paired_append h3 h5
    refine dc_tup (xs := xs ++ ys) (fun j H' => H' S = some (.dK (tk (srts (d.all.take j)))) ∧ Kp0 (upd H1 tp (.tup (xs ++ ys))) H') ⟨upd_same, Keep.refl.new nS⟩ (fun j H' _ ⟨_, kk⟩ => kk.sqt0 (.of upd_same)) ?_ ?_
    · rintro j y H2 hy ⟨hS, kk⟩
      obtain ⟨q, hq, t, rfl, ht⟩ := paired_get hall hy
      have ht2 := (k2.trans kk).sqt0 ht
      have hjl : j < d.all.length := (List.getElem?_eq_some_iff.mp hq).1
      have htk : d.all.take (j + 1) = d.all.take j ++ [q] := by rw [List.take_add_one, (show d.all[j]? = some q from hq)]; rfl
      refine ⟨rfl, _, rfl, t, _, 0, .str q.1, rfl, rfl, ht2, rfl, _, rfl, t, _, 1, .str (srt q.2), rfl, rfl, ht2, rfl, _, Sum.inr q.1, rfl, hS, by rw [tk_len]; exact small1000 (by unfold srts; rw [List.length_map, List.length_take]; omega), ?_, kk.own nS⟩
      have hnl : q.1 ∉ (srts (d.all.take j)).map (·.1) := fun z => by
        rw [srts_names] at z
        have nd2 : ((d.all.take (j + 1)).map (·.1)).Nodup := ok.nd.sublist ((List.take_sublist _ _).map _)
        rw [htk, List.map_append, List.nodup_append] at nd2
        exact nd2.2.2 _ z _ (List.mem_singleton.mpr rfl) rfl
      rw [upd_same, tk_put (lookup_notin hnl), htk]
      unfold srts
      rw [List.map_append]; rfl
    · rintro H2 ⟨hS, kk⟩
      have hlall : (xs ++ ys).length = d.all.length := by rw [List.length_append]; omega
      rw [hlall, List.take_length] at hS
      have k3 : Kp0 H1 H2 := k2.trans kk
      have k03 : Kp0 H H2 := k1.trans k3
      have nS0 : H S = none := (k1.trans k2).free0 nS
      have hG2 : H2 G = some (.dK (tk Tb)) := k3.at0 hG
      have hTl : Tb.length ≤ 3 := by have := Paired.length hT; omega
      have hTn : Tb.map (·.1) = bs.map (·.1) := hT.names
      refine ⟨_, rfl, G, tk Tb, Tb.map (·.1), rfl, .inl hG2, tk_keys Tb, by rw [List.length_map]; omega, fun zs r pm so nr => ⟨r, rfl, ⟨_, .of upd_same⟩, ?_⟩⟩
      have k4 : Kp0 H2 (upd H2 r (.lst (zs.map V.str))) := Keep.refl.new nr
      refine for_list (xs := zs.map V.str) (fun i σ H' => ∃ y, σ = [some (.ref x), some (.ref h), some v, some (.ref G), some (.ref S), y, none] ∧ Kp0 (upd H2 r (.lst (zs.map V.str))) H') ⟨none, rfl, .refl⟩ (fun i σ H' _ ⟨_, _, kk⟩ => .of (kk.at0 upd_same)) ?_ ?_
      · rintro i z σ H3 hz ⟨y, rfl, kk3⟩
        obtain ⟨nm, hnm, rfl⟩ := List.mem_map.mp (List.mem_of_getElem? hz)
        have k5 : Kp0 H2 H3 := k4.trans kk3
        have hnb : nm ∈ bs.map (·.1) := by rw [← hTn]; exact pm.mem_iff.mp hnm
        obtain ⟨⟨nm', b⟩, hb, rfl⟩ := List.mem_map.mp hnb
        rcases hT.look nm' with ⟨z, _⟩ | ⟨b', u, e1, e2, hbu⟩
        · rw [lookup_in hnd hb] at z; cases z
        rw [lookup_in hnd hb] at e1
        cases e1
        have hs := srts_look ok.nd (hin _ hb)
        have g1 := dget_tk (n := nm') (k5.at0 hS)
        have g2 := dget_tk (n := nm') (k5.at0 hG2)
        rw [show (srts d.all).lookup nm' = some (.str (srt b.isW)) from hs] at g1
        rw [e2] at g2
        refine ⟨_, rfl, _, rfl, S, _, rfl, g1, _, rfl, ite2 (fun z => absurd z (by simp)) (fun _ => ?_)⟩
        refine ⟨_, rfl, _, rfl, S, _, rfl, g1, _, rfl, _, rfl, G, _, rfl, g2, b, u, rfl, hbu.keep (k03.trans k5), fun H4 k6 => ⟨_, rfl, ite2 (fun z => absurd z (by decide)) (fun _ => ?_)⟩⟩
        exact ⟨_, rfl, kk3.trans k6⟩
      · rintro σ H3 ⟨y, rfl, kk3⟩
        have k5 : Kp0 H2 H3 := k4.trans kk3
        have k05 : Kp0 H H3 := k03.trans k5
        refine ⟨_, rfl, _, rfl, x, cC, dx, _, rfl, k05.at0 hx, cl, T.n_c _ (by decide), (by show 0 < 1000; omega), ?_⟩
        refine ⟨_, rfl, _, rfl, x, cC, dx, _, rfl, upd_same, cl, T.n_c _ (by decide), (by show 1 < 1000; omega), ?_⟩
        have k6 : Keep (fun c => c = x) H (upd (upd H3 x (.ins cC dx (putF "hook" (.ref h) []))) x (.ins cC dx (putF "sorts" (.ref S) (putF "hook" (.ref h) [])))) := Keep.mutx (Keep.mutx k05.weak0)
        have hx6 : upd (upd H3 x (.ins cC dx (putF "hook" (.ref h) []))) x (.ins cC dx (putF "sorts" (.ref S) (putF "hook" (.ref h) []))) x = some (.ins cC dx [("hook", .ref h), ("sorts", .ref S)]) := upd_same
        have hxS : S ≠ x := fun z => by rw [z, hx] at nS0; cases nS0
        have hxG : G ≠ x := fun z => by
          have e1 := k1.at0 hx
          rw [← z, hG] at e1; cases e1
        have hS6 : upd (upd H3 x (.ins cC dx (putF "hook" (.ref h) []))) x (.ins cC dx (putF "sorts" (.ref S) (putF "hook" (.ref h) []))) S = some (.dK (tk (srts d.all))) := by rw [upd_ne hxS, upd_ne hxS]; exact k5.at0 hS
        have hG6 : upd (upd H3 x (.ins cC dx (putF "hook" (.ref h) []))) x (.ins cC dx (putF "sorts" (.ref S) (putF "hook" (.ref h) []))) G = some (.dK (tk Tb)) := by rw [upd_ne hxG, upd_ne hxG]; exact k5.at0 hG2
        have hT6 : Tab (fun b u => BdAt (upd (upd H3 x (.ins cC dx (putF "hook" (.ref h) []))) x (.ins cC dx (putF "sorts" (.ref S) (putF "hook" (.ref h) [])))) u b) bs Tb := Tab.imp (fun b u z => z.keepM k6 fun a o e m => by
          rw [show a = x from m, hx] at e
          cases e
          exact ⟨(fun _ z => by cases z), (fun _ z => by cases z)⟩) hT
        have hGS : G ≠ S := fun z => by rw [z] at hG; rw [upd_ne (ne_of_none (by exact hG) ntp), hG] at nS; cases nS
        revert k6 hx6 hS6 hG6 hT6
        generalize upd (upd H3 x (.ins cC dx (putF "hook" (.ref h) []))) x (.ins cC dx (putF "sorts" (.ref S) (putF "hook" (.ref h) []))) = H4
        intro k6 hx6 hS6 hG6 hT6
        refine ⟨S, .dK (tk (srts d.all)), hS6, trivial, fun od => ⟨_, rfl, S, od, rfl, .inl ⟨_, upd_same, fun E nE => ?_⟩⟩⟩
        have hT7 : Tab (fun b u => BdAt (upd H4 S (.frz od (.dK (tk (srts d.all))))) u b) bs Tb := Tab.imp (fun b u z => z.put hS6) hT6
        have hG7 : upd H4 S (.frz od (.dK (tk (srts d.all)))) G = some (.dK (tk Tb)) := by rw [upd_ne hGS]; exact hG6
        refine dc_it (J := Itk S od (tk (srts d.all))) (n := d.all.length) (item := fun i x => ∃ q, d.all[i]? = some q ∧ x = .str q.1) (fun i H' => ∃ fs T', H' E = some (.dK (tk T')) ∧ Tab (fun b u => NmAt K H' u b) fs T' ∧ Norms bs (d.all.take i) fs ∧ Kp0 (upd H4 S (.frz od (.dK (tk (srts d.all))))) H')
          ⟨[], [], upd_same, .nil, .nil, Keep.refl.new nE⟩ ?_ ?_ ?_ ?_ ?_
        · rintro i H' hi ⟨_, _, _, _, _, kk⟩
          exact ⟨kk.at0 upd_same, by rw [tk_len]; unfold srts; rw [List.length_map]; exact hi⟩
        · rintro H' ⟨_, _, _, _, _, kk⟩
          exact ⟨kk.at0 upd_same, by rw [tk_len]; unfold srts; rw [List.length_map]; exact Nat.le_refl _⟩
        · rintro i z H' H'' hi _ ⟨e, kx, vx, e1, e2⟩
          refine ⟨e, d.all[i], List.getElem?_eq_getElem hi, ?_⟩
          unfold tk srts at e1
          rw [List.map_map, List.getElem?_map, List.getElem?_eq_getElem hi] at e1
          have e3 := Option.some.inj e1
          have e4 : (Sum.inr d.all[i].1 : Key) = kx := congrArg Prod.fst e3
          rw [e2, ← e4]; rfl
        · rintro i z H5 hi ⟨q, hq, rfl⟩ ⟨fs, T', hE, hTa, hN, kk⟩
          have hs := srts_look ok.nd (List.mem_of_getElem? hq)
          have g1 := dget_frz (n := q.1) (kk.at0 upd_same)
          rw [hs] at g1
          have g2 := dget_tk (n := q.1) (kk.at0 hG7)
          have htk : d.all.take (i + 1) = d.all.take i ++ [q] := by rw [List.take_add_one, hq]; rfl
          have hob : ∃ ob, ob = bs.lookup q.1 ∧ optV H5 ((Tb.lookup q.1).getD .non) ob ∧ ∀ b, ob = some b → b.isW = q.2 := by
            rcases hT7.look q.1 with ⟨z1, z2⟩ | ⟨b, u, z1, z2, z3⟩
            · exact ⟨none, z1.symm, by rw [z2]; rfl, fun b z => by cases z⟩
            · refine ⟨some b, z1.symm, by rw [z2]; exact z3.keep kk, fun b' z => ?_⟩
              cases z
              have e1 := lookup_in ok.nd (hin _ (lookup_mem z1))
              rw [lookup_in ok.nd (List.mem_of_getElem? hq)] at e1
              exact (Option.some.inj e1).symm
          obtain ⟨ob, hob1, hob2, hob3⟩ := hob
          refine ⟨rfl, _, rfl, _, rfl, _, rfl, S, _, rfl, g1, _, rfl, G, rfl, .inl ⟨_, .inl (kk.at0 hG7)⟩, _, rfl, _, g2, q.2, _, ob, rfl, hob2, hob3, fun v' n' H6 hn hw hv' k7 => ?_⟩
          have hE6 := k7.at0 hE
          have hfl : fs.length = i := by
            have := Paired.length hN
            rw [List.length_take] at this
            omega
          have hnl : T'.lookup q.1 = none := lookup_notin fun z => by
            rw [hTa.names] at z
            have e1 : fs.map (·.1) = (d.all.take i).map (·.1) := by rw [← kinds_names, show kinds fs = d.all.take i from Norms.names hN]
            rw [e1] at z
            have nd2 : ((d.all.take (i + 1)).map (·.1)).Nodup := ok.nd.sublist ((List.take_sublist _ _).map _)
            rw [htk, List.map_append, List.nodup_append] at nd2
            exact nd2.2.2 _ z _ (List.mem_singleton.mpr rfl) rfl
          refine ⟨_, Sum.inr q.1, rfl, hE6, by rw [tk_len]; exact small1000 (by have := Paired.length hTa; omega), fs ++ [(q.1, n')], T' ++ [(q.1, v')], by rw [upd_same, tk_put hnl], ?_, ?_, (kk.trans k7).own nE⟩
          · exact Tab.snoc (Tab.imp (fun _ _ z => z.put hE6 (fun _ z => by cases z) (fun _ _ z => by cases z)) (Tab.keep k7 hTa)) (hv'.put hE6 (fun _ z => by cases z) (fun _ _ z => by cases z))
          · rw [htk]
            exact Paired.snoc hN ⟨rfl, hw, by rw [← hob1]; exact hn⟩
        · rintro H5 ⟨fs, T', hE, hTa, hN, kk⟩
          rw [List.take_length] at hN
          have hS5 : H5 S = some (.frz od (.dK (tk (srts d.all)))) := kk.at0 upd_same
          have k8 : Kp0 H4 (upd H5 S (.dK (tk (srts d.all)))) := lock_keep hS6 kk
          have hES : E ≠ S := fun z => by rw [z, upd_same] at nE; cases nE
          have hE4 : H4 E = none := by rw [upd_ne hES] at nE; exact nE
          have hEx : E ≠ x := fun z => by rw [z, hx6] at hE4; cases hE4
          refine ⟨hS5, _, rfl, x, cC, dx, _, rfl, k8.at0 hx6, cl, T.n_c _ (by decide), (by show 2 < 1000; omega), ?_⟩
          have hE0 : H E = none := by
            cases q : H E with
            | none => rfl
            | some u =>
              have := k6 _ _ q hEx
              rw [hE4] at this; cases this
          refine k _ fs ⟨⟨dx, S, E, T', upd_same, ?_, ?_, ?_, hES.symm⟩, Norms.names hN⟩ (fun dx2 s2 e2 z => ?_) hN (Keep.mutx (k6.trans k8.weak0))
          rotate_left 3
          · rw [upd_same] at z
            have z2 : S = s2 ∧ E = e2 := by
              have e1 := Option.some.inj z
              injection e1 with _ _ e3
              have l1 : some (V.ref S) = some (V.ref s2) := congrArg (fun l : List (Str × V) => l.lookup (Str.ofString "sorts")) e3
              have l2 : some (V.ref E) = some (V.ref e2) := congrArg (fun l : List (Str × V) => l.lookup (Str.ofString "ends")) e3
              exact ⟨V.ref.inj (Option.some.inj l1), V.ref.inj (Option.some.inj l2)⟩
            rw [← z2.1, ← z2.2]
            exact ⟨nS0, hE0⟩
          · rw [upd_ne hxS, upd_same]
          · rw [upd_ne hEx, upd_ne hES]; exact hE
          · exact Tab.imp (fun _ _ z => (z.put hS5 (fun _ z => by cases z) (fun _ _ z => by cases z)).put (k8.at0 hx6) (fun _ z => by cases z) (fun _ _ z => by cases z)) hTa
theorem Txt8.k_Calls2 (T : Txt8 K mg hC oA cC) : C8.Mak P w K mg base 3 "Calls" cC (spCallsI K hC cC) [] := by
  obtain ⟨f, fd, F, M⟩ := T.i_Calls.ex
  obtain ⟨ds, hd, hb⟩ := FunD.binds1 (ps := ["self", "hook", "bounds"]) F 3 1 (fun z => by cases z) rfl (fun T kV doc pm an cdv ct us its h1 h2 => by
    match us, h1, its, h2 with
    | [_, _, _], _, [_], _ => exact ⟨_, rfl, rfl⟩)
  exact ⟨f, fd, _, ds, M, T.c_Calls_init F, T.i_Calls.mg, hb, hd⟩
theorem Txt8.k_Calls1 (T : Txt8 K mg hC oA cC) : C8.Mak P w K mg base 3 "Calls" cC (spCallsI K hC cC) [.non] := by
  obtain ⟨f, fd, F, M⟩ := T.i_Calls.ex
  obtain ⟨ds, hd, hb⟩ := FunD.binds1 (ps := ["self", "hook", "bounds"]) F 2 0 (fun z => by cases z) rfl (fun T kV doc pm an cdv ct us its h1 h2 => by
    match us, h1, its, h2 with
    | [_, _], _, [_], _ => exact ⟨_, rfl, rfl⟩)
  exact ⟨f, fd, _, ds, M, T.c_Calls_init F, T.i_Calls.mg, hb, hd⟩
def spBoundM (K : PySem.W.Frag) (cC : Addr) : Sp := fun vs H Q _ => ∃ (x h : Addr) (ps : List (Str × Bool)) (fs : List (Str × Bd)) (n : Str) (b : Bd), vs = [.ref x, .str n] ∧ CallsAt K cC H x h ps fs ∧ (ps.map (·.1)).Nodup ∧ (n, b) ∈ fs ∧ ∀ v, NmAt K H v b → Q v H
theorem Txt8.c_Calls_bound (T : Txt8 K mg hC oA cC) : C8.Met P w K mg base 1 cC "bound" (spBoundM K cC) [] := by
  refine met_of T.m_bound sc_Calls_bound (fun _ _ _ _ _ _ us hl => match us, hl with | [_, _], _ => rfl) (fun vs H Q E h => ?_) (fun f cdv A outer s H vs Q E hr h => ?_)
  · obtain ⟨x, h, ps, fs, n, b, rfl, _⟩ := h
    rfl
  obtain ⟨x, h, ps, fs, n, b, rfl, hc, nd, hm, k⟩ := h
  have hu := hu_of hr
  refine ⟨_, (pss_cons (ps_if (pt_cmp (pc_dnotin hu (pv 1) (pe_fld (pv 0) rfl))) (pss_one ps_never) pss_nil)
      (pss_one (ps_ret (pe_dget hu (pe_fld (pv 0) rfl) (pv 1) (fun _ _ => rfl))))), ?_⟩
  obtain ⟨dx, s, e, Te, h1, h2, h3, h4, h5⟩ := hc.ex
  have cl := T.m_bound.cl
  have ndf : (fs.map (·.1)).Nodup := by rw [← kinds_names, hc.kd]; exact nd
  rcases h4.look n with ⟨z, _⟩ | ⟨b', v, e1, e2, hv⟩
  · rw [lookup_in ndf hm] at z; cases z
  rw [lookup_in ndf hm] at e1
  cases e1
  have g := dget_tk (n := n) h3
  rw [e2] at g
  refine ⟨_, rfl, _, rfl, x, cC, dx, _, .ref e, rfl, h1, cl, T.n_c _ (by decide), rfl, e, _, rfl, g, _, rfl, ite2 (fun z => absurd z (by simp)) (fun _ => ?_)⟩
  exact ⟨_, rfl, x, cC, dx, _, .ref e, rfl, h1, cl, T.n_c _ (by decide), rfl, _, rfl, e, v, rfl, g, k v hv⟩
def spContains (K : PySem.W.Frag) (cC : Addr) : Sp := fun vs H Q _ => ∃ (x h C : Addr) (ps : List (Str × Bool)) (fs : List (Str × Bd)) (S : List (Str × V)), vs = [.ref x, .ref C] ∧ CallsAt K cC H x h ps fs ∧ (ps.map (·.1)).Nodup ∧ ps.length ≤ 3 ∧ CallAt H C ps S ∧ ∀ H', Kp0 H H' → Q (.bl (inB fs S)) H'
theorem Txt8.c_Calls_contains (T : Txt8 K mg hC oA cC) : C8.Met P w K mg base 2 cC "__contains__" (spContains K cC) [] := by
  refine met_of T.m_contains sc_Calls_contains (fun _ _ _ _ _ _ us hl => match us, hl with | [_, _], _ => rfl) (fun vs H Q E h => ?_) (fun f cdv A outer s H vs Q E hr h => ?_)
  · obtain ⟨x, h, C, ps, fs, S, rfl, _⟩ := h
    rfl
  obtain ⟨x, h, C, ps, fs, S, rfl, hc, nd, hlen, hC2, k⟩ := h
  have hu := hu_of hr
  refine ⟨_, (pss_one (ps_ret (pe_callB (cr_all (by rfl)) (by rfl) T.f_all (by decide +kernel) (pa_cons (pe_lock (pe_lc (own := [("name", 2)]) rfl sc_Calls_contains.nd (pi_keys (pe_fld (pv 0) rfl)) (blkOk_by (own := [("name", 2)]) (N := ["self", "call", "name"]) (sc := defScope s_Calls_contains) (by decide +kernel)) (fun _ _ _ _ _ => (pg_name (i := 2) sc_Calls_contains.nd rfl (by first | exact .inl rfl | exact .inr rfl))) (fun _ _ _ _ _ => pts_nil) (fun _ _ _ _ _ => (C8.pe_c T.c_has hr (by decide) (by rfl) (pa_cons (pe_dget hu (pe_fldB (pv 0) rfl) (pv 2) (fun _ _ => rfl)) (pa_cons (pe_dget hu (pe_fldB (pv 0) rfl) (pv 2) (fun _ _ => rfl)) (pa_cons (pe_dget hu (pv 1) (pv 2) (fun _ _ => rfl)) pa_nil))))))) pa_nil)))), ?_⟩
  obtain ⟨dx, s, e, Te, h1, h2, h3, h4, h5⟩ := hc.ex
  have cl := T.m_bound.cl
  have ndf : (fs.map (·.1)).Nodup := by rw [← kinds_names, hc.kd]; exact nd
  have hxe : x ≠ e := fun z => by rw [z, h3] at h1; cases h1
  have htl : Te.length = fs.length := (Paired.length h4).symm
  have hfl : fs.length ≤ 3 := by have := congrArg List.length hc.kd; unfold kinds at this; rw [List.length_map] at this; omega
  refine ⟨e, .dK (tk Te), h3, trivial, fun od => ⟨_, rfl, x, cC, dx, _, .ref e, rfl, by rw [upd_ne hxe]; exact h1, cl, T.n_c _ (by decide), rfl, e, od, rfl, .inl ⟨_, upd_same, fun D nD => ?_⟩⟩⟩
  have hDe : D ≠ e := fun z => by rw [z, upd_same] at nD; cases nD
  refine lc_it (J := Itk e od (tk Te)) (n := fs.length) (item := fun i z => ∃ f, fs[i]? = some f ∧ z = .str f.1) (fun i H' => H' D = some (.lst (((fs.take i).map fun f => hasB f.2 ((S.lookup f.1).getD .non)).map V.bl)) ∧ Kp0 (upd H e (.frz od (.dK (tk Te)))) H')
    ⟨upd_same, Keep.refl.new nD⟩ ?_ ?_ ?_ ?_ ?_
  · rintro i H' hi ⟨_, kk⟩
    exact ⟨kk.at0 upd_same, by rw [tk_len, htl]; exact hi⟩
  · rintro H' ⟨_, kk⟩
    exact ⟨kk.at0 upd_same, by rw [tk_len, htl]; exact Nat.le_refl _⟩
  · rintro i z H' H'' hi _ ⟨e0, kx, vx, e1, e2⟩
    refine ⟨e0, fs[i], List.getElem?_eq_getElem hi, ?_⟩
    unfold tk at e1
    rw [List.getElem?_map, List.getElem?_eq_getElem (by omega)] at e1
    have e3 := Option.some.inj e1
    have e4 : (Sum.inr (Te[i]'(by omega)).1 : Key) = kx := congrArg Prod.fst e3
    obtain ⟨f', hf', e5, _⟩ := paired_get h4 (List.getElem?_eq_getElem (l := Te) (i := i) (by omega))
    rw [List.getElem?_eq_getElem hi] at hf'
    rw [e2, ← e4]
    show V.str (Te[i]'(by omega)).1 = _
    rw [← e5, Option.some.inj hf']
  · rintro i z H1 hi ⟨f, hf, rfl⟩ ⟨hD, kk⟩
    have hk := hc.kd
    have hp : ps[i]? = some (f.1, f.2.isW) := by
      rw [← hk]
      unfold kinds
      rw [List.getElem?_map, hf]; rfl
    have htk : fs.take (i + 1) = fs.take i ++ [f] := by rw [List.take_add_one, hf]; rfl
    have g1 := dget_in (n := f.1) h2 h3 kk
    rw [show (srts ps).lookup f.1 = some (.str (srt f.2.isW)) from srts_look nd (List.mem_of_getElem? hp)] at g1
    obtain ⟨v, hv0, g2⟩ : ∃ v, NmAt K H v f.2 ∧ DGet H1 e (.str f.1) (some v) := by
      rcases h4.look f.1 with ⟨z, _⟩ | ⟨b', v, e1, e2, hv⟩
      · rw [lookup_in ndf (List.mem_of_getElem? hf)] at z; cases z
      · rw [lookup_in ndf (List.mem_of_getElem? hf)] at e1
        cases e1
        have g := dget_in (n := f.1) h3 h3 kk
        rw [e2] at g
        exact ⟨v, hv, g⟩
    have hv : NmAt K H1 v f.2 := (hv0.put h3 (fun _ z => by cases z) (fun _ _ z => by cases z)).keep kk
    have hx1 : H1 x = some (.ins cC dx [("hook", .ref h), ("sorts", .ref s), ("ends", .ref e)]) := kk.at0 (by rw [upd_ne hxe]; exact h1)
    obtain ⟨y, hy, hl, _⟩ := hC2.get (H' := H) .refl nd hp
    have g3 := dget_in (n := f.1) hC2.1 h3 kk
    rw [hl] at g3
    refine ⟨rfl, _, rfl, x, cC, dx, _, .ref s, rfl, hx1, cl, T.n_c _ (by decide), rfl, _, rfl, s, _, rfl, g1, _, rfl, x, cC, dx, _, .ref e, rfl, hx1, cl, T.n_c _ (by decide), rfl, _, rfl, e, v, rfl, g2, _, rfl, _, rfl, C, y, rfl, g3, v, y, f.2, rfl, hv, hy,
      _, hD, small1000 (by rw [List.length_map, List.length_map, List.length_take]; omega), ?_, kk.own (by rw [upd_ne hDe] at nD ⊢; exact nD)⟩
    rw [upd_same, htk, List.map_append, List.map_append, show hasB f.2 y = hasB f.2 ((S.lookup f.1).getD .non) by rw [hl]; rfl]; rfl
  · rintro H1 ⟨hD, kk⟩
    rw [List.take_length] at hD
    have k8 : Kp0 H (upd H1 e (.dK (tk Te))) := lock_keep h3 kk
    refine ⟨kk.at0 upd_same, D, _, rfl, .of (by rw [upd_ne hDe]; exact hD), ?_⟩
    rw [show ((fs.map fun f => hasB f.2 ((S.lookup f.1).getD .non)).all id) = fs.all (fun f => hasB f.2 ((S.lookup f.1).getD .non)) from List.all_map]
    exact k _ k8
def spBoolM (K : PySem.W.Frag) (cC : Addr) : Sp := fun vs H Q _ => ∃ (x h : Addr) (ps : List (Str × Bool)) (fs : List (Str × Bd)), vs = [.ref x] ∧ CallsAt K cC H x h ps fs ∧ (ps.map (·.1)).Nodup ∧ ps.length ≤ 3 ∧ ∀ H', Kp0 H H' → Q (.bl (!(fs.any fun f => emptyB f.2))) H'
theorem Txt8.c_Calls_bool (T : Txt8 K mg hC oA cC) : C8.Met P w K mg base 2 cC "__bool__" (spBoolM K cC) [] := by
  refine met_of T.m_bool sc_Calls_bool (fun _ _ _ _ _ _ us hl => match us, hl with | [_], _ => rfl) (fun vs H Q E h => ?_) (fun f cdv A outer s H vs Q E hr h => ?_)
  · obtain ⟨x, h, ps, fs, rfl, _⟩ := h
    rfl
  obtain ⟨x, h, ps, fs, rfl, hc, nd, hlen, k⟩ := h
  have hu := hu_of hr
  refine ⟨_, (pss_one (ps_ret (pe_not (pe_callB (cr_any (by rfl)) (by rfl) T.f_any (by decide +kernel) (pa_cons (pe_lock (pe_lc (own := [("name", 1)]) rfl sc_Calls_bool.nd (pi_keys (pe_fld (pv 0) rfl)) (blkOk_by (own := [("name", 1)]) (N := ["self", "name"]) (sc := defScope s_Calls_bool) (by decide +kernel)) (fun _ _ _ _ _ => (pg_name (i := 1) sc_Calls_bool.nd rfl (by first | exact .inl rfl | exact .inr rfl))) (fun _ _ _ _ _ => pts_nil) (fun _ _ _ _ _ => (C8.pe_c T.c_is_empty hr (by decide) (by rfl) (pa_cons (pe_dget hu (pe_fldB (pv 0) rfl) (pv 1) (fun _ _ => rfl)) (pa_cons (pe_dget hu (pe_fldB (pv 0) rfl) (pv 1) (fun _ _ => rfl)) pa_nil)))))) pa_nil))))), ?_⟩
  obtain ⟨dx, s, e, Te, h1, h2, h3, h4, h5⟩ := hc.ex
  have cl := T.m_bound.cl
  have ndf : (fs.map (·.1)).Nodup := by rw [← kinds_names, hc.kd]; exact nd
  have hxe : x ≠ e := fun z => by rw [z, h3] at h1; cases h1
  have htl : Te.length = fs.length := (Paired.length h4).symm
  have hfl : fs.length ≤ 3 := by have := congrArg List.length hc.kd; unfold kinds at this; rw [List.length_map] at this; omega
  refine ⟨e, .dK (tk Te), h3, trivial, fun od => ⟨_, rfl, x, cC, dx, _, .ref e, rfl, by rw [upd_ne hxe]; exact h1, cl, T.n_c _ (by decide), rfl, e, od, rfl, .inl ⟨_, upd_same, fun D nD => ?_⟩⟩⟩
  have hDe : D ≠ e := fun z => by rw [z, upd_same] at nD; cases nD
  refine lc_it (J := Itk e od (tk Te)) (n := fs.length) (item := fun i z => ∃ f, fs[i]? = some f ∧ z = .str f.1) (fun i H' => H' D = some (.lst (((fs.take i).map fun f => emptyB f.2).map V.bl)) ∧ Kp0 (upd H e (.frz od (.dK (tk Te)))) H')
    ⟨upd_same, Keep.refl.new nD⟩ ?_ ?_ ?_ ?_ ?_
  · rintro i H' hi ⟨_, kk⟩
    exact ⟨kk.at0 upd_same, by rw [tk_len, htl]; exact hi⟩
  · rintro H' ⟨_, kk⟩
    exact ⟨kk.at0 upd_same, by rw [tk_len, htl]; exact Nat.le_refl _⟩
  · rintro i z H' H'' hi _ ⟨e0, kx, vx, e1, e2⟩
    refine ⟨e0, fs[i], List.getElem?_eq_getElem hi, ?_⟩
    unfold tk at e1
    rw [List.getElem?_map, List.getElem?_eq_getElem (by omega)] at e1
    have e3 := Option.some.inj e1
    have e4 : (Sum.inr (Te[i]'(by omega)).1 : Key) = kx := congrArg Prod.fst e3
    obtain ⟨f', hf', e5, _⟩ := paired_get h4 (List.getElem?_eq_getElem (l := Te) (i := i) (by omega))
    rw [List.getElem?_eq_getElem hi] at hf'
    rw [e2, ← e4]
    show V.str (Te[i]'(by omega)).1 = _
    rw [← e5, Option.some.inj hf']
  · rintro i z H1 hi ⟨f, hf, rfl⟩ ⟨hD, kk⟩
    have hk := hc.kd
    have hp : ps[i]? = some (f.1, f.2.isW) := by
      rw [← hk]
      unfold kinds
      rw [List.getElem?_map, hf]; rfl
    have htk : fs.take (i + 1) = fs.take i ++ [f] := by rw [List.take_add_one, hf]; rfl
    have g1 := dget_in (n := f.1) h2 h3 kk
    rw [show (srts ps).lookup f.1 = some (.str (srt f.2.isW)) from srts_look nd (List.mem_of_getElem? hp)] at g1
    obtain ⟨v, hv0, g2⟩ : ∃ v, NmAt K H v f.2 ∧ DGet H1 e (.str f.1) (some v) := by
      rcases h4.look f.1 with ⟨z, _⟩ | ⟨b', v, e1, e2, hv⟩
      · rw [lookup_in ndf (List.mem_of_getElem? hf)] at z; cases z
      · rw [lookup_in ndf (List.mem_of_getElem? hf)] at e1
        cases e1
        have g := dget_in (n := f.1) h3 h3 kk
        rw [e2] at g
        exact ⟨v, hv, g⟩
    have hv : NmAt K H1 v f.2 := (hv0.put h3 (fun _ z => by cases z) (fun _ _ z => by cases z)).keep kk
    have hx1 : H1 x = some (.ins cC dx [("hook", .ref h), ("sorts", .ref s), ("ends", .ref e)]) := kk.at0 (by rw [upd_ne hxe]; exact h1)
    refine ⟨rfl, _, rfl, x, cC, dx, _, .ref s, rfl, hx1, cl, T.n_c _ (by decide), rfl, _, rfl, s, _, rfl, g1, _, rfl, x, cC, dx, _, .ref e, rfl, hx1, cl, T.n_c _ (by decide), rfl, _, rfl, e, v, rfl, g2, v, f.2, rfl, hv, fun H2 k2 =>
      ⟨_, k2.at0 hD, small1000 (by rw [List.length_map, List.length_map, List.length_take]; omega), ?_, (kk.trans k2).own (by rw [upd_ne hDe] at nD ⊢; exact nD)⟩⟩
    rw [upd_same, htk, List.map_append, List.map_append]; rfl
  · rintro H1 ⟨hD, kk⟩
    rw [List.take_length] at hD
    have k8 : Kp0 H (upd H1 e (.dK (tk Te))) := lock_keep h3 kk
    refine ⟨kk.at0 upd_same, D, _, rfl, .of (by rw [upd_ne hDe]; exact hD), ?_⟩
    rw [show ((fs.map fun f => emptyB f.2).any id) = fs.any (fun f => emptyB f.2) from List.any_map]
    exact ⟨_, rfl, k _ k8⟩
def spTold (K : PySem.W.Frag) (cC : Addr) : Sp := fun vs H Q _ => ∃ (a x h : Addr) (ps : List (Str × Bool)) (fs : List (Str × Bd)), vs = [.ref a, .ref x] ∧ PsAt K H a ps ∧ CallsAt K cC H x h ps fs ∧ (ps.map (·.1)).Nodup ∧ ps.length ≤ 3 ∧ ∀ F H', FsAt K H' F fs → Kp0 H H' → Q (.ref F) H'
theorem Txt8.c_l_told (T : Txt8 K mg hC oA cC) : C8.Cal P w K mg base 2 "_law_told" (spTold K cC) [] := by
  refine cal_of T.d_l_told sc_l_told (fun _ _ _ _ _ _ us hl => match us, hl with | [_, _], _ => rfl) (fun vs H Q E h => ?_) (fun f cdv A outer s H vs Q E hr h => ?_)
  · obtain ⟨a, x, h, ps, fs, rfl, _⟩ := h
    rfl
  obtain ⟨a, x, h, ps, fs, rfl, ⟨xs, hA, hP⟩, hc, nd, hlen, k⟩ := h
  refine ⟨_, (pss_one (ps_ret (pe_callTy (call_dictP (by rfl)) (by rfl) T.f_dict (by decide +kernel) (pa_cons (pe_lc (own := [("_law_name", 2), ("_law_sort", 3)]) rfl sc_l_told.nd (pi_list (pv 0)) (blkOk_by (own := [("_law_name", 2), ("_law_sort", 3)]) (N := ["_law_params", "_law_calls", "_law_name", "_law_sort"]) (sc := defScope s_l_told) (by decide +kernel)) (fun _ _ _ _ _ => (pg_tupB (n := 2) rfl (pgs_cons (pg_name (i := 2) sc_l_told.nd rfl (by first | exact .inl rfl | exact .inr rfl)) (pgs_cons (pg_name (i := 3) sc_l_told.nd rfl (by first | exact .inl rfl | exact .inr rfl)) pgs_nil)))) (fun _ _ _ _ _ => pts_nil) (fun _ _ _ _ _ => (pe_tup (pa_cons (pv 2) (pa_cons (C8.pe_mt T.c_Calls_bound hr (by decide) (pv 1) (pa_cons (pv 2) pa_nil)) pa_nil))))) pa_nil)))), ?_⟩
  obtain ⟨dx, s, e, Te, h1, h2, h3, h4, h5⟩ := hc.ex
  have hxl : xs.length = ps.length := (Paired.length hP).symm
  have hkd := hc.kd
  have ndf : (fs.map (·.1)).Nodup := by rw [← kinds_names, hkd]; exact nd
  have hfl : fs.length = ps.length := by rw [← hkd]; exact (List.length_map ..).symm
  refine ⟨_, rfl, a, rfl, ⟨_, hA⟩, fun L nL => ?_⟩
  refine lc_list (xs := xs) (fun i H' => ∃ (as : List Addr) (T' : List (Str × V)), H' L = some (.lst (as.map V.ref)) ∧ PairsOf K H' as T' ∧ Tab (fun d v => NmAt K H' v d) (fs.take i) T' ∧ as.length ≤ i ∧ Kp0 H H')
    ⟨[], [], upd_same, .nil, .nil, Nat.le_refl _, Keep.refl.new nL⟩ (fun i H' _ ⟨_, _, _, _, _, _, hk⟩ => hk.sql0 hA) ?_ ?_
  · rintro i y H1 hy ⟨as, T', hL, hPs, hTa, hal, hk⟩
    obtain ⟨p, hp, t, rfl, ht⟩ := paired_get hP hy
    have hil : i < ps.length := (List.getElem?_eq_some_iff.mp hp).1
    obtain ⟨d, hd, hw⟩ := kinds_get hkd hp
    have htk : fs.take (i + 1) = fs.take i ++ [(p.1, d)] := by rw [List.take_add_one, hd]; rfl
    refine ⟨t, _, rfl, hk.sqt0 ht, rfl, _, _, rfl, _, _, rfl, rfl, rfl, _, rfl, _, rfl, x, dx, _, rfl, hk.at0 h1, rfl, _, rfl, x, h, ps, fs, p.1, d, rfl, hc.keep hk, nd, List.mem_of_getElem? hd, fun v hv => ?_⟩
    refine ⟨by rw [sizeLine_eq]; show 2 ≤ _; decide, fun r nr => ?_⟩
    have k3 : Kp0 H1 (upd H1 r (.tup [.str p.1, v])) := Keep.refl.new nr
    refine ⟨_, k3.at0 hL, small1000 (by rw [List.length_map]; omega), as ++ [r], T' ++ [(p.1, v)], by rw [upd_same, List.map_append]; rfl, ?_, ?_, by rw [List.length_append]; show as.length + 1 ≤ _; omega, (hk.trans k3).own nL⟩
    · exact Paired.snoc (PairsOf.list (PairsOf.keep k3 hPs) (k3.at0 hL)) (SqT.list (.of upd_same) (k3.at0 hL))
    · rw [htk]
      exact Tab.snoc (Tab.imp (fun _ _ h => NmAt.list h (k3.at0 hL)) (Tab.keep k3 hTa)) (NmAt.list (hv.keep k3) (k3.at0 hL))
  · rintro H1 ⟨as, T', hL, hPs, hTa, hal, hk⟩
    rw [hxl, ← hfl, List.take_length] at hTa
    refine ⟨L, as, tk T', rfl, .of hL, hPs.tk, fun F nF => ?_⟩
    rw [merge_nil (by rw [hTa.names]; exact ndf)]
    have k2 : Kp0 H1 (upd H1 F (.dK (tk T'))) := Keep.refl.new nF
    exact k F _ ⟨T', upd_same, Tab.keep k2 hTa⟩ (hk.trans k2)
end
/-! The law. -/
open PySem PySem.Spec PyProof.Rows L2
abbrev s_law : Stmt := top 49
theorem sc_law : FnScope ["_law_script", "_law_box_here", "_law_turn", "_law_hook_here", "_law_params", "_law_bounds_here", "_law_full", "_law_given", "_law_built", "_law_words_here", "_law_inside", "_law_call", "_law_kept", "_law_name", "_law_sort"] ["_law_script"] (defScope s_law) := ⟨rfl, rfl, rfl, by decide +kernel, rfl, by decide +kernel, by decide +kernel⟩
structure Txt9 (K : PySem.W.Frag) (mg : Str → Option Value) (hC oA cC : Addr) : Prop extends Txt8 K mg hC oA cC where
  ne_h : NeC K hC
/-! ### what stays where lists and dicts change -/
def LD (o : HO) : Prop := (∃ xs, o = .lst xs) ∨ ∃ kvs, o = .dK kvs
def MLD (H : Hp) (M : Addr → Prop) : Prop := ∀ c o, M c → H c = some o → LD o
section
variable {K : PySem.W.Frag} {H H' : Hp} {M : Addr → Prop}
theorem SqT.keepM {a : Addr} {xs : List V} (h : SqT K H a xs) (k : Keep M H H') (m : MLD H M) : SqT K H' a xs :=
  SqT.keep h k fun c o e mc => by
    rcases m c o mc e with ⟨ys, rfl⟩ | ⟨kvs, rfl⟩
    · exact ⟨_, _, e, rfl, (fun _ z => by cases z), fun _ _ z => by cases z⟩
    · exact ⟨_, _, e, rfl, (fun _ z => by cases z), fun _ _ z => by cases z⟩
theorem NmAt.keepM {v : V} {n : Bd} (h : NmAt K H v n) (k : Keep M H H') (m : MLD H M) : NmAt K H' v n := by
  cases n with
  | num lo hi =>
    obtain ⟨t, e, h⟩ := h
    exact ⟨t, e, SqT.keepM h k m⟩
  | wrd ws ins =>
    obtain ⟨t, q, e, h1, h2, h3⟩ := h
    exact ⟨t, q, e, SqT.keepM h1 k m, SqT.keepM h2 k m, h3⟩
theorem insM {a C dx : Addr} {fs : List (Str × V)} (e : H a = some (.ins C dx fs)) (k : Keep M H H') (m : MLD H M) : H' a = some (.ins C dx fs) :=
  k a _ e fun z => by
    rcases m a _ z e with ⟨_, z⟩ | ⟨_, z⟩ <;> cases z
theorem TrAt.keepM {x : V} {p : Str × Bool} (h : TrAt K H x p) (k : Keep M H H') (m : MLD H M) : TrAt K H' x p := by
  obtain ⟨t, e, h⟩ := h
  exact ⟨t, e, SqT.keepM h k m⟩
theorem HookAt.keepM {hC h : Addr} {d : HookD} (x : HookAt K hC H h d) (k : Keep M H H') (m : MLD H M) : HookAt K hC H' h d := by
  obtain ⟨dx, p, o, n, xs, ys, h1, h2, h3, h4, h5, h6⟩ := x.ex
  exact ⟨dx, p, o, n, xs, ys, insM h1 k m, SqT.keepM h2 k m, paired_imp (fun _ _ z => z.keepM k m) h3, SqT.keepM h4 k m, paired_imp (fun _ _ z => z.keepM k m) h5, SqT.keepM h6 k m⟩
theorem FsAt.keepM {F : Addr} {fs : List (Str × Bd)} (h : FsAt K H F fs) (k : Keep M H H') (m : MLD H M) (n : ¬ M F) : FsAt K H' F fs := by
  obtain ⟨T, h1, h2⟩ := h
  exact ⟨T, k _ _ h1 n, Tab.imp (fun _ _ z => z.keepM k m) h2⟩
theorem PsAt.keepM {a : Addr} {ps : List (Str × Bool)} (h : PsAt K H a ps) (k : Keep M H H') (m : MLD H M) (n : ¬ M a) : PsAt K H' a ps := by
  obtain ⟨xs, h1, h2⟩ := h
  exact ⟨xs, k.sql h1 n, paired_imp (fun _ _ ⟨t, e, z⟩ => ⟨t, e, SqT.keepM z k m⟩) h2⟩
theorem PsAt.keep {a : Addr} {ps : List (Str × Bool)} (h : PsAt K H a ps) (k : Kp0 H H') : PsAt K H' a ps := by
  obtain ⟨xs, h1, h2⟩ := h
  exact ⟨xs, k.sql0 h1, paired_imp (fun _ _ z => z.keep k) h2⟩
theorem CallsAt.keepM {cC x h : Addr} {ps : List (Str × Bool)} {fs : List (Str × Bd)} (c : CallsAt K cC H x h ps fs) (k : Keep M H H') (m : MLD H M)
    (n : ∀ dx s e, H x = some (.ins cC dx [("hook", .ref h), ("sorts", .ref s), ("ends", .ref e)]) → ¬ M s ∧ ¬ M e) : CallsAt K cC H' x h ps fs := by
  obtain ⟨dx, s, e, T, h1, h2, h3, h4, h5⟩ := c.ex
  obtain ⟨n1, n2⟩ := n dx s e h1
  exact ⟨⟨dx, s, e, T, insM h1 k m, k _ _ h2 n1, k _ _ h3 n2, Tab.imp (fun _ _ z => z.keepM k m) h4, h5⟩, c.kd⟩
theorem BoxAt.mld {b g : Addr} (h : BoxAt H b g) : MLD H (Bm b g) := fun c o m e => by
  obtain ⟨⟨n, s, t, h1⟩, gs, h2⟩ := h
  rcases m with rfl | rfl
  · rw [h1] at e; cases e; exact .inr ⟨_, rfl⟩
  · rw [h2] at e; cases e; exact .inl ⟨_, rfl⟩
end
/-! ### what is shown -/
def oD : Option Int → PyData
  | none => .none
  | some i => .int i
def nmD : Bd → PyData
  | .num lo hi => .tuple [oD lo, oD hi]
  | .wrd ws ins => .tuple [.tuple (ws.map .str), .bool ins]
def fsD (fs : List (Str × Bd)) : PyData := .dict (fs.map fun f => (.str f.1, nmD f.2))
theorem dd_strs {K : PySem.W.Frag} {H : Hp} : ∀ ws : List Str, DdAll K H (ws.map V.str) (ws.map PyData.str)
  | [] => .nil
  | x :: ws => .cons (.str x) (dd_strs ws)
theorem dd_oI {K : PySem.W.Frag} {H : Hp} (o : Option Int) : Dd K H (oI o) (oD o) := by
  cases o with
  | none => exact .non
  | some i => exact .int i
theorem dd_nm {K : PySem.W.Frag} {H : Hp} {v : V} {n : Bd} (h : NmAt K H v n) : Dd K H v (nmD n) := by
  cases n with
  | num lo hi =>
    obtain ⟨t, rfl, h⟩ := h
    exact .tup h (.cons (dd_oI lo) (.cons (dd_oI hi) .nil))
  | wrd ws ins =>
    obtain ⟨t, q, rfl, h1, h2, _⟩ := h
    exact .tup h1 (.cons (.tup h2 (dd_strs ws)) (.cons (.bl _) .nil))
theorem dd_tab {K : PySem.W.Frag} {H : Hp} : ∀ {fs : List (Str × Bd)} {T : List (Str × V)}, Tab (fun d v => NmAt K H v d) fs T → DdAll K H (T.map (·.2)) (fs.map fun f => nmD f.2)
  | _, _, .nil => .nil
  | _, _, .cons h t => .cons (dd_nm h.2) (dd_tab t)
theorem dd_fs {K : PySem.W.Frag} {H : Hp} {F : Addr} {fs : List (Str × Bd)} (h : FsAt K H F fs) : Dd K H (.ref F) (fsD fs) := by
  obtain ⟨T, h1, h2⟩ := h
  refine .dk (.of h1) ?_ ?_
  · have e := h2.names
    rw [List.map_map]
    have e2 : (tk T).map (fun p => kD p.1) = (T.map (·.1)).map PyData.str := by unfold tk; rw [List.map_map, List.map_map]; rfl
    rw [e2, e, List.map_map]; rfl
  · rw [tk_vals, List.map_map]
    exact dd_tab h2
structure Dok (d : PyData) (w p : Nat) : Prop where
  sh : d.showable = true
  ls : d.leavesShort 13 = true
  wt : d.weight ≤ w
  dp : d.depth ≤ p
theorem Dok.mono {d : PyData} {w p w' p' : Nat} (h : Dok d w p) (hw : w ≤ w') (hp : p ≤ p') : Dok d w' p' := ⟨h.sh, h.ls, Nat.le_trans h.wt hw, Nat.le_trans h.dp hp⟩
theorem dok_none {w p : Nat} : Dok .none w p := ⟨by simp [PyData.showable], by simp [PyData.leavesShort], by simp [PyData.weight], by simp [PyData.depth]⟩
theorem dok_bool {b : Bool} {w p : Nat} : Dok (.bool b) w p := ⟨by simp [PyData.showable], by simp [PyData.leavesShort], by simp [PyData.weight], by simp [PyData.depth]⟩
theorem log_small {i : Int} (h1 : -900001 ≤ i) (h2 : i ≤ 900001) : i.natAbs.log2 < 20 := by
  by_cases z : i.natAbs = 0
  · rw [z]; decide
  · rw [Nat.log2_lt z]
    have : (2 : Nat) ^ 20 = 1048576 := by decide
    omega
theorem dok_int {i : Int} (h1 : -900001 ≤ i) (h2 : i ≤ 900001) {p : Nat} : Dok (.int i) 21 p := by
  have h := log_small h1 h2
  refine ⟨?_, ?_, ?_, by simp [PyData.depth]⟩
  · simp only [PyData.showable, decide_eq_true_eq]; omega
  · simp only [PyData.leavesShort, decide_eq_true_eq]
    exact PyData.shown_int_le (by have : (10 : Nat) ^ 12 = 1000000000000 := by decide
                                  omega)
  · simp only [PyData.weight]
    split <;> omega
theorem dok_str {x : Str} (h : isNm x = true) {p : Nat} : Dok (.str x) 21 p := by
  have h0 := h
  unfold isNm at h
  simp only [Bool.and_eq_true, decide_eq_true_eq, List.all_eq_true] at h
  obtain ⟨⟨h1, h2⟩, h3⟩ := h
  have l : ∀ c ∈ letters, c < 128 := by decide +kernel
  refine ⟨by simp [PyData.showable], ?_, ?_, by simp [PyData.depth]⟩
  · simp only [PyData.leavesShort, List.all_eq_true, decide_eq_true_eq]
    intro c hc
    have := l c (h3 c hc)
    have e : (16 : Nat) ^ 8 = 4294967296 := by decide
    omega
  · simp only [PyData.weight]
    have : x.cps.size ≤ 8 := h2
    omega
theorem dok_all {w p : Nat} : ∀ {ds : List PyData}, (∀ d ∈ ds, Dok d w p) → PyData.showableAll ds = true ∧ PyData.leavesShortAll 13 ds = true ∧ PyData.weightAll ds ≤ (w + 1) * ds.length ∧ PyData.depthAll ds ≤ p
  | [], _ => ⟨by simp [PyData.showableAll], by simp [PyData.leavesShortAll], by simp [PyData.weightAll], by simp [PyData.depthAll]⟩
  | d :: ds, h => by
    have h1 := h d (List.mem_cons_self ..)
    obtain ⟨a1, a2, a3, a4⟩ := dok_all (ds := ds) fun e he => h e (List.mem_cons_of_mem _ he)
    refine ⟨?_, ?_, ?_, ?_⟩
    · simp only [PyData.showableAll, h1.sh, a1, Bool.and_self]
    · simp only [PyData.leavesShortAll, h1.ls, a2, Bool.and_self]
    · simp only [PyData.weightAll, List.length_cons]
      have := h1.wt
      rw [Nat.mul_succ]
      omega
    · simp only [PyData.depthAll]
      have := h1.dp
      omega
theorem dok_tup {w p n : Nat} {ds : List PyData} (h : ∀ d ∈ ds, Dok d w p) (hn : ds.length ≤ n) : Dok (.tuple ds) ((w + 1) * n) (p + 1) := by
  obtain ⟨a1, a2, a3, a4⟩ := dok_all h
  refine ⟨by simp only [PyData.showable, a1], by simp only [PyData.leavesShort, a2], ?_, by simp only [PyData.depth]; omega⟩
  simp only [PyData.weight]
  exact Nat.le_trans a3 (Nat.mul_le_mul_left _ hn)
theorem dok_list {w p n : Nat} {ds : List PyData} (h : ∀ d ∈ ds, Dok d w p) (hn : ds.length ≤ n) : Dok (.list ds) ((w + 1) * n) (p + 1) := by
  obtain ⟨a1, a2, a3, a4⟩ := dok_all h
  refine ⟨by simp only [PyData.showable, a1], by simp only [PyData.leavesShort, a2], ?_, by simp only [PyData.depth]; omega⟩
  simp only [PyData.weight]
  exact Nat.le_trans a3 (Nat.mul_le_mul_left _ hn)
theorem dok_kv {w p : Nat} : ∀ {ds : List (PyData × PyData)}, (∀ d ∈ ds, Dok d.1 w p ∧ Dok d.2 w p) → PyData.showableKv ds = true ∧ PyData.leavesShortKv 13 ds = true ∧ PyData.weightKv ds ≤ (2 * w + 2) * ds.length ∧ PyData.depthKv ds ≤ p
  | [], _ => ⟨by simp [PyData.showableKv], by simp [PyData.leavesShortKv], by simp [PyData.weightKv], by simp [PyData.depthKv]⟩
  | (a, b) :: ds, h => by
    obtain ⟨h1, h2⟩ := h (a, b) (List.mem_cons_self ..)
    obtain ⟨a1, a2, a3, a4⟩ := dok_kv (ds := ds) fun e he => h e (List.mem_cons_of_mem _ he)
    refine ⟨?_, ?_, ?_, ?_⟩
    · simp only [PyData.showableKv, h1.sh, h2.sh, a1, Bool.and_self]
    · simp only [PyData.leavesShortKv, h1.ls, h2.ls, a2, Bool.and_self]
    · simp only [PyData.weightKv, List.length_cons]
      have h3 : a.weight ≤ w := h1.wt
      have h4 : b.weight ≤ w := h2.wt
      rw [Nat.mul_succ]
      omega
    · simp only [PyData.depthKv]
      have h3 : a.depth ≤ p := h1.dp
      have h4 : b.depth ≤ p := h2.dp
      omega
theorem dok_dict {w p n : Nat} {ds : List (PyData × PyData)} (h : ∀ d ∈ ds, Dok d.1 w p ∧ Dok d.2 w p) (hn : ds.length ≤ n) : Dok (.dict ds) ((2 * w + 2) * n) (p + 1) := by
  obtain ⟨a1, a2, a3, a4⟩ := dok_kv h
  refine ⟨by simp only [PyData.showable, a1], by simp only [PyData.leavesShort, a2], ?_, by simp only [PyData.depth]; omega⟩
  simp only [PyData.weight]
  exact Nat.le_trans a3 (Nat.mul_le_mul_left _ hn)
theorem Dok.showy {d : PyData} {w p : Nat} (h : Dok d w p) (hw : w ≤ 2 ^ 20) (hp : p ≤ 64) : Showy d :=
  ⟨h.sh, Nat.le_trans h.dp hp, PyData.shown_fits (B := 13) (by decide) (by decide) h.ls (Nat.le_trans h.wt hw)⟩
/-- a bound in normal form, small -/
def SmN : Bd → Prop
  | .num lo hi => smE lo ∧ smE hi
  | .wrd ws _ => ws.length < 16 ∧ ∀ x ∈ ws, isNm x = true
theorem dok_oD {o : Option Int} (h : smE o) {p : Nat} : Dok (oD o) 21 p := by
  cases o with
  | none => exact dok_none
  | some i =>
    have := h i rfl
    exact dok_int (by omega) (by omega)
theorem dok_nm {n : Bd} (h : SmN n) : Dok (nmD n) 10000 2 := by
  cases n with
  | num lo hi =>
    refine (dok_tup (w := 21) (p := 0) (n := 2) (ds := [oD lo, oD hi]) (fun d hd => ?_) (Nat.le_refl 2)).mono (by decide) (by decide)
    simp only [List.mem_cons, List.not_mem_nil, or_false] at hd
    rcases hd with rfl | rfl
    · exact dok_oD h.1
    · exact dok_oD h.2
  | wrd ws ins =>
    have h1 : Dok (.tuple (ws.map .str)) (22 * 16) 1 := dok_tup (w := 21) (p := 0) (n := 16) (fun d hd => by
      obtain ⟨x, hx, rfl⟩ := List.mem_map.mp hd
      exact dok_str (h.2 x hx)) (by rw [List.length_map]; exact Nat.le_of_lt h.1)
    refine (dok_tup (w := 22 * 16) (p := 1) (n := 2) (ds := [.tuple (ws.map .str), .bool ins]) (fun d hd => ?_) (Nat.le_refl 2)).mono (by decide) (by decide)
    simp only [List.mem_cons, List.not_mem_nil, or_false] at hd
    rcases hd with rfl | rfl
    · exact h1
    · exact dok_bool
theorem showy_fs {fs : List (Str × Bd)} (hl : fs.length ≤ 3) (h : ∀ f ∈ fs, isNm f.1 = true ∧ SmN f.2) : Showy (fsD fs) :=
  (dok_dict (w := 10000) (p := 2) (n := 3) (fun d hd => by
    obtain ⟨f, hf, rfl⟩ := List.mem_map.mp hd
    exact ⟨(dok_str (p := 0) (h f hf).1).mono (by decide) (by decide), dok_nm (h f hf).2⟩) (by rw [List.length_map]; exact hl)).showy (by decide) (by decide)
theorem showy_bools {bs : List Bool} (hl : bs.length ≤ 2) : Showy (.list (bs.map .bool)) :=
  (dok_list (w := 1) (p := 0) (n := 2) (fun d hd => by
    obtain ⟨f, hf, rfl⟩ := List.mem_map.mp hd
    exact dok_bool) (by rw [List.length_map]; exact hl)).showy (by decide) (by decide)
theorem dp_bools {K : PySem.W.Frag} {H : Hp} : ∀ bs : List Bool, DpAll K H (bs.map V.bl) (bs.map PyData.bool)
  | [] => .nil
  | b :: bs => .cons (.bl b) (dp_bools bs)
theorem nodict_bools : ∀ bs : List Bool, PyData.hasDictAll (bs.map PyData.bool) = false
  | [] => by simp [PyData.hasDictAll]
  | b :: bs => by simp only [List.map_cons, PyData.hasDictAll, PyData.hasDict, nodict_bools bs, Bool.or_self]
/-- a call, as it is shown -/
def vD : V → PyData
  | .str x => .str x
  | .int i => .int i
  | _ => .none
def callD (S : List (Str × V)) : PyData := .dict (S.map fun q => (.str q.1, vD q.2))
theorem dd_call {K : PySem.W.Frag} {H : Hp} {ps : List (Str × Bool)} {S : List (Str × V)} {C : Addr} (h : CallV H C ps S) : Dd K H (.ref C) (callD S) := by
  have hv : ∀ {ps : List (Str × Bool)} {S : List (Str × V)}, Paired (fun (p : Str × Bool) (q : Str × V) => q.1 = p.1 ∧ ValOk p.2 q.2) ps S → DdAll K H (S.map (·.2)) (S.map fun q => vD q.2) := by
    intro ps S h
    induction h with
    | nil => exact .nil
    | @cons p q l1 l2 h t ih =>
      refine .cons ?_ ih
      obtain ⟨n, w⟩ := p
      have h2 : ValOk w q.2 := h.2
      cases w with
      | false =>
        obtain ⟨i, e, _⟩ := h2
        show Dd K H q.2 (vD q.2)
        rw [e]; exact .int i
      | true =>
        obtain ⟨y, e, _⟩ := h2
        show Dd K H q.2 (vD q.2)
        rw [e]; exact .str y
  refine .dk (.of h.1) ?_ ?_
  · unfold tk
    rw [List.map_map, List.map_map]; rfl
  · rw [tk_vals, List.map_map]
    exact hv h.2
theorem showy_call {ps : List (Str × Bool)} {S : List (Str × V)} (h : Paired (fun (p : Str × Bool) (q : Str × V) => q.1 = p.1 ∧ ValOk p.2 q.2) ps S) (hn : ∀ p ∈ ps, isNm p.1 = true) (hl : ps.length ≤ 3) : Showy (callD S) := by
  refine (dok_dict (w := 21) (p := 0) (n := 3) (fun d hd => ?_) (by rw [List.length_map, ← Paired.length h]; exact hl)).showy (by decide) (by decide)
  obtain ⟨q, hq, rfl⟩ := List.mem_map.mp hd
  obtain ⟨j, hj⟩ := List.getElem?_of_mem hq
  obtain ⟨⟨n, w⟩, hp, e, hv⟩ := paired_get h hj
  have hn2 : isNm q.1 = true := by rw [e]; exact hn _ (List.mem_of_getElem? hp)
  refine ⟨dok_str hn2, ?_⟩
  have hv' : ValOk w q.2 := hv
  cases w with
  | false =>
    obtain ⟨i, e, h1, h2⟩ := hv'
    show Dok (vD q.2) 21 0
    rw [e]; exact dok_int h1 h2
  | true =>
    obtain ⟨y, e, h1⟩ := hv'
    show Dok (vD q.2) 21 0
    rw [e]; exact dok_str h1
theorem norms_nil : ∀ {ps : List (Str × Bool)} {fs : List (Str × Bd)}, Norms [] ps fs → ∀ f ∈ fs, f.2 = if f.2.isW then .wrd [] false else .num none none
  | _, _, .nil, f, h => (List.not_mem_nil h).elim
  | _, _, .cons (a := p) (b := q) r t, f, h => by
    rcases List.mem_cons.mp h with e | e
    · rw [e]
      have h1 : q.2 = if p.2 then .wrd [] false else .num none none := r.2.2
      rw [r.2.1]; exact h1
    · exact norms_nil t f e
theorem free_empty {ps : List (Str × Bool)} {fs : List (Str × Bd)} (h : Norms [] ps fs) : (fs.any fun f => emptyB f.2) = false := by
  rw [List.any_eq_false]
  intro f hf
  have := norms_nil h f hf
  rw [this]
  cases f.2.isW <;> simp [emptyB]
theorem free_has {d : Bd} (h : d = if d.isW then .wrd [] false else .num none none) {v : V} (hv : OfSort d.isW v) : hasB d v = true := by
  cases d with
  | num lo hi =>
    obtain ⟨i, rfl⟩ := hv
    cases h; rfl
  | wrd ws ins =>
    obtain ⟨x, rfl⟩ := hv
    cases h
    simp [hasB]
theorem free_in {ps : List (Str × Bool)} {fs : List (Str × Bd)} {S : List (Str × V)} (h : Norms [] ps fs) (nd : (ps.map (·.1)).Nodup) (hS : Paired (fun (p : Str × Bool) (q : Str × V) => q.1 = p.1 ∧ OfSort p.2 q.2) ps S) : inB fs S = true := by
  unfold inB
  rw [List.all_eq_true]
  intro f hf
  obtain ⟨j, hj⟩ := List.getElem?_of_mem hf
  obtain ⟨p, hp, e1, e2, _⟩ := paired_get h hj
  obtain ⟨q, hq, e3, hv⟩ := paired_get1 hS hp
  have nd2 : (S.map (·.1)).Nodup := by rw [CallAt.names (H := fun _ => some (.dK (tk S))) (C := 0) ⟨rfl, hS⟩]; exact nd
  have hl : S.lookup f.1 = some q.2 := lookup_in nd2 (by rw [e1, ← e3]; exact List.mem_of_getElem? hq)
  rw [hl]
  exact free_has (norms_nil h f hf) (by rw [e2]; exact hv)
/-! The law walked. -/
open PySem PySem.Spec PyProof.Rows L2
theorem Norms.sm {bs : List (Str × Bd)} (hb : ∀ q ∈ bs, SmB q.2) : ∀ {ps : List (Str × Bool)} {fs : List (Str × Bd)}, Norms bs ps fs → ∀ f ∈ fs, SmB f.2
  | _, _, .nil, f, h => (List.not_mem_nil h).elim
  | _, _, .cons (a := p) (b := q) r t, f, h => by
    rcases List.mem_cons.mp h with e | e
    · rw [e]
      have h1 := r.2.2
      cases z : bs.lookup p.1 with
      | none =>
        rw [z] at h1
        have h2 : q.2 = if p.2 then .wrd [] false else .num none none := h1
        rw [h2]
        cases p.2
        · exact ⟨fun _ z => (by cases z), fun _ z => (by cases z)⟩
        · trivial
      | some d =>
        rw [z] at h1
        have h3 := hb _ (lookup_mem z)
        cases d with
        | num lo hi =>
          have h2 : q.2 = .num lo hi := h1
          rw [h2]; exact h3
        | wrd ws ins =>
          obtain ⟨ys, _, h2⟩ := h1
          rw [h2]; trivial
    · exact Norms.sm hb t f e
theorem tab_smN {K : PySem.W.Frag} {H : Hp} : ∀ {fs : List (Str × Bd)} {T : List (Str × V)}, Tab (fun d v => NmAt K H v d) fs T → (∀ f ∈ fs, SmB f.2) → ∀ f ∈ fs, SmN f.2
  | _, _, .nil, _, f, h => (List.not_mem_nil h).elim
  | _, _, .cons (a := q) r t, hs, f, h => by
    rcases List.mem_cons.mp h with e | e
    · rw [e]
      have h1 := r.2
      have h2 := hs q (List.mem_cons_self ..)
      obtain ⟨n, d⟩ := q
      cases d with
      | num lo hi => exact h2
      | wrd ws ins =>
        obtain ⟨_, _, _, _, _, h3⟩ := h1
        exact h3
    · exact tab_smN t (fun f hf => hs f (List.mem_cons_of_mem _ hf)) f e
theorem dp_oI {K : PySem.W.Frag} {H : Hp} (o : Option Int) : Dp K H (oI o) (oD o) := by
  cases o with
  | none => exact .non
  | some i => exact .int i
theorem dp_nm {K : PySem.W.Frag} {H : Hp} {v : V} {n : Bd} (h : NmAt K H v n) : Dp K H v (nmD n) := by
  cases n with
  | num lo hi =>
    obtain ⟨t, rfl, h⟩ := h
    exact .tup h (.cons (dp_oI lo) (.cons (dp_oI hi) .nil))
  | wrd ws ins =>
    obtain ⟨t, q, rfl, h1, h2, _⟩ := h
    exact .tup h1 (.cons (.tup h2 (dp_strs ws)) (.cons (.bl _) .nil))
theorem dp_tab {K : PySem.W.Frag} {H : Hp} : ∀ {fs : List (Str × Bd)} {T : List (Str × V)}, Tab (fun d v => NmAt K H v d) fs T → DpAll K H (T.map (·.2)) (fs.map fun f => nmD f.2)
  | _, _, .nil => .nil
  | _, _, .cons h t => .cons (dp_nm h.2) (dp_tab t)
/-- a set of calls and its two dicts -/
structure CallsX (K : PySem.W.Frag) (cC : Addr) (H : Hp) (x h : Addr) (ps : List (Str × Bool)) (fs : List (Str × Bd)) (dx s e : Addr) : Prop where
  ob : H x = some (.ins cC dx [("hook", .ref h), ("sorts", .ref s), ("ends", .ref e)])
  so : H s = some (.dK (tk (srts ps)))
  en : FsAt K H e fs
  ne : s ≠ e
  kd : kinds fs = ps
theorem CallsX.at_ {K : PySem.W.Frag} {cC : Addr} {H : Hp} {x h : Addr} {ps : List (Str × Bool)} {fs : List (Str × Bd)} {dx s e : Addr} (c : CallsX K cC H x h ps fs dx s e) : CallsAt K cC H x h ps fs := by
  obtain ⟨T, h1, h2⟩ := c.en
  exact ⟨⟨dx, s, e, T, c.ob, c.so, h1, h2, c.ne⟩, c.kd⟩
theorem CallsX.keepM {K : PySem.W.Frag} {cC : Addr} {H H' : Hp} {M : Addr → Prop} {x h : Addr} {ps : List (Str × Bool)} {fs : List (Str × Bd)} {dx s e : Addr} (c : CallsX K cC H x h ps fs dx s e) (k : Keep M H H') (m : MLD H M) (n1 : ¬ M s) (n2 : ¬ M e) : CallsX K cC H' x h ps fs dx s e :=
  ⟨insM c.ob k m, k _ _ c.so n1, c.en.keepM k m n2, c.ne, c.kd⟩
theorem CallsX.keep {K : PySem.W.Frag} {cC : Addr} {H H' : Hp} {x h : Addr} {ps : List (Str × Bool)} {fs : List (Str × Bd)} {dx s e : Addr} (c : CallsX K cC H x h ps fs dx s e) (k : Kp0 H H') : CallsX K cC H' x h ps fs dx s e :=
  ⟨k.at0 c.ob, k.at0 c.so, c.en.keep k, c.ne, c.kd⟩
theorem MLD.one {H : Hp} {G : Addr} {kvs : List (Key × V)} (h : H G = some (.dK kvs)) : MLD H (fun c => c = G) := fun c o m e => by
  rw [show c = G from m, h] at e
  cases e
  exact .inr ⟨_, rfl⟩
/-- a pair of words and a mark, its words in a list or a tuple that is new -/
def WAt (H2 : Hp) (L : Addr) (H : Hp) (v : V) : Prop := ∃ (t q : Addr) (ins : Bool), v = .ref t ∧ H t = some (.tup [.ref q, .bl ins]) ∧ ((∃ ys, H q = some (.lst ys)) ∨ ∃ ys, H q = some (.tup ys)) ∧ H2 q = none ∧ q ≠ L
theorem WAt.keep {H2 H H' : Hp} {L : Addr} {v : V} (h : WAt H2 L H v) (k : Kp0 H H') : WAt H2 L H' v := by
  obtain ⟨t, q, ins, e, h1, h2, h3⟩ := h
  exact ⟨t, q, ins, e, k.at0 h1, h2.imp (fun ⟨ys, z⟩ => ⟨ys, k.at0 z⟩) (fun ⟨ys, z⟩ => ⟨ys, k.at0 z⟩), h3⟩
theorem WAt.clear {H2 H : Hp} {L q' : Addr} {v : V} {zs : List V} (h : WAt H2 L H v) (hq : H q' = some (.lst zs)) : WAt H2 L (upd H q' (.lst [])) v := by
  obtain ⟨t, q, ins, e, h1, h2, h3⟩ := h
  refine ⟨t, q, ins, e, ?_, ?_, h3⟩
  · rw [upd_ne (fun z => by rw [z, hq] at h1; cases h1)]; exact h1
  · by_cases z : q = q'
    · rw [z]; exact .inl ⟨[], upd_same⟩
    · rw [upd_ne z]; exact h2
section
variable {P : Program} {w : World} {K : PySem.W.Frag} {mg : Str → Option Value} {base : Heap} {hC oA cC : Addr}
def spLaw (K : PySem.W.Frag) : Sp := fun vs H Q _ => ∃ (a : Addr) (ns : List Int), vs = [.ref a] ∧ SqL K H a (ns.map V.int) ∧ ns.length ≤ 63 ∧ ∀ H', Q (.bl true) H'
theorem Txt9.run_law (T : Txt9 K mg hC oA cC) {f : Addr} {fd : FuncData} (F : FunD K "law" "law" (defArgs s_law) (defBody s_law) (defScope s_law) [] [] f fd) : RunAt P w K mg base CX0 callerA f fd ["_law_script"] (spLaw K) := by
  refine run_at (k := 6) F ⟨rfl, by decide, by decide⟩ sc_law (fun vs H Q E h => ?_) (fun cdv outer s H vs Q E hr h => ?_)
  · obtain ⟨a, ns, rfl, _⟩ := h
    rfl
  obtain ⟨a, ns, rfl, hA, hl, k⟩ := h
  have hu := hu_of hr
  have hun := hr.un
  have hu70 : (callerA.deeper (envOfC "law" (defScope s_law) s.heap.objs.size f cdv)).units + 70 < cLine := by omega
  have hu66 : (callerA.deeper (envOfC "law" (defScope s_law) s.heap.objs.size f cdv)).units + 66 < cLine := by omega
  refine ⟨_, PSs.nox (pss_cons (ps_set (i := 1) sc_law.nd rfl (by first | exact .inl rfl | exact .inr rfl) (C8.pe_c T.c_l_box hr (by decide) (by rfl) (pa_cons (pv 0) (pa_cons pe_int pa_nil))))
      (pss_cons (ps_for PassesOwn.never rfl (pi_range1 (by rfl) (T.f_range) (pa_cons pe_int pa_nil)) (pg_name (i := 2) sc_law.nd rfl (by first | exact .inl rfl | exact .inr rfl)) (pss_cons (ps_asg (C8.pe_c T.c_l_hook hr (by decide) (by rfl) (pa_cons (pv 1) pa_nil)) (pg_tup rfl (pgs_cons (pg_name (i := 3) sc_law.nd rfl (by first | exact .inl rfl | exact .inr rfl)) (pgs_cons (pg_name (i := 4) sc_law.nd rfl (by first | exact .inl rfl | exact .inr rfl)) pgs_nil))))
        (pss_cons (ps_set (i := 5) sc_law.nd rfl (by first | exact .inl rfl | exact .inr rfl) (C8.pe_c T.c_l_bounds hr (by decide) (by rfl) (pa_cons (pv 1) (pa_cons (pv 4) pa_nil))))
        (pss_cons (ps_par (i := 6) (j := 7) rfl sc_law.nd rfl rfl (by decide) rfl rfl (pa_cons (C8.pe_c T.c_l_normals hr (by decide) (by rfl) (pa_cons (pv 4) (pa_cons (pv 5) pa_nil))) (pa_cons (pe_callTy call_dictD (by rfl) T.f_dict (by decide +kernel) (pa_cons (pv 5) pa_nil)) pa_nil)) (by rfl))
        (pss_cons (ps_set (i := 8) sc_law.nd rfl (by first | exact .inl rfl | exact .inr rfl) (C8.pe_mk T.k_Calls2 hr (by decide) (by rfl) (pa_cons (pv 3) (pa_cons (pv 7) pa_nil))))
        (pss_cons (ps_for PassesOwn.never rfl (pi_list (pe_lc (own := [("_law_name", 13), ("_law_sort", 14)]) rfl sc_law.nd (pi_list (pv 4)) (blkOk_by (own := [("_law_name", 13), ("_law_sort", 14)]) (N := ["_law_script", "_law_box_here", "_law_turn", "_law_hook_here", "_law_params", "_law_bounds_here", "_law_full", "_law_given", "_law_built", "_law_words_here", "_law_inside", "_law_call", "_law_kept", "_law_name", "_law_sort"]) (sc := defScope s_law) (by decide +kernel)) (fun _ _ _ _ _ => (pg_tupB (n := 2) rfl (pgs_cons (pg_name (i := 13) sc_law.nd rfl (by first | exact .inl rfl | exact .inr rfl)) (pgs_cons (pg_name (i := 14) sc_law.nd rfl (by first | exact .inl rfl | exact .inr rfl)) pgs_nil)))) (fun _ _ _ _ _ => (pts_one (PW.pt (pw_and (pt_cmpR op_eq (pv 14) pe_str (nomark _)) (pw_and1 (pt_cmp (pc_din hu (pv 13) (pv 5)))))))) (fun _ _ _ _ _ => (pe_dget hu (pv 5) (pv 13) (fun _ _ => rfl))))) (pg_tup rfl (pgs_cons (pg_name (i := 9) sc_law.nd rfl (by first | exact .inl rfl | exact .inr rfl)) (pgs_cons (pg_name (i := 10) sc_law.nd rfl (by first | exact .inl rfl | exact .inr rfl)) pgs_nil))) (pss_one (ps_if (pt_val (pe_callB call_isi (by rfl) T.f_isinstance (by decide +kernel) (pa_cons (pv 9) (pa_cons (pe_bltn (v := .ty "list") (u := .type "list") (by rfl) T.f_list (by decide +kernel) (by rfl)) pa_nil)))) (pss_one (ps_expr (pe_bm0 PySem.F.plainAttrs_list PySem.F.slot_list_clear PySem.F.type_list_clear mt_clear (pv 9)))) pss_nil)))
        (pss_cons (ps_expr (pe_dclear (pv 7)))
        (pss_cons (ps_if (PW.pt (pw_or (pt_cmpR (op_neOwn T.c_Hook_eq T.ne_h (hr.mono (by decide))) (pe_fld (pv 8) rfl) (pv 3) (nomark _)) (pw_or (pt_cmpR (op_neOwn T.c_Hook_eq T.ne_h (hr.mono (by decide))) (pe_fld (pv 8) rfl) (C8.pe_c T.c_l_twin hr (by decide) (by rfl) (pa_cons (pv 3) pa_nil)) (nomark _)) (pw_or1 (pt_cmpR op_ne (pe_callB (call_repr (by rfl) hu70) (by rfl) T.f_repr (by decide +kernel) (pa_cons (C8.pe_c T.c_l_told hr (by decide) (by rfl) (pa_cons (pv 4) (pa_cons (pv 8) pa_nil))) pa_nil)) (pe_callB (call_repr (by rfl) hu70) (by rfl) T.f_repr (by decide +kernel) (pa_cons (pv 6) pa_nil)) (nomark _)))))) (pss_one (ps_ret pe_bl)) pss_nil)
        (pss_cons (ps_if (pt_cmpR op_ne (pe_callB (call_repr (by rfl) hu70) (by rfl) T.f_repr (by decide +kernel) (pa_cons (pe_lst (pa_cons (pe_callTy (call_boolOwn T.c_Calls_bool (hr.mono (by decide))) (by rfl) T.f_bool (by decide +kernel) (pa_cons (pv 8) pa_nil)) (pa_cons (pe_callTy (call_boolOwn T.c_Calls_bool (hr.mono (by decide))) (by rfl) T.f_bool (by decide +kernel) (pa_cons (C8.pe_mk T.k_Calls1 hr (by decide) (by rfl) (pa_cons (pv 3) pa_nil)) pa_nil)) pa_nil))) pa_nil)) (pe_callB (call_repr (by rfl) hu70) (by rfl) T.f_repr (by decide +kernel) (pa_cons (pe_lst (pa_cons (pe_not (C8.pe_c T.c_l_is_void hr (by decide) (by rfl) (pa_cons (pv 4) (pa_cons (pv 6) pa_nil)))) (pa_cons pe_bl pa_nil))) pa_nil)) (nomark _)) (pss_one (ps_ret pe_bl)) pss_nil)
        (pss_cons (ps_for PassesOwn.never rfl (pi_list (C8.pe_c T.c_l_near_calls hr (by decide) (by rfl) (pa_cons (pv 1) (pa_cons (pv 4) (pa_cons (pe_lst (pa_cons (pv 6) pa_nil)) pa_nil))))) (pg_name (i := 11) sc_law.nd rfl (by first | exact .inl rfl | exact .inr rfl)) (pss_cons (ps_set (i := 12) sc_law.nd rfl (by first | exact .inl rfl | exact .inr rfl) (pe_callB (call_repr (by rfl) hu70) (by rfl) T.f_repr (by decide +kernel) (pa_cons (pv 11) pa_nil)))
          (pss_cons (ps_if (pt_cmpR op_ne (pe_callB (call_repr (by rfl) hu70) (by rfl) T.f_repr (by decide +kernel) (pa_cons (pe_lst (pa_cons (pe_cmpR (op_inOwn T.c_Calls_contains (hr.mono (by decide))) (pv 11) (pv 8) (by rfl)) (pa_cons (pe_cmpR (op_inOwn T.c_Calls_contains (hr.mono (by decide))) (pv 11) (C8.pe_mk T.k_Calls2 hr (by decide) (by rfl) (pa_cons (pv 3) (pa_cons pe_dnewK pa_nil))) (by rfl)) pa_nil))) pa_nil)) (pe_callB (call_repr (by rfl) hu70) (by rfl) T.f_repr (by decide +kernel) (pa_cons (pe_lst (pa_cons (C8.pe_c T.c_l_is_in hr (by decide) (by rfl) (pa_cons (pv 4) (pa_cons (pv 6) (pa_cons (pv 11) pa_nil)))) (pa_cons pe_bl pa_nil))) pa_nil)) (nomark _)) (pss_one (ps_ret pe_bl)) pss_nil)
          (pss_one (ps_if (pt_cmpR op_ne (pe_callB (call_repr (by rfl) hu70) (by rfl) T.f_repr (by decide +kernel) (pa_cons (pv 11) pa_nil)) (pv 12) (nomark _)) (pss_one (ps_ret pe_bl)) pss_nil)))))
        (pss_one (ps_if (pt_cmpR (op_neDict hu66) (C8.pe_c T.c_l_told hr (by decide) (by rfl) (pa_cons (pv 4) (pa_cons (C8.pe_mk T.k_Calls1 hr (by decide) (by rfl) (pa_cons (pv 3) pa_nil)) pa_nil))) (C8.pe_c T.c_l_normals hr (by decide) (by rfl) (pa_cons (pv 4) (pa_cons pe_dnewK pa_nil))) (nomark _)) (pss_one (ps_ret pe_bl)) pss_nil))))))))))))
      (pss_one (ps_ret pe_bl)))), ?_⟩
  refine ⟨_, rfl, a, ns, 0, rfl, hA, hl, fun b g H1 hB1 nb ng k1 => ?_⟩
  refine ⟨_, rfl, by decide, by decide, ?_⟩
  refine for_range (lo := 0) (n := 6) (fun i σ H' => ∃ y2 y3 y4 y5 y6 y7 y8 y9 y10 y11 y12 y13 y14 : Option V, σ = [some (.ref a), some (.ref b), y2, y3, y4, y5, y6, y7, y8, y9, y10, y11, y12, y13, y14] ∧ BoxAt H' b g) ?_ ?_ ?_
  · exact ⟨none, none, none, none, none, none, none, none, none, none, none, none, none, rfl, hB1⟩
  · rintro i σ H1 hi ⟨y2, y3, y4, y5, y6, y7, y8, y9, y10, y11, y12, y13, y14, rfl, hB1⟩
    have hcl := T.m_look.cl
    have cl := T.m_bound.cl
    refine ⟨_, rfl, b, g, rfl, hB1, fun r h pa d H2 hr2 hH ok hPs npa hpl hB2 k2 => ?_⟩
    refine ⟨r, _, rfl, .of hr2, rfl, _, _, rfl, _, _, rfl, rfl, ?_⟩
    have hna : ¬ Bm b g pa := hB1.off npa
    have hle := ok.le
    refine ⟨_, rfl, _, rfl, b, g, pa, d.all, rfl, hB2, hPs, hna, ok.nd, by omega, fun D bs T3 H3 nD hD hT hsub hm hB3 k3 => ?_⟩
    have hbl : bs.length ≤ 3 := by have := hsub.length_le; rw [List.length_map, List.length_map] at this; omega
    have hnd : (bs.map (·.1)).Nodup := ok.nd.sublist hsub
    have hTb : Tab (fun d v => BdAt H3 v d) bs T3 := Tab.imp (fun _ _ z => z.at_) hT
    have hPs3 := hPs.keepM k3 hB2.mld hna
    have hH3 := hH.keepM k3 hB2.mld
    refine ⟨_, rfl, _, rfl, pa, D, d.all, bs, T3, rfl, hPs3, ok.nd, by omega, hD, hTb, fun q hq => (hm q hq).1, fun F fs Tf H4 nF hF hTF hN k4 => ?_⟩
    refine ⟨_, rfl, D, tk T3, rfl, .inl (k4.at0 hD), fun G nG => ?_⟩
    refine ⟨_, _, rfl, ?_⟩
    have k5 : Kp0 H4 (upd H4 G (.dK (tk T3))) := Keep.refl.new nG
    have k35 := k4.trans k5
    have hG5 : upd H4 G (.dK (tk T3)) G = some (.dK (tk T3)) := upd_same
    have hF5 : FsAt K (upd H4 G (.dK (tk T3))) F fs := FsAt.keep ⟨Tf, hF, hTF⟩ k5
    have hFG : F ≠ G := fun z => by rw [z, nG] at hF; cases hF
    have hGb := (hB3.keep k4).off nG
    have hFb := hB3.off nF
    have hsmB := hN.sm (fun q hq => (hm q hq).2)
    have hsmN := tab_smN hTF hsmB
    revert k35 hG5 hF5
    generalize upd H4 G (.dK (tk T3)) = H5
    intro k35 hG5 hF5
    have hB5 := hB3.keep k35
    have hH5 := hH3.keep k35
    have hPs5 := hPs3.keep k35
    have hT5 : Tab (fun d v => BdNew H2 H5 v d) bs T3 := Tab.imp (fun _ _ z => BdNew.keep z k35 (fun _ _ _ => id) (fun _ _ _ _ => id)) hT
    have hD5 := k35.at0 hD
    -- the set of calls
    refine ⟨_, rfl, _, rfl, fun x dx nx ndx ne => ?_⟩
    have k6 : Kp0 H5 (upd (upd H5 dx (.own x)) x (.ins cC dx [])) := (Keep.refl.new ndx).new (by rw [upd_ne (fun z => ne z.symm)]; exact nx)
    refine ⟨x, dx, h, d, .ref G, bs, T3, rfl, upd_same, hH5.keep k6, ok, .inr ⟨G, rfl, k6.at0 hG5⟩, Tab.imp (fun _ _ z => z.at_.keep k6) hT5, fun q hq => (hm q hq).1, hnd, hbl, fun H6 fs' hc hse hN' kk => ⟨rfl, ?_⟩⟩
    obtain rfl : fs' = fs := hN'.uniq hN
    have k56 : Kp0 H5 H6 := (k6.weak0.trans kk).drop fun c z => .inr (by rw [show c = x from z]; exact nx)
    obtain ⟨dx0, s0, e0, T0, q1, q2, q3, q4, q5⟩ := hc.ex
    obtain ⟨ns0, ne0⟩ := hse dx0 s0 e0 q1
    have hX6 : CallsX K cC H6 x h d.all fs' dx0 s0 e0 := ⟨q1, q2, ⟨T0, q3, q4⟩, q5, hc.kd⟩
    have ns5 : H5 s0 = none := k6.free0 ns0
    have ne5 : H5 e0 = none := k6.free0 ne0
    -- words that were handed in are emptied
    obtain ⟨xs, hA6, hP6⟩ := hPs5.keep k56
    have hxl : xs.length = d.all.length := (Paired.length hP6).symm
    refine ⟨_, rfl, pa, rfl, ⟨_, hA6⟩, fun L nL => ?_⟩
    refine lc_list (xs := xs) (fun j H' => ∃ vs, H' L = some (.lst vs) ∧ vs.length ≤ j ∧ (∀ v ∈ vs, WAt H2 L H' v) ∧ Kp0 H6 H') ⟨[], upd_same, Nat.le_refl _, (fun v h => (List.not_mem_nil h).elim), Keep.refl.new nL⟩ (fun j H' _ ⟨_, _, _, _, kk⟩ => kk.sql0 hA6) ?_ ?_
    · rintro j y H7 hy ⟨vs, hL, hvl, hvs, k7⟩
      obtain ⟨p, hp, t, rfl, ht⟩ := paired_get hP6 hy
      have hjl : j < d.all.length := (List.getElem?_eq_some_iff.mp hp).1
      have hpm := List.mem_of_getElem? hp
      have skip : ∃ vs, H7 L = some (.lst vs) ∧ vs.length ≤ j + 1 ∧ (∀ v ∈ vs, WAt H2 L H7 v) ∧ Kp0 H6 H7 := ⟨vs, hL, by omega, hvs, k7⟩
      have hD7 := k7.at0 (k56.at0 hD5)
      have gD := dget_tk (n := p.1) hD7
      refine ⟨t, _, rfl, k7.sqt0 ht, rfl, _, _, rfl, _, _, rfl, rfl, rfl, _, rfl, rfl, _, rfl, ite2 (fun ew => ?_) (fun _ => iteF skip)⟩
      refine ⟨_, rfl, _, rfl, D, _, rfl, gD, _, rfl, ite2 (fun es => ?_) (fun _ => skip)⟩
      rcases hT5.look p.1 with ⟨_, z⟩ | ⟨bd, v, e1, e2, hv⟩
      · rw [z] at es; cases es
      rw [e2] at gD
      have hw : p.2 = true := by
        cases hp2 : p.2 with
        | true => rfl
        | false => rw [hp2] at ew; exact absurd ew srtF_wrd
      have hbw : bd.isW = true := by
        have h1 := lookup_in ok.nd (hm _ (lookup_mem e1)).1
        rw [lookup_in ok.nd hpm] at h1
        rw [← Option.some.inj h1]; exact hw
      cases bd with
      | num lo hi => cases hbw
      | wrd ws ins =>
        obtain ⟨t', q, rfl, g1, g2, g3, g4, g5⟩ := hv
        have hqL : q ≠ L := fun z => by
          have : ∃ o, H6 q = some o := by
            rcases g2 with g2 | g2
            · exact ⟨_, k56.at0 g2⟩
            · exact ⟨_, k56.at0 g2⟩
          obtain ⟨o, ho⟩ := this
          rw [z, nL] at ho; cases ho
        have k57 := k56.trans k7
        have hW : WAt H2 L H7 (.ref t') := ⟨t', q, ins, rfl, k57.at0 g1, g2.imp (fun z => ⟨_, k57.at0 z⟩) (fun z => ⟨_, k57.at0 z⟩), g5, hqL⟩
        have wl : ∀ {v : V} {o : HO}, WAt H2 L H7 v → WAt H2 L (upd H7 L o) v := fun {v o} ⟨t, q, ins, e, z1, z2, z3, z4⟩ =>
          ⟨t, q, ins, e, by rw [upd_ne (fun z => by rw [z, hL] at z1; cases z1)]; exact z1, by rw [upd_ne z4]; exact z2, z3, z4⟩
        refine ⟨_, rfl, _, rfl, D, _, rfl, gD, vs, hL, small1000 (by omega), vs ++ [.ref t'], upd_same, by rw [List.length_append]; show vs.length + 1 ≤ _; omega, fun v hv => ?_, k7.own nL⟩
        rcases List.mem_append.mp hv with z | z
        · exact wl (hvs v z)
        · rw [List.mem_singleton.mp z]; exact wl hW
    · rintro H7 ⟨vs, hL7, hvl, hvs7, k7⟩
      refine ⟨L, rfl, ⟨_, .of hL7⟩, ?_⟩
      have mld7 : MLD H7 (fun c => c ≠ L ∧ H2 c = none ∧ ∃ ys, H7 c = some (.lst ys)) := fun c o ⟨_, _, ys, m⟩ e => by
        rw [m] at e; cases e; exact .inl ⟨_, rfl⟩
      refine for_list (xs := vs) (fun j σ H' => ∃ y9 y10 : Option V, σ = [some (.ref a), some (.ref b), some (.int (0 + (i : Int))), some (.ref h), some (.ref pa), some (.ref D), some (.ref F), some (.ref G), some (.ref x), y9, y10, y11, y12, y13, y14] ∧ (∀ v ∈ vs, WAt H2 L H' v) ∧ Keep (fun c => c ≠ L ∧ H2 c = none ∧ ∃ ys, H7 c = some (.lst ys)) H7 H') ?_ ?_ ?_ ?_
      · exact ⟨_, _, rfl, hvs7, .refl⟩
      · rintro j σ H' _ ⟨_, _, _, _, kj⟩
        exact .of (kj _ _ hL7 fun m => m.1 rfl)
      · rintro j v σ H8 hv ⟨y9, y10, rfl, hvs, kj⟩
        have hvm := List.mem_of_getElem? hv
        obtain ⟨t, q, ins, rfl, z1, z2, z3, z4⟩ := hvs v hvm
        refine ⟨t, _, rfl, .of z1, rfl, _, _, rfl, _, _, rfl, rfl, ?_⟩
        rcases z2 with ⟨ys, z2⟩ | ⟨ys, z2⟩
        · refine ⟨_, rfl, _, _, _, _, true, rfl, .ty _, .base (.lst z2), kit_ty (by decide +kernel), _, rfl, ite2 (fun _ => ?_) (fun z => absurd rfl z)⟩
          refine ⟨_, rfl, .inl ⟨rfl, _, .inl (.inl z2)⟩, q, ys, rfl, rfl, z2, _, _, rfl, fun v hv => (hvs v hv).clear z2, kj.mut ⟨z4, z3, ?_⟩⟩
          obtain ⟨t7, q7, ins7, e7, w1, w2, w3, w4⟩ := hvs7 _ hvm
          cases e7
          have w5 := kj _ _ w1 (fun m => by obtain ⟨_, _, ys, m⟩ := m; rw [w1] at m; cases m)
          rw [z1] at w5
          cases w5
          rcases w2 with w2 | ⟨ys', w2⟩
          · exact w2
          · have w6 := kj _ _ w2 (fun m => by obtain ⟨_, _, ys, m⟩ := m; rw [w2] at m; cases m)
            rw [z2] at w6; cases w6
        · refine ⟨_, rfl, _, _, _, _, false, rfl, .ty _, .base (.tup z2), kit_ty (by decide +kernel), _, rfl, ite2 (fun z => by cases z) (fun _ => ?_)⟩
          exact ⟨_, _, rfl, hvs, kj⟩
      · rintro σ H8 ⟨y9, y10, rfl, _, k8⟩
        have k57 := k56.trans k7
        have mB : ∀ c, Bm b g c → ¬ (c ≠ L ∧ H2 c = none ∧ ∃ ys, H7 c = some (.lst ys)) := fun c hc ⟨_, m, _⟩ => by
          obtain ⟨⟨n, s, t, h1⟩, gs, h2⟩ := hB2
          rcases hc with rfl | rfl
          · rw [h1] at m; cases m
          · rw [h2] at m; cases m
        have hB8 : BoxAt H8 b g := by
          obtain ⟨⟨n, s, t, h1⟩, gs, h2⟩ := hB5.keep k57
          exact ⟨⟨n, s, t, k8 _ _ h1 (mB _ (.inl rfl))⟩, gs, k8 _ _ h2 (mB _ (.inr rfl))⟩
        have ndk : ∀ {c kvs}, H7 c = some (.dK kvs) → ¬ (c ≠ L ∧ H2 c = none ∧ ∃ ys, H7 c = some (.lst ys)) := fun h ⟨_, _, _, m⟩ => by rw [h] at m; cases m
        have hH8 := (hH5.keep k57).keepM k8 mld7
        have hpaM : ¬ (pa ≠ L ∧ H2 pa = none ∧ ∃ ys, H7 pa = some (.lst ys)) := fun ⟨_, m, _⟩ => by obtain ⟨zs, z⟩ := hpl; rw [z] at m; cases m
        have hPs8 := (hPs5.keep k57).keepM k8 mld7 hpaM
        have hF7 := hF5.keep k57
        have hF8 : FsAt K H8 F fs' := hF7.keepM k8 mld7 (by obtain ⟨T1, f1, _⟩ := hF7; exact ndk f1)
        have hX7 := hX6.keep k7
        have hX8 := hX7.keepM k8 mld7 (ndk hX7.so) (by obtain ⟨T1, f1, _⟩ := hX7.en; exact ndk f1)
        have hG8 : H8 G = some (.dK (tk T3)) := k8 _ _ (k57.at0 hG5) (ndk (k57.at0 hG5))
        refine ⟨_, rfl, .inr (.inr (.inl ⟨rfl, .inl ⟨_, hG8⟩⟩)), G, tk T3, rfl, rfl, hG8, ?_⟩
        have k9 : Keep (fun c => c = G) H8 (upd H8 G (.dK [])) := Keep.mutx .refl
        have m9 := MLD.one hG8
        have hB9 : BoxAt (upd H8 G (.dK [])) b g := by
          obtain ⟨⟨n, s, t, h1⟩, gs, h2⟩ := hB8
          exact ⟨⟨n, s, t, by rw [upd_ne (fun z => hGb (.inl z.symm))]; exact h1⟩, gs, by rw [upd_ne (fun z => hGb (.inr z.symm))]; exact h2⟩
        have hH9 := hH8.keepM k9 m9
        have hPs9 := hPs8.keepM k9 m9 (fun z => by
          obtain ⟨zs, z2⟩ := hpl
          have z3 := k35.at0 (k3 _ _ z2 hna)
          rw [show pa = G from z, hG5] at z3; cases z3)
        have hF9 := hF8.keepM k9 m9 hFG
        have hX9 := hX8.keepM k9 m9 (fun z => by rw [show s0 = G from z, hG5] at ns5; cases ns5) (fun z => by rw [show e0 = G from z, hG5] at ne5; cases ne5)
        clear k9 m9
        generalize upd H8 G (.dK []) = H9 at hB9 hH9 hPs9 hF9 hX9 ⊢
        have hs0 := hB5.off ns5
        have he0 := hB5.off ne5
        clear hG8 hX8 hX7 hF8 hF7 hPs8 hH8 hB8 k8 mld7 hvs7 hL7 hX6 q1 q2 q3 q4 ns0 ne0 hc hse kk hP6 hA6 k56 k57 k6 k7 nL hT5 hD5 hPs5 hH5 hF5 k35 hB5 hH3 hPs3 hTb hT hD hB3 k3
        have hkd : kinds fs' = d.all := hX9.kd
        have hfl : fs'.length ≤ 3 := by have := congrArg List.length hkd; unfold kinds at this; rw [List.length_map] at this; omega
        have hnm : ∀ f ∈ fs', isNm f.1 = true ∧ SmN f.2 := fun f hf => ⟨(ok.ns (f.1, f.2.isW) (by rw [← hkd]; exact List.mem_map.mpr ⟨f, hf, rfl⟩)).1, hsmN f hf⟩
        have shF := showy_fs hfl hnm
        -- the hook that was built in, a twin of it, and what is told
        obtain ⟨dxh, ph, oh, nh, xsh, ysh, hh, hh'⟩ := hH9.ex
        refine ⟨_, rfl, x, cC, dx0, _, .ref h, rfl, hX9.ob, cl, T.n_c _ (by decide), rfl, _, rfl, h, h, dxh, dxh, _, _, rfl, rfl, hh, hh, ⟨h, h, d, rfl, hH9, hH9, ok, true, rfl, _, rfl, iteF ?_⟩⟩
        refine ⟨_, rfl, x, cC, dx0, _, .ref h, rfl, hX9.ob, cl, T.n_c _ (by decide), rfl, _, rfl, h, d, rfl, hH9, ok, fun t H10 hH10 k10 => ?_⟩
        obtain ⟨dxt, pt, ot, nt, xst, yst, ht, ht'⟩ := hH10.ex
        refine ⟨h, t, dxh, dxt, _, _, rfl, rfl, k10.at0 hh, ht, ⟨h, t, d, rfl, hH9.keep k10, hH10, ok, true, rfl, _, rfl, iteF ?_⟩⟩
        refine ⟨_, rfl, _, rfl, pa, x, h, d.all, fs', rfl, hPs9.keep k10, (hX9.keep k10).at_, ok.nd, hle, fun F2 H11 hF2 k11 => ?_⟩
        have k9b := k10.trans k11
        refine ⟨F2, fsD fs', rfl, .inr (dd_fs hF2), shF, _, rfl, F, fsD fs', rfl, .inr (dd_fs (hF9.keep k9b)), shF, rfl, _, rfl, ite2 (fun z => absurd z (by simp)) (fun _ => ?_)⟩
        have hB11 := hB9.keep k9b
        have hH11 := hH9.keep k9b
        have hPs11 := hPs9.keep k9b
        have hF11 := hF9.keep k9b
        have hX11 := hX9.keep k9b
        clear k9b k11 hF2 ht ht' k10 hH10 hh hh' hB9 hH9 hPs9 hF9 hX9
        -- truth
        have mk : ∀ {Hq : Hp} {x2 dx2 : Addr}, Hq x2 = none → Hq dx2 = none → dx2 ≠ x2 → Kp0 Hq (upd (upd Hq dx2 (.own x2)) x2 (.ins cC dx2 [])) := fun nx ndx ne => (Keep.refl.new ndx).new (by rw [upd_ne (fun z => ne z.symm)]; exact nx)
        refine ⟨_, rfl, x, dx0, _, rfl, hX11.ob, x, h, d.all, fs', rfl, hX11.at_, ok.nd, hle, fun H12 k12 => ⟨_, rfl, ?_⟩⟩
        refine ⟨_, rfl, fun x2 dx2 nx2 ndx2 ne2 => ?_⟩
        have k13 := mk nx2 ndx2 ne2
        refine ⟨x2, dx2, h, d, .non, [], [], rfl, upd_same, hH11.keep (k12.trans k13), ok, .inl ⟨rfl, rfl, rfl⟩, .nil, (fun q hq => (List.not_mem_nil hq).elim), List.nodup_nil, Nat.zero_le _, fun H14 fs2 hc2 hse2 hN2 kk2 => ⟨rfl, ?_⟩⟩
        have k14 : Kp0 H12 H14 := (k13.weak0.trans kk2).drop fun c z => .inr (by rw [show c = x2 from z]; exact nx2)
        obtain ⟨dx3, s3, e3, T3', p1, p2⟩ := hc2.ex
        refine ⟨x2, dx3, _, rfl, p1, x2, h, d.all, fs2, rfl, hc2, ok.nd, hle, fun H15 k15 => ⟨true, by rw [free_empty hN2]; rfl, ?_⟩⟩
        have bools : ∀ {H' : Hp} {q : Addr} (b1 b2 : Bool), H' q = some (.lst [.bl b1, .bl b2]) → (Dp K H' (.ref q) (.list ([b1, b2].map .bool)) ∧ (PyData.list ([b1, b2].map .bool)).hasDict = false) ∨ Dd K H' (.ref q) (.list ([b1, b2].map .bool)) := fun b1 b2 e => .inl ⟨.lst (.of e) (dp_bools [b1, b2]), by simp only [PyData.hasDict]; exact nodict_bools [b1, b2]⟩
        refine ⟨(by rw [sizeLine_eq]; show 2 ≤ _; decide), fun p np => ⟨p, .list ([!(fs'.any fun f => emptyB f.2), true].map .bool), rfl, bools _ _ upd_same, showy_bools (Nat.le_refl 2), ?_⟩⟩
        have k16 := ((k12.trans k14).trans k15).new (o := .lst [.bl (!(fs'.any fun f => emptyB f.2)), .bl true]) np
        refine ⟨_, rfl, _, rfl, pa, F, d.all, fs', rfl, hPs11.keep k16, ok.nd, by omega, hF11.keep k16, hkd, fun H17 k17 => ?_⟩
        refine ⟨_, rfl, (by rw [sizeLine_eq]; show 2 ≤ _; decide), fun q nq => ⟨q, .list ([!(fs'.any fun f => emptyB f.2), true].map .bool), rfl, bools _ _ upd_same, showy_bools (Nat.le_refl 2), rfl, _, rfl, ite2 (fun z => absurd z (by simp)) (fun _ => ?_)⟩⟩
        have k18 := (k16.trans k17).new (o := .lst [.bl (!(fs'.any fun f => emptyB f.2)), .bl true]) nq
        have hB18 := hB11.keep k18
        have hH18 := hH11.keep k18
        have hPs18 := hPs11.keep k18
        have hF18 := hF11.keep k18
        have hX18 := hX11.keep k18
        generalize upd H17 q (.lst [.bl (!(fs'.any fun f => emptyB f.2)), .bl true]) = H18 at hB18 hH18 hPs18 hF18 hX18 ⊢
        clear k18 nq k17 k16 np k15 p2 p1 k14 kk2 hN2 hse2 hc2 k13 k12 hB11 hH11 hPs11 hF11 hX11
        -- the near calls
        refine ⟨_, rfl, _, rfl, _, rfl, (by rw [sizeLine_eq]; show 1 ≤ _; decide), fun l nl => ?_⟩
        have k19 : Kp0 H18 (upd H18 l (.lst [.ref F])) := Keep.refl.new nl
        have hlb := hB18.off nl
        refine ⟨b, g, pa, l, F, d.all, fs', rfl, hB18.keep k19, hPs18.keep k19, hna, ok.nd, hle, .of upd_same, hlb, hF18.keep k19, hFb, hkd, hsmB, fun p cs H20 hp hcs hB20 k20 => ?_⟩
        have k20' := k19.weak0.trans k20
        have m20 := hB18.mld
        have hH20 := hH18.keepM k20' m20
        have hPs20 := hPs18.keepM k20' m20 hna
        have hF20 := hF18.keepM k20' m20 hFb
        have hX20 := hX18.keepM k20' m20 hs0 he0
        clear k20' m20 hB18 hH18 hPs18 hF18 hX18 k20 k19
        refine ⟨p, rfl, ⟨_, .of hp⟩, ?_⟩
        refine for_list (xs := cs.map V.ref) (fun j σ H' => ∃ z11 z12 : Option V, σ = [some (.ref a), some (.ref b), some (.int (0 + (i : Int))), some (.ref h), some (.ref pa), some (.ref D), some (.ref F), some (.ref G), some (.ref x), y9, y10, z11, z12, y13, y14] ∧ Kp0 H20 H') ?_ ?_ ?_ ?_
        · exact ⟨_, _, rfl, .refl⟩
        · rintro j σ H' _ ⟨_, _, _, kj⟩
          exact kj.sql0 (.of hp)
        · rintro j v σ H21 hv ⟨z11, z12, rfl, k21⟩
          obtain ⟨C, hC1, rfl⟩ := List.mem_map.mp (List.mem_of_getElem? hv)
          obtain ⟨S, hS⟩ := hcs C hC1
          have nms : ∀ p ∈ d.all, isNm p.1 = true := fun p hp => (ok.ns p hp).1
          have hS21 : CallV H21 C d.all S := ⟨k21.at0 hS.1, hS.2⟩
          have shC := showy_call hS.2 nms hle
          have hH21 := hH20.keep k21
          have hPs21 := hPs20.keep k21
          have hF21 := hF20.keep k21
          have hX21 := hX20.keep k21
          refine ⟨_, rfl, C, callD S, rfl, .inr (dd_call hS21), shC, ?_⟩
          refine ⟨_, rfl, _, rfl, x, dx0, _, rfl, hX21.ob, x, h, C, d.all, fs', S, rfl, hX21.at_, ok.nd, hle, hS21.at_, fun H22 k22 => ⟨_, rfl, ?_⟩⟩
          refine ⟨_, rfl, _, rfl, fun G2 nG2 => ?_⟩
          have k23 : Kp0 H22 (upd H22 G2 (.dK [])) := Keep.refl.new nG2
          refine fun x2 dx2 nx2 ndx2 ne2 => ?_
          have k24 := mk nx2 ndx2 ne2
          refine ⟨x2, dx2, h, d, .ref G2, [], [], rfl, upd_same, hH21.keep ((k22.trans k23).trans k24), ok, .inr ⟨G2, rfl, k24.at0 upd_same⟩, .nil, (fun q hq => (List.not_mem_nil hq).elim), List.nodup_nil, Nat.zero_le _, fun H25 fs2 hc2 hse2 hN2 kk2 => ⟨rfl, ?_⟩⟩
          have k25 : Kp0 (upd H22 G2 (.dK [])) H25 := (k24.weak0.trans kk2).drop fun c z => .inr (by rw [show c = x2 from z]; exact nx2)
          have k2225 := (k22.trans k23).trans k25
          obtain ⟨dx3, s3, e3, T3', p1, p2⟩ := hc2.ex
          have hS25 : CallV H25 C d.all S := ⟨k2225.at0 hS21.1, hS.2⟩
          refine ⟨x2, dx3, _, rfl, p1, x2, h, C, d.all, fs2, S, rfl, hc2, ok.nd, hle, hS25.at_, fun H26 k26 => ⟨true, by rw [free_in hN2 ok.nd hS25.at_.2], ?_⟩⟩
          refine ⟨(by rw [sizeLine_eq]; show 2 ≤ _; decide), fun p' np' => ⟨p', .list ([inB fs' S, true].map .bool), rfl, bools _ _ upd_same, showy_bools (Nat.le_refl 2), ?_⟩⟩
          have k27 := (k2225.trans k26).new (o := .lst [.bl (inB fs' S), .bl true]) np'
          refine ⟨_, rfl, _, rfl, _, rfl, pa, F, C, d.all, fs', S, rfl, hPs21.keep k27, ok.nd, by omega, hF21.keep k27, hkd, CallV.at_ ⟨k27.at0 hS21.1, hS.2⟩, fun H28 k28 => ?_⟩
          refine ⟨(by rw [sizeLine_eq]; show 2 ≤ _; decide), fun q nq => ⟨q, .list ([inB fs' S, true].map .bool), rfl, bools _ _ upd_same, showy_bools (Nat.le_refl 2), rfl, _, rfl, ite2 (fun z => absurd z (by simp)) (fun _ => ?_)⟩⟩
          have k29 := (k27.trans k28).new (o := .lst [.bl (inB fs' S), .bl true]) nq
          exact ⟨_, rfl, C, callD S, rfl, .inr (dd_call ⟨k29.at0 hS21.1, hS.2⟩), shC, _, rfl, rfl, _, rfl, ite2 (fun z => absurd z (by simp)) (fun _ => ⟨_, _, rfl, k21.trans k29⟩)⟩
        · rintro σ H21 ⟨z11, z12, rfl, k21⟩
          have hH21 := hH20.keep k21
          have hPs21 := hPs20.keep k21
          refine ⟨_, rfl, _, rfl, fun x2 dx2 nx2 ndx2 ne2 => ?_⟩
          have k24 := mk nx2 ndx2 ne2
          refine ⟨x2, dx2, h, d, .non, [], [], rfl, upd_same, hH21.keep k24, ok, .inl ⟨rfl, rfl, rfl⟩, .nil, (fun q hq => (List.not_mem_nil hq).elim), List.nodup_nil, Nat.zero_le _, fun H25 fs2 hc2 hse2 hN2 kk2 => ⟨rfl, ?_⟩⟩
          have k25 : Kp0 H21 H25 := (k24.weak0.trans kk2).drop fun c z => .inr (by rw [show c = x2 from z]; exact nx2)
          refine ⟨pa, x2, h, d.all, fs2, rfl, hPs21.keep k25, hc2, ok.nd, hle, fun F2 H26 hF2 k26 => ?_⟩
          refine ⟨_, rfl, fun G2 nG2 => ?_⟩
          have k27 : Kp0 H26 (upd H26 G2 (.dK [])) := Keep.refl.new nG2
          have k2527 := (k25.trans k26).trans k27
          refine ⟨pa, G2, d.all, [], [], rfl, hPs21.keep k2527, ok.nd, by omega, upd_same, .nil, (fun q hq => (List.not_mem_nil hq).elim), fun F3 fs3 T5 H28 nF3 hF3 hT5 hN3 k28 => ?_⟩
          obtain rfl : fs3 = fs2 := hN3.uniq hN2
          obtain ⟨T4, hF4, hT4⟩ := hF2.keep (k27.trans k28)
          refine ⟨F2, F3, tk T4, tk T5, fs3.map fun f => nmD f.2, rfl, rfl, .of hF4, .of hF3, ?_, ?_, ?_, ?_, _, rfl, iteF ⟨_, _, _, _, _, _, _, _, _, _, _, _, _, rfl, hB20.keep ((k21.trans k2527).trans k28)⟩⟩
          · have e1 := hT4.names
            have e2 := hT5.names
            have e : ∀ T : List (Str × V), (tk T).map (·.1) = (T.map (·.1)).map Sum.inr := fun T => by unfold tk; rw [List.map_map, List.map_map]; rfl
            rw [e, e, e1, e2]
          · rw [tk_vals]; exact dp_tab hT4
          · rw [tk_vals]; exact dp_tab hT5
          · intro z hz
            obtain ⟨f, hf, rfl⟩ := List.mem_map.mp hz
            rw [norms_nil hN2 f hf]
            cases f.2.isW
            · exact plain_of (by decide +kernel)
            · exact plain_of (by decide +kernel)
  · rintro σ H1 ⟨y2, y3, y4, y5, y6, y7, y8, y9, y10, y11, y12, y13, y14, rfl, hB1⟩
    exact k H1
end
end Hk
set_option maxHeartbeats 0
namespace HkH
open PySem PySem.Spec PyProof.Rows L2
/-- the default of the keyword-only parameter «only» -/
def onlyAt (K : PySem.W.Frag) : Addr := match K.lookup (He.fAd K ("Hook", some "__init__")) with
  | some ⟨_, _, .func fd, _⟩ => (match fd.kwdefaults with
    | .ref D => (match PySem.W.nsIn K D "only" with
      | some (some (.ref a)) => a
      | _ => 0)
    | _ => 0)
  | _ => 0
def noneAt (K : PySem.W.Frag) : Addr := match K.lookup (He.ga K "NO_WORDS") with
  | some ⟨_, _, .seq its _, _⟩ => (match its.toList with
    | .ref a :: _ => a
    | _ => 0)
  | _ => 0
/-- an empty tuple stands there -/
def emB (K : PySem.W.Frag) (a : Addr) : Bool := match K.lookup a with
  | some ⟨.type c, _, .seq its _, _⟩ => decide (c = "tuple") && (decide (its.size ≤ sizeLine) && He.relAll [] its.toList)
  | _ => false
theorem emB_ok {K : PySem.W.Frag} {a : Addr} (h : emB K a = true) (H : Hp) : SqT K H a [] := by
  unfold emB at h
  cases q : K.lookup a with
  | none => rw [q] at h; cases h
  | some o =>
    obtain ⟨oc, od, dt, osl⟩ := o
    rw [q] at h
    cases oc with
    | type c =>
      cases dt with
      | seq its n =>
        obtain ⟨h1, h2⟩ := He.ba (show (decide (c = "tuple") && (decide (its.size ≤ sizeLine) && He.relAll [] its.toList)) = true from h)
        obtain ⟨h3, h4⟩ := He.ba h2
        exact .inr ⟨_, its, n, q, congrArg Value.type (of_decide_eq_true h1), rfl, of_decide_eq_true h3, He.relAll_ok h4⟩
      | _ => cases h
    | _ => cases dt <;> cases h
def strsD (l : List PySem.Str) : List He.Dv := l.map fun x => .str x
def hkA (K : PySem.W.Frag) : Addr := He.ga K "Hook"
def exB (K : PySem.W.Frag) : Bool := emB K (noneAt K) && (He.tupB K "SORTS" (strsD Hk.SORTL) && (He.tupB K "KINDS" (strsD Hk.KINDL) && (He.tupB K "KEPT" (strsD Hk.KEPTL)
  && (He.tupB K "NO_NUMBERS" [.non, .non] && (He.tupB K "NO_WORDS" [.adr noneAt, .bl false]
  && (He.eqO (PySem.W.findIn K (.ref (hkA K)) "__class__") (some (some (.builtin "object.__class__")))
  && (He.eqO (PySem.W.specialIn K (.builtin "object.__class__") "__get__") (some (some (.builtin "getset_descriptor.__get__")))
  && (decide (PySem.W.takesIn K (.builtin "object.__class__") = some true)
  && (decide (PySem.W.mroIn K (hkA K) (.type "object") = some true)
  && (decide (PySem.W.kitOne K (.ref (hkA K)) (.ref (hkA K)) = some true)
  && (He.eqO (PySem.W.findIn K (.ref (hkA K)) "__ne__") (some (some (.builtin "object.__ne__")))
  && decide (PySem.W.subIn K (.ref (hkA K)) (.type "object") = some true))))))))))))
def d_l_box : He.DefD := ⟨("_law_box", none), "_law_box", "_law_box", defArgs Hk.s_l_box, defBody Hk.s_l_box, defScope Hk.s_l_box, [], []⟩
def d_l_take : He.DefD := ⟨("_law_take", none), "_law_take", "_law_take", defArgs Hk.s_l_take, defBody Hk.s_l_take, defScope Hk.s_l_take, [], []⟩
def d_l_pick : He.DefD := ⟨("_law_pick", none), "_law_pick", "_law_pick", defArgs Hk.s_l_pick, defBody Hk.s_l_pick, defScope Hk.s_l_pick, [], []⟩
def d_l_mixed : He.DefD := ⟨("_law_mixed", none), "_law_mixed", "_law_mixed", defArgs Hk.s_l_mixed, defBody Hk.s_l_mixed, defScope Hk.s_l_mixed, [], []⟩
def d_l_hook : He.DefD := ⟨("_law_hook", none), "_law_hook", "_law_hook", defArgs Hk.s_l_hook, defBody Hk.s_l_hook, defScope Hk.s_l_hook, [], []⟩
def d_l_twin : He.DefD := ⟨("_law_twin", none), "_law_twin", "_law_twin", defArgs Hk.s_l_twin, defBody Hk.s_l_twin, defScope Hk.s_l_twin, [], []⟩
def d_l_words : He.DefD := ⟨("_law_words", none), "_law_words", "_law_words", defArgs Hk.s_l_words, defBody Hk.s_l_words, defScope Hk.s_l_words, [], []⟩
def d_l_bound : He.DefD := ⟨("_law_bound", none), "_law_bound", "_law_bound", defArgs Hk.s_l_bound, defBody Hk.s_l_bound, defScope Hk.s_l_bound, [], []⟩
def d_l_bounds : He.DefD := ⟨("_law_bounds", none), "_law_bounds", "_law_bounds", defArgs Hk.s_l_bounds, defBody Hk.s_l_bounds, defScope Hk.s_l_bounds, [], []⟩
def d_l_fits : He.DefD := ⟨("_law_fits", none), "_law_fits", "_law_fits", defArgs Hk.s_l_fits, defBody Hk.s_l_fits, defScope Hk.s_l_fits, [], []⟩
def d_l_normal : He.DefD := ⟨("_law_normal", none), "_law_normal", "_law_normal", defArgs Hk.s_l_normal, defBody Hk.s_l_normal, defScope Hk.s_l_normal, [], []⟩
def d_l_normals : He.DefD := ⟨("_law_normals", none), "_law_normals", "_law_normals", defArgs Hk.s_l_normals, defBody Hk.s_l_normals, defScope Hk.s_l_normals, [], []⟩
def d_l_is_none : He.DefD := ⟨("_law_is_none", none), "_law_is_none", "_law_is_none", defArgs Hk.s_l_is_none, defBody Hk.s_l_is_none, defScope Hk.s_l_is_none, [], []⟩
def d_l_is_void : He.DefD := ⟨("_law_is_void", none), "_law_is_void", "_law_is_void", defArgs Hk.s_l_is_void, defBody Hk.s_l_is_void, defScope Hk.s_l_is_void, [], []⟩
def d_l_is_in : He.DefD := ⟨("_law_is_in", none), "_law_is_in", "_law_is_in", defArgs Hk.s_l_is_in, defBody Hk.s_l_is_in, defScope Hk.s_l_is_in, [], []⟩
def d_l_near_values : He.DefD := ⟨("_law_near_values", none), "_law_near_values", "_law_near_values", defArgs Hk.s_l_near_values, defBody Hk.s_l_near_values, defScope Hk.s_l_near_values, [], []⟩
def d_l_near_calls : He.DefD := ⟨("_law_near_calls", none), "_law_near_calls", "_law_near_calls", defArgs Hk.s_l_near_calls, defBody Hk.s_l_near_calls, defScope Hk.s_l_near_calls, [], []⟩
def d_l_told : He.DefD := ⟨("_law_told", none), "_law_told", "_law_told", defArgs Hk.s_l_told, defBody Hk.s_l_told, defScope Hk.s_l_told, [], []⟩
def d_law : He.DefD := ⟨("law", none), "law", "law", defArgs Hk.s_law, defBody Hk.s_law, defScope Hk.s_law, [], []⟩
def d_is_integer : He.DefD := ⟨("is_integer", none), "is_integer", "is_integer", defArgs Hk.s_is_integer, defBody Hk.s_is_integer, defScope Hk.s_is_integer, [], []⟩
def d_is_name : He.DefD := ⟨("is_name", none), "is_name", "is_name", defArgs Hk.s_is_name, defBody Hk.s_is_name, defScope Hk.s_is_name, [], []⟩
def d_is_bound : He.DefD := ⟨("is_bound", none), "is_bound", "is_bound", defArgs Hk.s_is_bound, defBody Hk.s_is_bound, defScope Hk.s_is_bound, [], []⟩
def d_normal : He.DefD := ⟨("normal", none), "normal", "normal", defArgs Hk.s_normal, defBody Hk.s_normal, defScope Hk.s_normal, [], []⟩
def d_has : He.DefD := ⟨("has", none), "has", "has", defArgs Hk.s_has, defBody Hk.s_has, defScope Hk.s_has, [], []⟩
def d_is_empty : He.DefD := ⟨("is_empty", none), "is_empty", "is_empty", defArgs Hk.s_is_empty, defBody Hk.s_is_empty, defScope Hk.s_is_empty, [], []⟩
def d_whole : He.DefD := ⟨("whole", none), "whole", "whole", defArgs Hk.s_whole, defBody Hk.s_whole, defScope Hk.s_whole, [], []⟩
def d_fits : He.DefD := ⟨("fits", none), "fits", "fits", defArgs Hk.s_fits, defBody Hk.s_fits, defScope Hk.s_fits, [], []⟩
def d_Calls_init : He.DefD := ⟨("Calls", some "__init__"), "__init__", "Calls.__init__", defArgs Hk.s_Calls_init, defBody Hk.s_Calls_init, defScope Hk.s_Calls_init, [.non], []⟩
def d_Calls_bound : He.DefD := ⟨("Calls", some "bound"), "bound", "Calls.bound", defArgs Hk.s_Calls_bound, defBody Hk.s_Calls_bound, defScope Hk.s_Calls_bound, [], []⟩
def d_Calls_contains : He.DefD := ⟨("Calls", some "__contains__"), "__contains__", "Calls.__contains__", defArgs Hk.s_Calls_contains, defBody Hk.s_Calls_contains, defScope Hk.s_Calls_contains, [], []⟩
def d_Calls_bool : He.DefD := ⟨("Calls", some "__bool__"), "__bool__", "Calls.__bool__", defArgs Hk.s_Calls_bool, defBody Hk.s_Calls_bool, defScope Hk.s_Calls_bool, [], []⟩
def d_Hook_init : He.DefD := ⟨("Hook", some "__init__"), "__init__", "Hook.__init__", defArgs Hk.s_Hook_init, defBody Hk.s_Hook_init, defScope Hk.s_Hook_init, [], [("only", .adr onlyAt), ("gives", .str "number")]⟩
def d_Hook_look : He.DefD := ⟨("Hook", some "look"), "look", "Hook.look", defArgs Hk.s_Hook_look, defBody Hk.s_Hook_look, defScope Hk.s_Hook_look, [], []⟩
def d_Hook_look_param : He.DefD := ⟨("Hook", some "look_param"), "look_param", "Hook.look_param", defArgs Hk.s_Hook_look_param, defBody Hk.s_Hook_look_param, defScope Hk.s_Hook_look_param, [], []⟩
def d_Hook_eq : He.DefD := ⟨("Hook", some "__eq__"), "__eq__", "Hook.__eq__", defArgs Hk.s_Hook_eq, defBody Hk.s_Hook_eq, defScope Hk.s_Hook_eq, [], []⟩
def fn : List He.DefD := [d_l_box, d_l_take, d_l_pick, d_l_mixed, d_l_hook, d_l_twin, d_l_words, d_l_bound, d_l_bounds, d_l_fits, d_l_normal, d_l_normals, d_l_is_none, d_l_is_void, d_l_is_in, d_l_near_values, d_l_near_calls, d_l_told, d_law, d_is_integer, d_is_name, d_is_bound, d_normal, d_has, d_is_empty, d_whole, d_fits, d_Calls_init, d_Calls_bound, d_Calls_contains, d_Calls_bool, d_Hook_init, d_Hook_look, d_Hook_look_param, d_Hook_eq]
def fa : List He.Fa := [.glo "_law_box", .glo "_law_take", .glo "_law_pick", .glo "_law_mixed", .glo "_law_hook", .glo "_law_twin", .glo "_law_words", .glo "_law_bound", .glo "_law_bounds", .glo "_law_fits", .glo "_law_normal", .glo "_law_normals", .glo "_law_is_none", .glo "_law_is_void", .glo "_law_is_in", .glo "_law_near_values", .glo "_law_near_calls", .glo "_law_told", .glo "law", .glo "is_integer", .glo "is_name", .glo "is_bound", .glo "normal", .glo "has", .glo "is_empty", .glo "whole", .glo "fits", .glo "Calls", .cls "Calls", .mkr "Calls", .keep "Calls", .glo "Hook", .cls "Hook", .mkr "Hook", .keep "Hook", .meth "Calls" "bound", .meth "Calls" "__contains__", .meth "Calls" "__bool__", .meth "Hook" "look", .meth "Hook" "look_param", .meth "Hook" "__eq__", .noat "Hook" "name", .noat "Hook" "kind", .noat "Hook" "gives", .noat "Hook" "params", .noat "Hook" "only", .noat "Hook" "names", .noat "Calls" "hook", .noat "Calls" "sorts", .noat "Calls" "ends", .free "len", .free "abs", .free "list", .free "range", .free "enumerate", .free "sorted", .free "set", .free "tuple", .free "isinstance", .free "all", .free "any", .free "bool", .free "dict", .free "repr", .free "str", .free "int", .glo "SORTS", .glo "KEPT", .glo "KINDS", .glo "NO_NUMBERS", .glo "NO_WORDS", .str "LETTERS" "abcdefghijklmnopqrstuvwxyz"]
def hookX (n : Nat) (ex : PySem.W.Frag → Bool) (fa : List He.Fa) (fn : List He.DefD) : PySem.W.Hook where
  α := Bool × He.AlD
  obs := fun s => (ex (He.frG s.heap.get? (He.asD s.heap.get? n)), He.obsDG n fa fn s.heap.get?)
  val := fun _ => (true, He.valD fn)
  says := fun _ h => ∃ K : PySem.W.Frag, K.In h ∧ ex K = true ∧ He.SaysD fa fn K
  of := fun _ _ e => ⟨_, He.frG_in, congrArg Prod.fst e, congrArg Prod.snd e⟩
  keeps := fun _ _ _ ⟨K, hK, c⟩ k => ⟨K, PySem.W.Frag.In.keeps hK k, c⟩
def obsX (n : Nat) (ex : PySem.W.Frag → Bool) (fa : List He.Fa) (fn : List He.DefD) (g : Addr → Option Obj) : Bool × He.AlD := (ex (He.frG g (He.asD g n)), He.obsDG n fa fn g)
theorem obsX_eq {n : Nat} {ex : PySem.W.Frag → Bool} {fa : List He.Fa} {fn : List He.DefD} {g : Addr → Option Obj} {s : Shared} (h : ∀ a, g a = s.heap.get? a) : obsX n ex fa fn g = (hookX n ex fa fn).obs s := by
  have e : g = s.heap.get? := funext h
  rw [e] <;> rfl
def loose : List PySem.Str := (["_wall", "LETTERS", "SORTS", "KEPT", "is_integer", "is_name", "fits", "shown", "NO_NUMBERS", "NO_WORDS", "is_bound", "normal"] : List PySem.Str) ++ (["has", "is_empty", "met", "outside", "HookError", "InvalidHook", "InvalidCalls", "BadCall", "Calls", "KINDS", "whole", "Hook"] : List PySem.Str) ++ (["param_text", "_law_box", "_law_take", "_law_pick", "_law_mixed", "_law_hook", "_law_twin", "_law_words", "_law_bound", "_law_bounds", "_law_fits", "_law_normal"] : List PySem.Str) ++ (["_law_normals", "_law_is_none", "_law_is_void", "_law_is_in", "_law_near_values", "_law_near_calls", "_law_told"] : List PySem.Str)
abbrev R : PySem.W.OpenRow := PySem.W.OpenLaw.row PySem.Challenge.rw_hookrow_k17_sets_of_calls
abbrev hk : PySem.W.Hook := hookX 5 exB fa fn
def ob (s : PySem.W.SharedT) : Bool × He.AlD := obsX 5 exB fa fn (HandSHeadRun.getT s)
theorem ob_eq (s : PySem.W.SharedT) : ob s = hk.obs s.abs := obsX_eq (HandSHeadRun.getT_eq s)
theorem run (w : World) : HandSHeadRun.RunEq R (PySem.W.view R.prog [49]) hk ob 6000 loose w := by
  intro os
  kernel_rfl
theorem facts {P : Program} {w : World} {K : PySem.W.Frag} {h : Heap} {mg : Str → Option Value} {f : Addr} (X : K.In h) (G : h.Ns mainGlobals mg) (hfa : mg ("law" : Str) = some (.ref f)) (e1 : exB K = true) (c : He.SaysD fa fn K) :
    ∃ fd : FuncData, (∀ (s : Shared) (v : Value), BindsTo s fd ⟨[v], []⟩ [("_law_script", v)]) ∧ ∀ base : Heap, Hk.RunAt P w K mg base CX0 callerA f fd ["_law_script"] (Hk.spLaw K) := by
  obtain ⟨e2, e1⟩ := He.ba e1
  obtain ⟨e3, e1⟩ := He.ba e1
  obtain ⟨e4, e1⟩ := He.ba e1
  obtain ⟨e5, e1⟩ := He.ba e1
  obtain ⟨e6, e1⟩ := He.ba e1
  obtain ⟨e7, e1⟩ := He.ba e1
  obtain ⟨i1, e1⟩ := He.ba e1
  obtain ⟨i2, e1⟩ := He.ba e1
  obtain ⟨i3, e1⟩ := He.ba e1
  obtain ⟨i4, e1⟩ := He.ba e1
  obtain ⟨i5, e1⟩ := He.ba e1
  obtain ⟨i6, i7⟩ := He.ba e1
  have T : Hk.Txt9 K mg (He.ga K "Hook") (onlyAt K) (He.ga K "Calls") := {
    f_len := (He.free_ok X G (c.fact 50 (f := .free "len") rfl))
    f_abs := (He.free_ok X G (c.fact 51 (f := .free "abs") rfl))
    f_list := (He.free_ok X G (c.fact 52 (f := .free "list") rfl))
    f_range := (He.free_ok X G (c.fact 53 (f := .free "range") rfl))
    f_int := (He.free_ok X G (c.fact 65 (f := .free "int") rfl))
    f_bool := (He.free_ok X G (c.fact 61 (f := .free "bool") rfl))
    f_str := (He.free_ok X G (c.fact 64 (f := .free "str") rfl))
    f_tuple := (He.free_ok X G (c.fact 57 (f := .free "tuple") rfl))
    f_sorted := (He.free_ok X G (c.fact 55 (f := .free "sorted") rfl))
    f_set := (He.free_ok X G (c.fact 56 (f := .free "set") rfl))
    f_isinstance := (He.free_ok X G (c.fact 58 (f := .free "isinstance") rfl))
    f_all := (He.free_ok X G (c.fact 59 (f := .free "all") rfl))
    f_any := (He.free_ok X G (c.fact 60 (f := .free "any") rfl))
    f_dict := (He.free_ok X G (c.fact 62 (f := .free "dict") rfl))
    f_repr := (He.free_ok X G (c.fact 63 (f := .free "repr") rfl))
    d_l_box := ⟨(c.def_ 0 (d := d_l_box) rfl).elim fun fd F => ⟨_, fd, F, (He.glo_ok X G (c.fact 0 (f := .glo "_law_box") rfl))⟩⟩
    d_l_take := ⟨(c.def_ 1 (d := d_l_take) rfl).elim fun fd F => ⟨_, fd, F, (He.glo_ok X G (c.fact 1 (f := .glo "_law_take") rfl))⟩⟩
    d_l_pick := ⟨(c.def_ 2 (d := d_l_pick) rfl).elim fun fd F => ⟨_, fd, F, (He.glo_ok X G (c.fact 2 (f := .glo "_law_pick") rfl))⟩⟩
    d_l_mixed := ⟨(c.def_ 3 (d := d_l_mixed) rfl).elim fun fd F => ⟨_, fd, F, (He.glo_ok X G (c.fact 3 (f := .glo "_law_mixed") rfl))⟩⟩
    d_l_fits := ⟨(c.def_ 9 (d := d_l_fits) rfl).elim fun fd F => ⟨_, fd, F, (He.glo_ok X G (c.fact 9 (f := .glo "_law_fits") rfl))⟩⟩
    d_l_normal := ⟨(c.def_ 10 (d := d_l_normal) rfl).elim fun fd F => ⟨_, fd, F, (He.glo_ok X G (c.fact 10 (f := .glo "_law_normal") rfl))⟩⟩
    d_l_is_none := ⟨(c.def_ 12 (d := d_l_is_none) rfl).elim fun fd F => ⟨_, fd, F, (He.glo_ok X G (c.fact 12 (f := .glo "_law_is_none") rfl))⟩⟩
    d_l_words := ⟨(c.def_ 6 (d := d_l_words) rfl).elim fun fd F => ⟨_, fd, F, (He.glo_ok X G (c.fact 6 (f := .glo "_law_words") rfl))⟩⟩
    d_l_bound := ⟨(c.def_ 7 (d := d_l_bound) rfl).elim fun fd F => ⟨_, fd, F, (He.glo_ok X G (c.fact 7 (f := .glo "_law_bound") rfl))⟩⟩
    d_l_bounds := ⟨(c.def_ 8 (d := d_l_bounds) rfl).elim fun fd F => ⟨_, fd, F, (He.glo_ok X G (c.fact 8 (f := .glo "_law_bounds") rfl))⟩⟩
    d_l_normals := ⟨(c.def_ 11 (d := d_l_normals) rfl).elim fun fd F => ⟨_, fd, F, (He.glo_ok X G (c.fact 11 (f := .glo "_law_normals") rfl))⟩⟩
    d_l_is_void := ⟨(c.def_ 13 (d := d_l_is_void) rfl).elim fun fd F => ⟨_, fd, F, (He.glo_ok X G (c.fact 13 (f := .glo "_law_is_void") rfl))⟩⟩
    d_l_is_in := ⟨(c.def_ 14 (d := d_l_is_in) rfl).elim fun fd F => ⟨_, fd, F, (He.glo_ok X G (c.fact 14 (f := .glo "_law_is_in") rfl))⟩⟩
    d_l_near_values := ⟨(c.def_ 15 (d := d_l_near_values) rfl).elim fun fd F => ⟨_, fd, F, (He.glo_ok X G (c.fact 15 (f := .glo "_law_near_values") rfl))⟩⟩
    d_l_near_calls := ⟨(c.def_ 16 (d := d_l_near_calls) rfl).elim fun fd F => ⟨_, fd, F, (He.glo_ok X G (c.fact 16 (f := .glo "_law_near_calls") rfl))⟩⟩
    d_l_hook := ⟨(c.def_ 4 (d := d_l_hook) rfl).elim fun fd F => ⟨_, fd, F, (He.glo_ok X G (c.fact 4 (f := .glo "_law_hook") rfl))⟩⟩
    d_l_twin := ⟨(c.def_ 5 (d := d_l_twin) rfl).elim fun fd F => ⟨_, fd, F, (He.glo_ok X G (c.fact 5 (f := .glo "_law_twin") rfl))⟩⟩
    d_l_told := ⟨(c.def_ 17 (d := d_l_told) rfl).elim fun fd F => ⟨_, fd, F, (He.glo_ok X G (c.fact 17 (f := .glo "_law_told") rfl))⟩⟩
    d_is_integer := ⟨(c.def_ 19 (d := d_is_integer) rfl).elim fun fd F => ⟨_, fd, F, (He.glo_ok X G (c.fact 19 (f := .glo "is_integer") rfl))⟩⟩
    d_is_name := ⟨(c.def_ 20 (d := d_is_name) rfl).elim fun fd F => ⟨_, fd, F, (He.glo_ok X G (c.fact 20 (f := .glo "is_name") rfl))⟩⟩
    d_is_bound := ⟨(c.def_ 21 (d := d_is_bound) rfl).elim fun fd F => ⟨_, fd, F, (He.glo_ok X G (c.fact 21 (f := .glo "is_bound") rfl))⟩⟩
    d_normal := ⟨(c.def_ 22 (d := d_normal) rfl).elim fun fd F => ⟨_, fd, F, (He.glo_ok X G (c.fact 22 (f := .glo "normal") rfl))⟩⟩
    d_has := ⟨(c.def_ 23 (d := d_has) rfl).elim fun fd F => ⟨_, fd, F, (He.glo_ok X G (c.fact 23 (f := .glo "has") rfl))⟩⟩
    d_is_empty := ⟨(c.def_ 24 (d := d_is_empty) rfl).elim fun fd F => ⟨_, fd, F, (He.glo_ok X G (c.fact 24 (f := .glo "is_empty") rfl))⟩⟩
    d_whole := ⟨(c.def_ 25 (d := d_whole) rfl).elim fun fd F => ⟨_, fd, F, (He.glo_ok X G (c.fact 25 (f := .glo "whole") rfl))⟩⟩
    d_fits := ⟨(c.def_ 26 (d := d_fits) rfl).elim fun fd F => ⟨_, fd, F, (He.glo_ok X G (c.fact 26 (f := .glo "fits") rfl))⟩⟩
    v_LETTERS := (He.str_ok X G (c.fact 71 (f := .str "LETTERS" "abcdefghijklmnopqrstuvwxyz") rfl)).elim fun t e => ⟨_, e, ⟨t, rfl⟩⟩
    v_NO_NUMBERS := ⟨_, (He.glo_ok X G (c.fact 69 (f := .glo "NO_NUMBERS") rfl)), rfl⟩
    v_NO_WORDS := ⟨_, (He.glo_ok X G (c.fact 70 (f := .glo "NO_WORDS") rfl)), rfl⟩
    v_KEPT := ⟨_, (He.glo_ok X G (c.fact 67 (f := .glo "KEPT") rfl)), rfl⟩
    v_SORTS := ⟨_, (He.glo_ok X G (c.fact 66 (f := .glo "SORTS") rfl)), rfl⟩
    v_KINDS := ⟨_, (He.glo_ok X G (c.fact 68 (f := .glo "KINDS") rfl)), rfl⟩
    t_NO_NUMBERS := fun H => He.tupB_ok e6 H
    t_NO_WORDS := ⟨noneAt K, fun H => He.tupB_ok e7 H, fun H => emB_ok e2 H⟩
    t_KEPT := fun H => He.tupB_ok e5 H
    t_SORTS := fun H => He.tupB_ok e3 H
    t_KINDS := fun H => He.tupB_ok e4 H
    n_h := fun x h => by
      simp only [List.mem_cons, List.not_mem_nil, or_false] at h
      rcases h with rfl | rfl | rfl | rfl | rfl | rfl
      · exact He.noat_ok (c.fact 41 (f := .noat "Hook" "name") rfl)
      · exact He.noat_ok (c.fact 42 (f := .noat "Hook" "kind") rfl)
      · exact He.noat_ok (c.fact 43 (f := .noat "Hook" "gives") rfl)
      · exact He.noat_ok (c.fact 44 (f := .noat "Hook" "params") rfl)
      · exact He.noat_ok (c.fact 45 (f := .noat "Hook" "only") rfl)
      · exact He.noat_ok (c.fact 46 (f := .noat "Hook" "names") rfl)
    n_c := fun x h => by
      simp only [List.mem_cons, List.not_mem_nil, or_false] at h
      rcases h with rfl | rfl | rfl
      · exact He.noat_ok (c.fact 47 (f := .noat "Calls" "hook") rfl)
      · exact He.noat_ok (c.fact 48 (f := .noat "Calls" "sorts") rfl)
      · exact He.noat_ok (c.fact 49 (f := .noat "Calls" "ends") rfl)
    m_look := ⟨He.cls_ok (c.fact 32 (f := .cls "Hook") rfl), (c.def_ 32 (d := d_Hook_look) rfl).elim fun fd F => ⟨_, fd, F, He.meth_ok (c.fact 38 (f := .meth "Hook" "look") rfl)⟩⟩
    m_look_param := ⟨He.cls_ok (c.fact 32 (f := .cls "Hook") rfl), (c.def_ 33 (d := d_Hook_look_param) rfl).elim fun fd F => ⟨_, fd, F, He.meth_ok (c.fact 39 (f := .meth "Hook" "look_param") rfl)⟩⟩
    m_eq := ⟨He.cls_ok (c.fact 32 (f := .cls "Hook") rfl), (c.def_ 34 (d := d_Hook_eq) rfl).elim fun fd F => ⟨_, fd, F, He.meth_ok (c.fact 40 (f := .meth "Hook" "__eq__") rfl)⟩⟩
    i_Hook := ⟨(He.glo_ok X G (c.fact 31 (f := .glo "Hook") rfl)), (c.def_ 31 (d := d_Hook_init) rfl).elim fun fd F => ⟨_, fd, F, He.mkr_ok (c.fact 33 (f := .mkr "Hook") rfl)⟩⟩
    i_Calls := ⟨(He.glo_ok X G (c.fact 27 (f := .glo "Calls") rfl)), (c.def_ 27 (d := d_Calls_init) rfl).elim fun fd F => ⟨_, fd, F, He.mkr_ok (c.fact 29 (f := .mkr "Calls") rfl)⟩⟩
    m_bound := ⟨He.cls_ok (c.fact 28 (f := .cls "Calls") rfl), (c.def_ 28 (d := d_Calls_bound) rfl).elim fun fd F => ⟨_, fd, F, He.meth_ok (c.fact 35 (f := .meth "Calls" "bound") rfl)⟩⟩
    m_contains := ⟨He.cls_ok (c.fact 28 (f := .cls "Calls") rfl), (c.def_ 29 (d := d_Calls_contains) rfl).elim fun fd F => ⟨_, fd, F, He.meth_ok (c.fact 36 (f := .meth "Calls" "__contains__") rfl)⟩⟩
    m_bool := ⟨He.cls_ok (c.fact 28 (f := .cls "Calls") rfl), (c.def_ 30 (d := d_Calls_bool) rfl).elim fun fd F => ⟨_, fd, F, He.meth_ok (c.fact 37 (f := .meth "Calls" "__bool__") rfl)⟩⟩
    c_Hook := ⟨He.cls_ok (c.fact 32 (f := .cls "Hook") rfl), He.eqO_ok i1, He.eqO_ok i2, of_decide_eq_true i3, of_decide_eq_true i4, of_decide_eq_true i5⟩
    ne_h := ⟨He.eqO_ok i6, of_decide_eq_true i7⟩ }
  obtain ⟨fd, F⟩ := c.def_ 18 (d := d_law) rfl
  have e := hfa.symm.trans (He.glo_ok X G (c.fact 18 (f := .glo "law") rfl))
  cases e
  have b := FunD.bindsA (ps := ["_law_script"]) F fun _ _ _ _ _ _ us hl => match us, hl with | [_], _ => rfl
  exact ⟨fd, fun s v => b s [v] rfl, fun base => T.run_law F⟩
end HkH
open PySem PySem.W PySem.Calls PyProof.Rows
theorem PySem.Challenge.cw_hookrow_k17_sets_of_calls_holds : PySem.Challenge.rw_hookrow_k17_sets_of_calls.Holds := by
  w_on; o_law
  refine HandSHeadRun.head_any (r := OpenLaw.row PySem.Challenge.rw_hookrow_k17_sets_of_calls) (q := view (OpenLaw.row PySem.Challenge.rw_hookrow_k17_sets_of_calls).prog [49]) (H := HkH.hk) (ob := HkH.ob) (M := 6000) (loose := HkH.loose) (d := HandSHeadRun.topDef (OpenLaw.row PySem.Challenge.rw_hookrow_k17_sets_of_calls).prog 49) (kwd := []) HkH.ob_eq
    (by kernel_rfl) (fun s => by kernel_rfl) HkH.run (by kernel_rfl) (by kernel_rfl) (by kernel_rfl) (by rfl) (by first | assumption | decide +kernel) (by decide +kernel) ⟨rfl, rfl, rfl, rfl, rfl, by decide +kernel⟩ ?hw ?hc
  case hw => w_witness2
  case hc =>
    refine Hk.walk_at (l := PySem.Challenge.rw_hookrow_k17_sets_of_calls) (n := 63) (k := 0) (x := "_law_script") rfl (by decide) (by kernel_rfl) ?F
    intro w mg fa h Y G hmg0
    obtain ⟨K, KX, e1, c⟩ := Y
    have hmg : mg ("law" : PySem.Str) = some (.ref fa) := by
      have e : (HandSHeadRun.topDef (OpenLaw.row PySem.Challenge.rw_hookrow_k17_sets_of_calls).prog 49).name = ("law" : PySem.Str) := by kernel_rfl
      rw [← e]
      exact hmg0
    obtain ⟨fd, hb, hF⟩ := HkH.facts (P := (PySem.Challenge.rw_hookrow_k17_sets_of_calls).prog) (w := w) KX G hmg e1 c
    exact ⟨K, fd, Hk.spLaw K, KX, hb, fun H a ns hl _ hS => ⟨a, ns, rfl, hS, hl, fun _ => rfl⟩, fun base _ _ => hF base⟩
