import PyProof.Rows.All
import Wide.All
import OpenK.AllK
import Wide.FinOn
import HandS.ForMost
import HandS.IsInst
import HandS.Style
import HandS.Wide
import HandS.Walk
import PySem.Challenge.RW_fairseek_k01_words_told
set_option Elab.async false
set_option linter.all false
set_option maxRecDepth 100000
namespace Fs
open PySem PySem.Spec PyProof.Rows L2
def topS (i : Nat) : Stmt := PySem.Challenge.pw_fairseek_k01_words_told.main.body.getD i (.Pass ⟨0, 0, 0, 0⟩)
abbrev s_is_whole : Stmt := topS 4
abbrev s_is_within : Stmt := topS 5
abbrev s_own_words : Stmt := topS 6
abbrev s_is_name : Stmt := topS 7
abbrev s_l_cell : Stmt := topS 9
abbrev s_l_purse : Stmt := topS 10
abbrev s_l_take : Stmt := topS 11
abbrev s_l_text : Stmt := topS 12
abbrev s_l_is_name : Stmt := topS 13
abbrev s_l_numbers_right : Stmt := topS 14
abbrev s_law : Stmt := topS 15
structure Env (K : PySem.W.Frag) (mg : Str → Option Value) where
  a_is_whole : Addr
  d_is_whole : FuncData
  F_is_whole : Fun K "is_whole" "is_whole" s_is_whole a_is_whole d_is_whole
  b_is_whole : Binds K d_is_whole ["thing"] []
  g_is_whole : mg "is_whole" = some (.ref a_is_whole)
  a_is_within : Addr
  d_is_within : FuncData
  F_is_within : Fun K "is_within" "is_within" s_is_within a_is_within d_is_within
  b_is_within : Binds K d_is_within ["thing", "low", "high"] []
  g_is_within : mg "is_within" = some (.ref a_is_within)
  a_own_words : Addr
  d_own_words : FuncData
  F_own_words : Fun K "own_words" "own_words" s_own_words a_own_words d_own_words
  b_own_words : Binds K d_own_words [] []
  g_own_words : mg "own_words" = some (.ref a_own_words)
  a_is_name : Addr
  d_is_name : FuncData
  F_is_name : Fun K "is_name" "is_name" s_is_name a_is_name d_is_name
  b_is_name : Binds K d_is_name ["thing"] []
  g_is_name : mg "is_name" = some (.ref a_is_name)
  a_l_cell : Addr
  d_l_cell : FuncData
  F_l_cell : Fun K "_law_cell" "_law_cell" s_l_cell a_l_cell d_l_cell
  b_l_cell : Binds K d_l_cell ["_law_script", "_law_k"] []
  g_l_cell : mg "_law_cell" = some (.ref a_l_cell)
  a_l_purse : Addr
  d_l_purse : FuncData
  F_l_purse : Fun K "_law_purse" "_law_purse" s_l_purse a_l_purse d_l_purse
  b_l_purse : Binds K d_l_purse ["_law_cell_here"] []
  g_l_purse : mg "_law_purse" = some (.ref a_l_purse)
  a_l_take : Addr
  d_l_take : FuncData
  F_l_take : Fun K "_law_take" "_law_take" s_l_take a_l_take d_l_take
  b_l_take : Binds K d_l_take ["_law_purse_here", "_law_many"] []
  g_l_take : mg "_law_take" = some (.ref a_l_take)
  a_l_text : Addr
  d_l_text : FuncData
  F_l_text : Fun K "_law_text" "_law_text" s_l_text a_l_text d_l_text
  b_l_text : Binds K d_l_text ["_law_purse_here"] []
  g_l_text : mg "_law_text" = some (.ref a_l_text)
  a_l_is_name : Addr
  d_l_is_name : FuncData
  F_l_is_name : Fun K "_law_is_name" "_law_is_name" s_l_is_name a_l_is_name d_l_is_name
  b_l_is_name : Binds K d_l_is_name ["_law_text_here"] []
  g_l_is_name : mg "_law_is_name" = some (.ref a_l_is_name)
  a_l_numbers_right : Addr
  d_l_numbers_right : FuncData
  F_l_numbers_right : Fun K "_law_numbers_right" "_law_numbers_right" s_l_numbers_right a_l_numbers_right d_l_numbers_right
  b_l_numbers_right : Binds K d_l_numbers_right ["_law_purse_here"] []
  g_l_numbers_right : mg "_law_numbers_right" = some (.ref a_l_numbers_right)
  a_law : Addr
  d_law : FuncData
  F_law : Fun K "law" "law" s_law a_law d_law
  b_law : Binds K d_law ["_law_script"] []
  g_law : mg "law" = some (.ref a_law)
  m_list : mg "list" = none
  m_all : mg "all" = none
  m_isinstance : mg "isinstance" = none
  m_int : mg "int" = none
  m_len : mg "len" = none
  m_max : mg "max" = none
  m_bool : mg "bool" = none
  m_str : mg "str" = none
  m_range : mg "range" = none
  t_LETTERS : Tok
  g_LETTERS : mg "LETTERS" = some (Value.str "abcdefghijklmnopqrstuvwxyz" t_LETTERS)
  t_LONGEST : Tok
  g_LONGEST : mg "LONGEST" = some (Value.int 8 t_LONGEST)
  a_OWN_WORDS : Addr
  g_OWN_WORDS : mg "OWN_WORDS" = some (.ref a_OWN_WORDS)
  q_OWN_WORDS : ∀ H : Hp, SqT K H a_OWN_WORDS [V.str "rel", V.str "same", V.str "unlike", V.str "one", V.str "both", V.str "fresh", V.str "call", V.str "not"]
theorem sc_is_whole : FnScope ["thing"] ["thing"] (defScope s_is_whole) := ⟨rfl, rfl, rfl, by decide +kernel, rfl, by decide +kernel, by decide +kernel⟩
theorem sc_is_within : FnScope ["thing", "low", "high"] ["thing", "low", "high"] (defScope s_is_within) := ⟨rfl, rfl, rfl, by decide +kernel, rfl, by decide +kernel, by decide +kernel⟩
theorem sc_own_words : FnScope [] [] (defScope s_own_words) := ⟨rfl, rfl, rfl, by decide +kernel, rfl, by decide +kernel, by decide +kernel⟩
theorem sc_is_name : FnScope ["thing", "sign"] ["thing"] (defScope s_is_name) := ⟨rfl, rfl, rfl, by decide +kernel, rfl, by decide +kernel, by decide +kernel⟩
theorem sc_l_cell : FnScope ["_law_script", "_law_k"] ["_law_script", "_law_k"] (defScope s_l_cell) := ⟨rfl, rfl, rfl, by decide +kernel, rfl, by decide +kernel, by decide +kernel⟩
theorem sc_l_purse : FnScope ["_law_cell_here"] ["_law_cell_here"] (defScope s_l_purse) := ⟨rfl, rfl, rfl, by decide +kernel, rfl, by decide +kernel, by decide +kernel⟩
theorem sc_l_take : FnScope ["_law_purse_here", "_law_many", "_law_digit", "_law_number"] ["_law_purse_here", "_law_many"] (defScope s_l_take) := ⟨rfl, rfl, rfl, by decide +kernel, rfl, by decide +kernel, by decide +kernel⟩
theorem sc_l_text : FnScope ["_law_purse_here", "_law_words", "_law_signs", "_law_word", "_law_many", "_law_most", "_law_k"] ["_law_purse_here"] (defScope s_l_text) := ⟨rfl, rfl, rfl, by decide +kernel, rfl, by decide +kernel, by decide +kernel⟩
theorem sc_l_is_name : FnScope ["_law_text_here", "_law_sign"] ["_law_text_here"] (defScope s_l_is_name) := ⟨rfl, rfl, rfl, by decide +kernel, rfl, by decide +kernel, by decide +kernel⟩
theorem sc_l_numbers_right : FnScope ["_law_purse_here", "_law_number", "_law_low", "_law_high", "_law_found"] ["_law_purse_here"] (defScope s_l_numbers_right) := ⟨rfl, rfl, rfl, by decide +kernel, rfl, by decide +kernel, by decide +kernel⟩
theorem sc_law : FnScope ["_law_script", "_law_cell_here", "_law_purse_here", "_law_text_here", "_law_found", "_law_some", "_law_thing", "_law_words"] ["_law_script"] (defScope s_law) := ⟨rfl, rfl, rfl, by decide +kernel, rfl, by decide +kernel, by decide +kernel⟩
/-! ### heaps -/
theorem same_upd {H : Hp} {p : Addr} {o : HO} (h : H p = none) : Same H (upd H p o) := fun b x e => by
  rw [upd_ne (ne_of_none e h)]
  exact e
/-- all but what stands at p is as it was -/
def Off (p : Addr) (H H' : Hp) : Prop := ∀ b o, b ≠ p → H b = some o → H' b = some o
theorem Off.refl (p : Addr) (H : Hp) : Off p H H := fun _ _ _ h => h
theorem Off.trans {p : Addr} {H H1 H2 : Hp} (a : Off p H H1) (b : Off p H1 H2) : Off p H H2 := fun c o n h => b c o n (a c o n h)
theorem Off.of {p : Addr} {H H' : Hp} (a : Same H H') : Off p H H' := fun c o _ h => a c o h
theorem Off.put {p : Addr} {H : Hp} {o : HO} : Off p H (upd H p o) := fun c u n h => by
  rw [upd_ne n]
  exact h
theorem Off.new {p q : Addr} {H H' : Hp} {o : HO} (a : Off p H H') (h : H' q = none) : Off p H (upd H' q o) := fun c u n e => by
  have e' := a c u n e
  rw [upd_ne (ne_of_none e' h)]
  exact e'
theorem Off.free {p q : Addr} {H H' : Hp} (a : Off p H H') (h : H' q = none) (n : q ≠ p) : H q = none := by
  cases e : H q with
  | none => rfl
  | some o =>
    rw [a q o n e] at h
    cases h
theorem Off.mut {p q : Addr} {H H' : Hp} {o : HO} (a : Off p H H') (h : H q = none) : Off p H (upd H' q o) := fun c u n e => by
  rw [upd_ne (ne_of_none e h)]
  exact a c u n e
/-- p is new: nothing of old is touched -/
theorem Off.same {p : Addr} {H0 H H' : Hp} (s : Same H0 H) (n : H0 p = none) (a : Off p H H') : Same H0 H' := fun c o e =>
  a c o (ne_of_none e n) (s c o e)
theorem same_mut {H H' : Hp} {p : Addr} {o : HO} (e : Same H H') (h : H p = none) : Same H (upd H' p o) := fun b x q => by
  rw [upd_ne (ne_of_none q h)]
  exact e b x q
theorem sz_le {n : Nat} (h : n ≤ 1000000) : n ≤ sizeLine := Nat.le_trans h (by decide)
theorem sz_lt {n : Nat} (h : n < 1000000) : n < sizeLine := Nat.lt_of_lt_of_le h (by decide)
/-! ### kinds of things -/
inductive Kn where
  | non | bl | int | str | lst | tup | dct
def Kn.name : Kn → String
  | .non => "NoneType" | .bl => "bool" | .int => "int" | .str => "str" | .lst => "list" | .tup => "tuple" | .dct => "dict"
def Kn.isBl : Kn → Bool
  | .bl => true | _ => false
def Kn.isInt : Kn → Bool
  | .bl => true | .int => true | _ => false
def Kn.isWhole : Kn → Bool
  | .int => true | _ => false
def Kn.isStr : Kn → Bool
  | .str => true | _ => false
def Kn.isTup : Kn → Bool
  | .tup => true | _ => false
def Kn.isLst : Kn → Bool
  | .lst => true | _ => false
abbrev Knd (K : PySem.W.Frag) (H : Hp) (x : V) (k : Kn) : Prop := TyX K H x (.type k.name)
theorem kit_bl {K : PySem.W.Frag} (k : Kn) : PySem.W.kitOne K (.type k.name) (.type "bool") = some k.isBl := kit_ty (by cases k <;> decide +kernel)
theorem kit_int {K : PySem.W.Frag} (k : Kn) : PySem.W.kitOne K (.type k.name) (.type "int") = some k.isInt := kit_ty (by cases k <;> decide +kernel)
theorem kit_str {K : PySem.W.Frag} (k : Kn) : PySem.W.kitOne K (.type k.name) (.type "str") = some k.isStr := kit_ty (by cases k <;> decide +kernel)
theorem kit_tup {K : PySem.W.Frag} (k : Kn) : PySem.W.kitOne K (.type k.name) (.type "tuple") = some k.isTup := kit_ty (by cases k <;> decide +kernel)
theorem kit_lst {K : PySem.W.Frag} (k : Kn) : PySem.W.kitOne K (.type k.name) (.type "list") = some k.isLst := kit_ty (by cases k <;> decide +kernel)
section
variable {K : PySem.W.Frag} {H : Hp}
theorem kn_non : Knd K H .non .non := .base .non
theorem kn_bl (b : Bool) : Knd K H (.bl b) .bl := .base (.bl b)
theorem kn_int (i : Int) : Knd K H (.int i) .int := .base (.int i)
theorem kn_str (x : Str) : Knd K H (.str x) .str := .base (.str x)
theorem kn_lst {a : Addr} {xs : List V} (e : H a = some (.lst xs)) : Knd K H (.ref a) .lst := .base (.lst e)
theorem kn_tup {a : Addr} {xs : List V} (e : H a = some (.tup xs)) : Knd K H (.ref a) .tup := .base (.tup e)
theorem kn_dct {a : Addr} {xs : List (Key × V)} (e : H a = some (.dK xs)) : Knd K H (.ref a) .dct := .base (.dK e)
end
theorem Knd.same {K : PySem.W.Frag} {H H' : Hp} {x : V} {k : Kn} (h : Knd K H x k) (s : Same H H') : Knd K H' x k := by
  revert h
  show TyX K H x (.type k.name) → TyX K H' x (.type k.name)
  generalize Value.type k.name = t
  intro h
  cases h with
  | base b =>
    cases b with
    | non => exact .base .non
    | bl x => exact .base (.bl x)
    | int i => exact .base (.int i)
    | str x => exact .base (.str x)
    | flt x => exact .base (.flt x)
    | lst e => exact .base (.lst (s _ _ e))
    | frz e => exact .base (.frz (s _ _ e))
    | tup e => exact .base (.tup (s _ _ e))
    | dK e => exact .base (.dK (s _ _ e))
    | dT e => exact .base (.dT (s _ _ e))
    | ins e cl ha hn htk hm => exact .base (.ins (s _ _ e) cl ha hn htk hm)
  | byt b => exact .byt b
  | set e => exact .set (s _ _ e)
  | kList e c => exact .kList e c
  | kTuple e c => exact .kTuple e c
  | kDict e c => exact .kDict e c
  | fTuple e => exact .fTuple (s _ _ e)
  | fDict e => exact .fDict (s _ _ e)
/-! ### indices -/
theorem atI_of {α : Type} {xs : List α} {i : Int} {x : α} (h0 : 0 ≤ i) (h : xs[i.toNat]? = some x) : atI xs i = some x := by
  have e : i = ((i.toNat : Nat) : Int) := by omega
  rw [e]
  exact atI_nat h
theorem atI_in {α : Type} {xs : List α} {i : Int} (h0 : 0 ≤ i) (h1 : i < (xs.length : Int)) : ∃ x, atI xs i = some x ∧ x ∈ xs := by
  have hl : i.toNat < xs.length := by omega
  exact ⟨xs[i.toNat], atI_of h0 (List.getElem?_eq_getElem hl), List.getElem_mem hl⟩
theorem lst_at {H : Hp} {l : Addr} {xs : List V} {i : Int} (h : H l = some (.lst xs)) (h0 : 0 ≤ i) (h1 : i < (xs.length : Int)) : ∃ x, H l = some (.lst xs) ∧ atI xs i = some x ∧ x ∈ xs := by
  obtain ⟨x, a, b⟩ := atI_in h0 h1
  exact ⟨x, h, a, b⟩
/-! ### texts -/
def OkS (z : Str) : Prop := ∀ c ∈ z.cps.toList, c < 1114112
theorem OkS.dec {z : Str} (h : z.cps.toList.all (fun c => decide (c < 1114112)) = true) : OkS z := fun c hc => of_decide_eq_true (List.all_eq_true.mp h c hc)
theorem OkS.strOk {z : Str} (h : OkS z) : PyData.strOk z = true := by
  unfold PyData.strOk
  rw [← Array.all_toList, List.all_eq_true]
  exact fun c hc => decide_eq_true (h c hc)
theorem cps_app (a b : Str) : (a ++ b).cps.toList = a.cps.toList ++ b.cps.toList := by
  show (a.cps ++ b.cps).toList = _
  simp
theorem OkS.app {a b : Str} (ha : OkS a) (hb : OkS b) : OkS (a ++ b) := fun c hc => by
  rw [cps_app] at hc
  rcases List.mem_append.mp hc with h | h
  · exact ha c h
  · exact hb c h
theorem OkS.cut {a : Str} (ha : OkS a) (lo hi : Option Int) : OkS (cutS a lo hi) := fun c hc => by
  unfold cutS at hc
  rw [List.toList_toArray] at hc
  exact ha c (List.mem_of_mem_drop (List.mem_of_mem_take hc))
theorem OkS.one {c : Nat} (h : c < 1114112) : OkS ⟨#[c]⟩ := fun d hd => by
  have e : d = c := by simpa using hd
  rw [e]
  exact h
theorem cps_glued (sep : Str) : ∀ (rest : List Str) (acc : Array Nat), (rest.foldl (fun acc p => acc ++ sep.cps ++ p.cps) acc).toList = acc.toList ++ (rest.map fun p => sep.cps.toList ++ p.cps.toList).flatten
  | [], acc => by simp
  | p :: r, acc => by
    rw [List.foldl_cons, cps_glued sep r]
    simp
theorem OkS.join {sep : Str} (hs : OkS sep) : ∀ {ys : List Str}, (∀ y ∈ ys, OkS y) → OkS (Txt.join sep ys)
  | [], _ => fun c hc => by
    have e : (Txt.join sep []).cps.toList = [] := rfl
    rw [e] at hc
    cases hc
  | y :: r, h => fun c hc => by
    have e : (Txt.join sep (y :: r)).cps.toList = y.cps.toList ++ (r.map fun p => sep.cps.toList ++ p.cps.toList).flatten := cps_glued sep r y.cps
    rw [e] at hc
    rcases List.mem_append.mp hc with hc | hc
    · exact h y List.mem_cons_self c hc
    · obtain ⟨l, hl, hc⟩ := List.mem_flatten.mp hc
      obtain ⟨p, hp, rfl⟩ := List.mem_map.mp hl
      rcases List.mem_append.mp hc with hc | hc
      · exact hs c hc
      · exact h p (List.mem_cons_of_mem _ hp) c hc
/-- a ≤ b ≤ c, c a name's value -/
theorem chain_var {a b c : Int} {R : VK} {H : Hp} {σ : L2.St} {i : Nat} (hi : σ[i]? = some (some (.int c))) (h : R (.bl (decide (a ≤ b) && decide (b ≤ c))) H) :
    ∃ k, V.bl (decide (a ≤ b)) = .bl k ∧ (if k = true then tVar i σ H (fun w' H4 => rI0 (fun i j => .bl (decide (i ≤ j))) (.int b) w' H4 R) else R (.bl false) H) := by
  refine ⟨_, rfl, ?_⟩
  by_cases c1 : a ≤ b
  · rw [decide_eq_true c1] at h ⊢
    exact ⟨_, hi, _, _, rfl, rfl, h⟩
  · rw [decide_eq_false c1] at h ⊢
    exact h


/-! ### is_whole, is_within, is_name -/
section
variable {P : Program} {w : World} {K : PySem.W.Frag} {mg : Str → Option Value} {base : Heap}
def sp_is_whole (K : PySem.W.Frag) : Sp := fun vs H Q _ => ∃ x k, vs = [x] ∧ Knd K H x k ∧ Q (.bl k.isWhole) H
theorem ok_is_whole (T : Env K mg) : FnOk P w K mg base CX0 1 T.a_is_whole T.d_is_whole ["thing"] (sp_is_whole K) := by
  refine T.F_is_whole.ok sc_is_whole (fun vs H Q E h => ?_) (fun cdv A outer s H vs Q E hr h => ?_)
  · obtain ⟨x, k, rfl, _⟩ := h
    rfl
  · obtain ⟨x, k, rfl, hk, q⟩ := h
    refine ⟨_, (pss_one (ps_ret (pe_and (pe_callB call_isi (by rfl) T.m_isinstance PyProof.Rows.boot_isinstance (pa_cons (pv 0) (pa_cons (pe_bltn (v := .ty "int") (by rfl) T.m_int PyProof.Rows.boot_int rfl) pa_nil))) (pe_one (pe_not (pe_callB call_isi (by rfl) T.m_isinstance PyProof.Rows.boot_isinstance (pa_cons (pv 0) (pa_cons (pe_bltn (v := .ty "bool") (by rfl) T.m_bool PyProof.Rows.boot_bool rfl) pa_nil)))))))), ?_⟩
    refine ⟨x, rfl, x, .ty "int", .type k.name, .type "int", k.isInt, rfl, .ty _, hk, kit_int k, k.isInt, rfl, ?_⟩
    cases k <;> first
      | exact iteF q
      | exact iteT ⟨x, rfl, x, .ty "bool", _, .type "bool", _, rfl, .ty _, hk, kit_bl _, _, rfl, q⟩
def withinV : V → Int → Int → Bool
  | .int i, lo, hi => decide (lo ≤ i) && decide (i ≤ hi)
  | _, _, _ => false
def sp_is_within (K : PySem.W.Frag) : Sp := fun vs H Q _ => ∃ x k lo hi, vs = [x, .int lo, .int hi] ∧ Knd K H x k ∧ Q (.bl (withinV x lo hi)) H
theorem tyx_int {H : Hp} {x : V} {t : Value} (h : TyX K H x t) : t = .type "int" → ∃ i, x = .int i := by
  cases h with
  | base b => cases b <;> intro e <;> first | exact ⟨_, rfl⟩ | (exact absurd (Value.type.inj e) (by decide)) | cases e
  | _ => intro e; exact absurd (Value.type.inj e) (by decide)
theorem knd_int {H : Hp} {x : V} (h : Knd K H x .int) : ∃ i, x = .int i := tyx_int h rfl
theorem tyx_of_int {H : Hp} {x : V} {t : Value} (h : TyX K H x t) : ∀ i, x = .int i → t = .type "int" := by
  cases h with
  | base b => cases b <;> intro i e <;> first | rfl | cases e
  | _ => intro i e; cases e
theorem int_knd {H : Hp} {i : Int} {k : Kn} (h : Knd K H (.int i) k) : k = .int := by
  have e := Value.type.inj (tyx_of_int h i rfl)
  cases k <;> first | rfl | exact absurd e (by decide)
theorem ok_is_within (T : Env K mg) : FnOk P w K mg base CX0 2 T.a_is_within T.d_is_within ["thing", "low", "high"] (sp_is_within K) := by
  have G_is_whole : FnOk P w K mg base CX0 1 T.a_is_whole T.d_is_whole ["thing"] (sp_is_whole K) := ok_is_whole T
  refine T.F_is_within.ok sc_is_within (fun vs H Q E h => ?_) (fun cdv A outer s H vs Q E hr h => ?_)
  · obtain ⟨x, k, lo, hi, rfl, _⟩ := h
    rfl
  · obtain ⟨x, k, lo, hi, rfl, hk, q⟩ := h
    have hr_is_whole := hr
    refine ⟨_, (pss_one (ps_ret (pe_and (pe_call G_is_whole hr_is_whole (by rfl) T.g_is_whole T.F_is_whole.kp T.b_is_whole .nil pass0 (pa_cons (pv 0) pa_nil)) (pe_one (pe_chain op_le op_le (pv 1) (pv 0) (pv 2)))))), ?_⟩
    refine ⟨x, rfl, x, k, rfl, hk, k.isWhole, rfl, ?_⟩
    by_cases c : k = .int
    · subst c
      obtain ⟨i, rfl⟩ := knd_int hk
      refine iteT ⟨_, rfl, _, rfl, _, _, rfl, rfl, _, rfl, ?_⟩
      have q : Q (.bl (decide (lo ≤ i) && decide (i ≤ hi))) H := q
      by_cases c : lo ≤ i
      · rw [decide_eq_true c]
        refine iteT ⟨_, rfl, _, _, rfl, rfl, ?_⟩
        rw [decide_eq_true c] at q
        exact q
      · rw [decide_eq_false c]
        refine iteF ?_
        rw [decide_eq_false c] at q
        exact q
    · have e : k.isWhole = false := by cases k <;> first | rfl | exact absurd rfl c
      rw [e]
      refine iteF ?_
      have e2 : withinV x lo hi = false := by
        cases x with
        | int i => exact absurd (int_knd hk) c
        | _ => rfl
      rw [e2] at q
      exact q
/-- the own words -/
def ownW : List V := [V.str "rel", V.str "same", V.str "unlike", V.str "one", V.str "both", V.str "fresh", V.str "call", V.str "not"]
def letterL : List Nat := ("abcdefghijklmnopqrstuvwxyz" : Str).cps.toList
/-- what is_name tells of a text -/
def isName (x : Str) : Bool := decide (1 ≤ (x.length : Int)) && (decide ((x.length : Int) ≤ 8) && (!inV (.str x) ownW && x.cps.toList.all fun c => decide (c ∈ letterL)))
def nameV : V → Bool
  | .str x => isName x
  | _ => false
theorem tyx_str {H : Hp} {x : V} {t : Value} (h : TyX K H x t) : t = .type "str" → ∃ i, x = .str i := by
  cases h with
  | base b => cases b <;> intro e <;> first | exact ⟨_, rfl⟩ | (exact absurd (Value.type.inj e) (by decide)) | cases e
  | _ => intro e; exact absurd (Value.type.inj e) (by decide)
theorem tyx_of_str {H : Hp} {x : V} {t : Value} (h : TyX K H x t) : ∀ i, x = .str i → t = .type "str" := by
  cases h with
  | base b => cases b <;> intro i e <;> first | rfl | cases e
  | _ => intro i e; cases e
theorem knd_str {H : Hp} {x : V} (h : Knd K H x .str) : ∃ i, x = .str i := tyx_str h rfl
theorem str_knd {H : Hp} {i : Str} {k : Kn} (h : Knd K H (.str i) k) : k = .str := by
  have e := Value.type.inj (tyx_of_str h i rfl)
  cases k <;> first | rfl | exact absurd e (by decide)
/-- a list made sign by sign -/
theorem lc_signs {z : Str} {te : TE} {i : Nat} {σ : L2.St} {H : Hp} {D : Addr} {f : Nat → V} {Qd : Hp → Prop} (hD : H D = none) (hz : z.length ≤ sizeLine)
    (he : ∀ c H', Same H H' → ∀ Q : VK, Q (f c) H' → te ((wipe σ [i]).set i (some (.str ⟨#[c]⟩))) H' Q) (hw : ∀ v, wipe ((wipe σ [i]).set i (some v)) [i] = wipe σ [i])
    (hd : ∀ H', Same H H' → H' D = some (.lst (z.cps.toList.map f)) → Qd H') :
    ∃ W : Nat → Nat → Hp → Prop, (∃ m, W 0 m (upd H D (.lst []))) ∧ ∀ j m H, W j m H →
      ((Its z).stop j H ∧ Qd H) ∨ ((Its z).go j H ∧ ∃ Nx : Hp → Prop, (∀ H', Nx H' → ∃ m', m' < m ∧ W (j + 1) m' H') ∧ ∀ x H', (Its z).yld j H x H' → gName i x (wipe σ [i]) H' fun σ2 H2 => wipe σ2 [i] = wipe σ [i] ∧ tYes σ2 H2 fun b H3 =>
        if b = true then te σ2 H3 fun y H4 => ∃ acc, H4 D = some (.lst acc) ∧ acc.length < sizeLine ∧ Nx (upd H4 D (.lst (acc ++ [y]))) else Nx H3) := by
  refine lc_it walk_str (fun j H' => Same H H' ∧ H' D = some (.lst ((z.cps.toList.take j).map f))) ⟨same_upd hD, upd_same⟩ (fun _ _ _ _ => trivial) ?_ ?_
  · rintro j x H1 H2 hj ⟨sm, hL⟩ ⟨rfl, c, hc, rfl⟩
    refine ⟨hw _, ?_⟩
    refine he c H2 sm _ ⟨_, hL, ?_, same_mut sm hD, ?_⟩
    · rw [List.length_map, List.length_take]
      have e : z.cps.toList.length = z.length := by simp [Str.length]
      have e2 : z.cps.size = z.length := rfl
      omega
    · have g : z.cps.toList[j]? = some c := by
        rw [Array.getElem?_toList]
        exact hc
      rw [upd_same, List.take_add_one, g, List.map_append]
      rfl
  · rintro H' ⟨sm, hL⟩
    refine hd H' sm ?_
    have e : z.cps.toList.take z.cps.size = z.cps.toList := List.take_of_length_le (by simp)
    rw [e] at hL
    exact hL
def sp_is_name (K : PySem.W.Frag) : Sp := fun vs H Q _ => ∃ x k, vs = [x] ∧ Knd K H x k ∧ (∀ z, x = .str z → z.length ≤ sizeLine) ∧ ∀ H', Same H H' → Q (.bl (nameV x)) H'
theorem ok_is_name (T : Env K mg) : FnOk P w K mg base CX0 1 T.a_is_name T.d_is_name ["thing"] (sp_is_name K) := by
  refine T.F_is_name.ok sc_is_name (fun vs H Q E h => ?_) (fun cdv A outer s H vs Q E hr h => ?_)
  · obtain ⟨x, k, rfl, _⟩ := h
    rfl
  · obtain ⟨x, k, rfl, hk, hz, q⟩ := h
    refine ⟨_, (pss_cons (ps_if (PW.pt (pw_or (pt_not (pt_val (pe_callB call_isi (by rfl) T.m_isinstance PyProof.Rows.boot_isinstance (pa_cons (pv 0) (pa_cons (pe_bltn (v := .ty "str") (by rfl) T.m_str PyProof.Rows.boot_str rfl) pa_nil))))) (pw_or (pt_not (pt_chain op_le op_le pe_int (pe_callB call_len_str (by rfl) T.m_len PySem.boot_len (pa_cons (pv 0) pa_nil)) (pe_glob (v := V.int 8) (by rfl) T.g_LONGEST ⟨_, rfl⟩))) (pw_or1 (pt_cmpR op_in_seq (pv 0) (pe_glob (v := .ref T.a_OWN_WORDS) (by rfl) T.g_OWN_WORDS rfl) (by rfl)))))) (pss_one (ps_ret pe_bl)) pss_nil)
      (pss_one (ps_ret (pe_callB (cr_all (by rfl)) (by rfl) T.m_all PyProof.Rows.boot_all (pa_cons (pe_lc (own := [("sign", 1)]) (g := gName 1) (tt := tYes) (by rfl) sc_is_name.nd (pi_str (pv 0)) (blkOk_by (own := [("sign", 1)]) (N := ["thing", "sign"]) (sc := defScope s_is_name) (by decide +kernel)) (fun _ _ _ _ _ => (pg_name (i := 1) sc_is_name.nd rfl (Or.inl rfl))) (fun _ _ _ _ _ => pts_nil) (fun _ _ _ _ _ => (pe_cmpR op_in_sign (pv 1) (pe_glob (v := V.str "abcdefghijklmnopqrstuvwxyz") (by rfl) T.g_LETTERS ⟨_, rfl⟩) (by rfl)))) pa_nil))))), ?_⟩
    refine ⟨x, rfl, x, .ty "str", .type k.name, .type "str", k.isStr, rfl, .ty _, hk, kit_str k, _, rfl, ?_⟩
    by_cases ck : k = .str
    · subst ck
      obtain ⟨z, rfl⟩ := knd_str hk
      have hz := hz z rfl
      have qn : ∀ H', Same H H' → Q (.bl (decide (1 ≤ (z.length : Int)) && (decide ((z.length : Int) ≤ 8) && (!inV (.str z) ownW && z.cps.toList.all fun c => decide (c ∈ letterL))))) H' := q
      refine iteF ⟨_, rfl, z, rfl, hz, _, _, rfl, rfl, _, rfl, ?_⟩
      by_cases c1 : (1 : Int) ≤ (z.length : Int)
      · rw [decide_eq_true c1] at qn ⊢
        refine iteT ⟨_, _, rfl, rfl, _, rfl, ?_⟩
        by_cases c2 : (z.length : Int) ≤ 8
        · rw [decide_eq_true c2] at qn ⊢
          refine iteF ⟨_, rfl, T.a_OWN_WORDS, ownW, rfl, .inr (T.q_OWN_WORDS H), rfl, rfl, _, rfl, ?_⟩
          cases c3 : inV (.str z) ownW with
          | true =>
            rw [c3] at qn
            exact qn H (Same.refl H)
          | false =>
            rw [c3] at qn
            refine iteF ?_
            refine ⟨_, rfl, z, rfl, fun D hD => ?_⟩
            refine lc_signs (f := fun c => .bl (decide (c ∈ letterL))) hD hz (fun c H' sm Q' q' => ⟨_, rfl, c, _, rfl, rfl, q'⟩) (fun v => rfl) fun H' sm hL => ?_
            refine ⟨D, z.cps.toList.map fun c => decide (c ∈ letterL), rfl, SqL.of ?_, ?_⟩
            · rw [hL, List.map_map]
              rfl
            · have e : ((z.cps.toList.map fun c => decide (c ∈ letterL)).all id) = z.cps.toList.all fun c => decide (c ∈ letterL) := by
                rw [List.all_map]
                rfl
              rw [e]
              exact qn H' sm
        · rw [decide_eq_false c2] at qn ⊢
          exact qn H (Same.refl H)
      · rw [decide_eq_false c1] at qn ⊢
        refine iteF ⟨_, rfl, ?_⟩
        exact qn H (Same.refl H)
    · have e : k.isStr = false := by cases k <;> first | rfl | exact absurd rfl ck
      rw [e]
      have e2 : nameV x = false := by
        cases x with
        | str i => exact absurd (str_knd hk) ck
        | _ => rfl
      rw [e2] at q
      exact q H (Same.refl H)
end


/-! ### the law's cell, purse and draws -/
section
variable {P : Program} {w : World} {K : PySem.W.Frag} {mg : Str → Option Value} {base : Heap}
def sp_l_cell (K : PySem.W.Frag) : Sp := fun vs H Q _ => ∃ (a : Addr) (ns : List Int) (k : Int), vs = [.ref a, .int k] ∧ SqL K H a (ns.map V.int) ∧ 0 ≤ k ∧ ∀ c, Q (.int c) H
theorem ok_l_cell (T : Env K mg) : FnOk P w K mg base CX0 1 T.a_l_cell T.d_l_cell ["_law_script", "_law_k"] (sp_l_cell K) := by
  refine T.F_l_cell.ok sc_l_cell (fun vs H Q E h => ?_) (fun cdv A outer s H vs Q E hr h => ?_)
  · obtain ⟨a, ns, k, rfl, _⟩ := h
    rfl
  · obtain ⟨a, ns, k, rfl, hS, h0, q⟩ := h
    refine ⟨_, (pss_cons (ps_if (pt_cmpR op_lt (pv 1) (pe_callB call_len_seq (by rfl) T.m_len PySem.boot_len (pa_cons (pv 0) pa_nil)) (nomark _)) (pss_one (ps_ret (pe_ix ix_list (pv 0) (pv 1) (fun _ _ => rfl)))) pss_nil)
      (pss_one (ps_ret (pe_op op_add (pe_op op_mul pe_int (pv 1)) pe_int)))), ?_⟩
    refine ⟨_, rfl, _, rfl, a, _, rfl, .inl hS, _, _, rfl, rfl, _, rfl, ite2 (fun c => ?_) (fun c => ?_)⟩
    · have c' : k < (((ns.map V.int).length : Nat) : Int) := of_decide_eq_true c
      obtain ⟨x, hx, hm⟩ := atI_in h0 c'
      obtain ⟨n, _, rfl⟩ := List.mem_map.mp hm
      exact ⟨_, rfl, _, rfl, a, _, k, _, rfl, rfl, hS, hx, q n⟩
    · exact ⟨_, rfl, _, _, rfl, rfl, .inl ⟨by decide, by decide⟩, _, _, rfl, rfl, q _⟩
/-- a purse stands at p -/
def Pu (H : Hp) (p : Addr) : Prop := ∃ x y z : Int, H p = some (.lst [.int x, .int y, .int z])
def sp_l_purse (K : PySem.W.Frag) : Sp := fun vs H Q _ => ∃ (c : Int), vs = [.int c] ∧ ∀ p H', H p = none → Same H H' → Pu H' p → Q (.ref p) H'
theorem ok_l_purse (T : Env K mg) : FnOk P w K mg base CX0 1 T.a_l_purse T.d_l_purse ["_law_cell_here"] (sp_l_purse K) := by
  refine T.F_l_purse.ok sc_l_purse (fun vs H Q E h => ?_) (fun cdv A outer s H vs Q E hr h => ?_)
  · obtain ⟨c, rfl, _⟩ := h
    rfl
  · obtain ⟨c, rfl, q⟩ := h
    refine ⟨_, (pss_one (ps_ret (pe_lst (pa_cons (pe_callB (call_max2 (by rfl)) (by rfl) T.m_max PyProof.Rows.boot_max (pa_cons pe_int (pa_cons (pe_op op_sub (pv 0) (pe_op op_pow pe_int pe_int)) pa_nil))) (pa_cons (pe_op op_mod (pv 0) pe_int) (pa_cons pe_int pa_nil)))))), ?_⟩
    refine ⟨_, rfl, _, _, rfl, rfl, ⟨by decide, by decide, by decide⟩, _, _, rfl, rfl, _, _, rfl, _, rfl, _, _, rfl, rfl, (by show (0 : Int) < 2147483629; decide), (by show 3 ≤ sizeLine; decide), fun p hp => ?_⟩
    exact q p _ hp (same_upd hp) ⟨_, _, _, upd_same⟩
def sp_l_take (K : PySem.W.Frag) : Sp := fun vs H Q _ => ∃ (p : Addr) (n : Int), vs = [.ref p, .int n] ∧ Pu H p ∧ 0 < n ∧ n.natAbs < 2 ^ 9000 ∧ ∀ r H', 0 ≤ r → r < n → Off p H H' → Pu H' p → Q (.int r) H'
theorem ok_l_take (T : Env K mg) : FnOk P w K mg base CX0 1 T.a_l_take T.d_l_take ["_law_purse_here", "_law_many"] (sp_l_take K) := by
  refine T.F_l_take.ok sc_l_take (fun vs H Q E h => ?_) (fun cdv A outer s H vs Q E hr h => ?_)
  · obtain ⟨p, n, rfl, _⟩ := h
    rfl
  · obtain ⟨p, n, rfl, ⟨x, y, z, hp⟩, hn, hn2, q⟩ := h
    refine ⟨_, (pss_cons (ps_asg (pe_op op_add (pe_ix ix_list (pv 0) pe_int (fun _ _ => rfl)) pe_int) (pg_sub (pv 0) pe_int set_list))
      (pss_cons (ps_if (pt_cmpR op_gt (pe_ix ix_list (pv 0) pe_int (fun _ _ => rfl)) pe_int (nomark _)) (pss_cons (ps_set (i := 2) sc_l_take.nd rfl (Or.inl rfl) (pe_op op_mod (pe_ix ix_list (pv 0) pe_int (fun _ _ => rfl)) (pv 1)))
      (pss_cons (ps_asg (pe_op op_fdivW (pe_ix ix_list (pv 0) pe_int (fun _ _ => rfl)) (pv 1)) (pg_sub (pv 0) pe_int set_list))
      (pss_one (ps_ret (pv 2))))) pss_nil)
      (pss_cons (ps_set (i := 3) sc_l_take.nd rfl (Or.inl rfl) (pe_op op_mod (pe_op op_add (pe_op op_add (pe_op op_mul (pe_ix ix_list (pv 0) pe_int (fun _ _ => rfl)) pe_int) (pe_op op_mul pe_int (pe_ix ix_list (pv 0) pe_int (fun _ _ => rfl)))) pe_int) pe_int))
      (pss_cons (ps_set (i := 3) sc_l_take.nd rfl (Or.inl rfl) (pe_op op_mod (pe_op op_mul (pv 3) (pv 3)) pe_int))
      (pss_cons (ps_set (i := 3) sc_l_take.nd rfl (Or.inl rfl) (pe_op op_mod (pe_op op_mul (pe_op op_add (pv 3) (pe_op op_mul pe_int (pe_ix ix_list (pv 0) pe_int (fun _ _ => rfl)))) pe_int) pe_int))
      (pss_one (ps_ret (pe_op op_mod (pe_op op_fdivW (pe_op op_mod (pe_op op_mul (pv 3) (pv 3)) pe_int) pe_int) (pv 1))))))))), ?_⟩
    refine ⟨_, rfl, p, _, 2, _, rfl, rfl, SqL.of hp, atI_nat (j := 2) rfl, _, _, rfl, rfl, _, rfl, p, _, 2, 2, rfl, rfl, hp, rfl, ?_⟩
    have h1 : (upd H p (.lst ([V.int x, V.int y, V.int z].set 2 (V.int (z + 1))))) p = some (.lst [V.int x, V.int y, V.int (z + 1)]) := upd_same
    refine ⟨_, rfl, p, _, 0, _, rfl, rfl, SqL.of h1, atI_nat (j := 0) rfl, _, _, rfl, rfl, _, rfl, ite2 (fun c => ?_) (fun c => ?_)⟩
    · refine ⟨_, rfl, p, _, 0, _, rfl, rfl, SqL.of h1, atI_nat (j := 0) rfl, _, rfl, _, _, rfl, rfl, hn, ?_⟩
      refine ⟨_, rfl, p, _, 0, _, rfl, rfl, SqL.of h1, atI_nat (j := 0) rfl, _, rfl, _, _, rfl, rfl, wide_div hn hn2 (by decide) (by decide), _, rfl, p, _, 0, 0, rfl, rfl, h1, rfl, ?_⟩
      refine ⟨_, rfl, ?_⟩
      exact q _ _ (Int.emod_nonneg _ (by omega)) (Int.emod_lt_of_pos _ hn) (Off.put.trans Off.put) ⟨_, _, _, upd_same⟩
    · refine ⟨_, rfl, p, _, 1, _, rfl, rfl, SqL.of h1, atI_nat (j := 1) rfl, _, _, rfl, rfl, .inr ⟨by decide, by decide⟩, _, rfl, p, _, 2, _, rfl, rfl, SqL.of h1, atI_nat (j := 2) rfl, _, _, rfl, rfl, .inl ⟨by decide, by decide⟩, _, _, rfl, rfl, _, _, rfl, rfl, _, _, rfl, rfl, (by show (0 : Int) < 2147483647; decide), ?_⟩
      have b1 : ∀ i : Int, -(2 ^ 64) < i % 2147483647 ∧ i % 2147483647 < 2 ^ 64 := fun i => by omega
      refine ⟨_, rfl, _, rfl, _, _, rfl, rfl, .inl (b1 _), _, _, rfl, rfl, (by show (0 : Int) < 2147483629; decide), ?_⟩
      refine ⟨_, rfl, _, rfl, p, _, 2, _, rfl, rfl, SqL.of h1, atI_nat (j := 2) rfl, _, _, rfl, rfl, .inl ⟨by decide, by decide⟩, _, _, rfl, rfl, _, _, rfl, rfl, .inr ⟨by decide, by decide⟩, _, _, rfl, rfl, (by show (0 : Int) < 2147483587; decide), ?_⟩
      have b2 : ∀ i : Int, -(2 ^ 64) < i % 2147483587 ∧ i % 2147483587 < 2 ^ 64 := fun i => by omega
      refine ⟨_, rfl, _, rfl, _, _, rfl, rfl, .inl (b2 _), _, _, rfl, rfl, (by show (0 : Int) < 2147483579; decide), _, _, rfl, rfl, wide_div (b := 4) (by decide) (by decide) (by decide) (by decide), _, rfl, _, _, rfl, rfl, hn, ?_⟩
      exact q _ _ (Int.emod_nonneg _ (by omega)) (Int.emod_lt_of_pos _ hn) Off.put ⟨_, _, _, upd_same⟩
end
theorem lt9000 {n : Int} (h : n.natAbs < 2 ^ 128) : n.natAbs < 2 ^ 9000 := Nat.lt_of_lt_of_le h (Nat.pow_le_pow_right (by decide) (by decide))
theorem Pu.ne {H : Hp} {p q : Addr} {o : HO} (h : Pu H p) (hq : H q = some o) (d : ∀ x y z : Int, o ≠ .lst [.int x, .int y, .int z]) : q ≠ p := fun e => by
  obtain ⟨x, y, z, hp⟩ := h
  rw [e, hp] at hq
  exact d x y z (Option.some.inj hq).symm
theorem Pu.new {H : Hp} {p q : Addr} {o : HO} (h : Pu H p) (hq : H q = none) : Pu (upd H q o) p := by
  obtain ⟨x, y, z, hp⟩ := h
  exact ⟨x, y, z, by rw [upd_ne (ne_of_none hp hq)]; exact hp⟩
theorem Pu.nne {H : Hp} {p q : Addr} (h : Pu H p) (hq : H q = none) : q ≠ p := fun e => by
  obtain ⟨x, y, z, hp⟩ := h
  rw [e, hp] at hq
  cases hq
theorem Pu.off {H : Hp} {p q : Addr} {o : HO} (h : Pu H p) (hq : q ≠ p) : Pu (upd H q o) p := by
  obtain ⟨x, y, z, hp⟩ := h
  exact ⟨x, y, z, by rw [upd_ne (Ne.symm hq)]; exact hp⟩
theorem Pu.same {H H' : Hp} {p : Addr} (h : Pu H p) (s : Same H H') : Pu H' p := by
  obtain ⟨x, y, z, hp⟩ := h
  exact ⟨x, y, z, s _ _ hp⟩


section
variable {P : Program} {w : World} {K : PySem.W.Frag} {mg : Str → Option Value} {base : Heap}
def sp_own_words : Sp := fun vs H Q _ => vs = [] ∧ ∀ l, H l = none → Q (.ref l) (upd H l (.lst ownW))
theorem ok_own_words (T : Env K mg) : FnOk P w K mg base CX0 1 T.a_own_words T.d_own_words [] sp_own_words := by
  refine T.F_own_words.ok sc_own_words (fun vs H Q E h => ?_) (fun cdv A outer s H vs Q E hr h => ?_)
  · obtain ⟨rfl, _⟩ := h
    rfl
  · obtain ⟨rfl, q⟩ := h
    refine ⟨_, (pss_one (ps_ret (pe_callTy call_list_of (by rfl) T.m_list PyProof.Rows.boot_list (pa_cons (pe_glob (v := .ref T.a_OWN_WORDS) (by rfl) T.g_OWN_WORDS rfl) pa_nil)))), ?_⟩
    exact ⟨T.a_OWN_WORDS, ownW, rfl, .inr (T.q_OWN_WORDS H), fun l hl => q l hl⟩
/-- a text of at most n signs -/
def StrLe (n : Nat) (v : V) : Prop := ∃ z : Str, v = .str z ∧ z.length ≤ n ∧ OkS z
theorem ownW_le : ∀ v ∈ ownW, StrLe 6 v := by
  intro v hv
  unfold ownW at hv
  simp only [List.mem_cons, List.not_mem_nil, or_false] at hv
  rcases hv with rfl | rfl | rfl | rfl | rfl | rfl | rfl | rfl <;> exact ⟨_, rfl, by decide, .dec (by decide +kernel)⟩
theorem app_le {a b : Str} {n : Nat} (h : a.length + b.length ≤ n) : (a ++ b).length ≤ n := by
  rw [Str.length_append]
  exact h
theorem signs39 : (("abcdefghijklmnopqrstuvwxyzabcxyzA?0 -_." : Str).cps.toList.length : Int) = 39 := by decide +kernel
theorem signsOk : OkS ("abcdefghijklmnopqrstuvwxyzabcxyzA?0 -_." : Str) := .dec (by decide +kernel)
theorem sum_ones : ∀ ys : List Str, (∀ y ∈ ys, y.length = 1) → (ys.map (·.length)).sum = ys.length
  | [], _ => rfl
  | y :: r, h => by
    rw [List.map_cons, List.sum_cons, sum_ones r fun z hz => h z (List.mem_cons_of_mem _ hz), h y List.mem_cons_self, List.length_cons]
    omega
def sp_l_text (K : PySem.W.Frag) : Sp := fun vs H Q _ => ∃ p, vs = [.ref p] ∧ Pu H p ∧ ∀ z H', z.length ≤ 100 → OkS z → Off p H H' → Pu H' p → Q (.str z) H'
theorem ok_l_text (T : Env K mg) : FnOk P w K mg base CX0 2 T.a_l_text T.d_l_text ["_law_purse_here"] (sp_l_text K) := by
  have G_l_take : FnOk P w K mg base CX0 1 T.a_l_take T.d_l_take ["_law_purse_here", "_law_many"] (sp_l_take K) := ok_l_take T
  refine T.F_l_text.ok sc_l_text (fun vs H Q E h => ?_) (fun cdv A outer s H vs Q E hr h => ?_)
  · obtain ⟨p, rfl, _⟩ := h
    rfl
  · obtain ⟨p, rfl, hp, q⟩ := h
    have hr_l_take := hr
    refine ⟨_, (pss_cons (ps_set (i := 1) sc_l_text.nd rfl (Or.inl rfl) (pe_lst (pa_cons pe_str (pa_cons pe_str (pa_cons pe_str (pa_cons pe_str (pa_cons pe_str (pa_cons pe_str (pa_cons pe_str (pa_cons pe_str pa_nil))))))))))
      (pss_cons (ps_set (i := 2) sc_l_text.nd rfl (Or.inr rfl) pe_str)
      (pss_cons (ps_if (pt_cmpR op_eq (pe_call G_l_take hr_l_take (by rfl) T.g_l_take T.F_l_take.kp T.b_l_take .nil pass0 (pa_cons (pv 0) (pa_cons pe_int pa_nil))) pe_int (nomark _)) (pss_cons (ps_set (i := 3) sc_l_text.nd rfl (Or.inl rfl) (pe_ix ix_list (pv 1) (pe_call G_l_take hr_l_take (by rfl) T.g_l_take T.F_l_take.kp T.b_l_take .nil pass0 (pa_cons (pv 0) (pa_cons pe_int pa_nil))) (fun _ _ => rfl)))
      (pss_one (ps_ret (pe_ix ix_list (pe_lst (pa_cons (pv 3) (pa_cons (pe_op op_add_str (pv 3) pe_str) (pa_cons (pe_slice sl_str (pv 3) (po_some pe_int) po_none) (pa_cons (pe_op op_add_str pe_str (pv 3)) (pa_cons (pe_op op_add_str (pv 3) pe_str) pa_nil)))))) (pe_call G_l_take hr_l_take (by rfl) T.g_l_take T.F_l_take.kp T.b_l_take .nil pass0 (pa_cons (pv 0) (pa_cons pe_int pa_nil))) (fun _ _ => rfl))))) pss_nil)
      (pss_cons (ps_set (i := 4) sc_l_text.nd rfl (Or.inl rfl) (pe_ix ix_list (pe_lst (pa_cons (pe_call G_l_take hr_l_take (by rfl) T.g_l_take T.F_l_take.kp T.b_l_take .nil pass0 (pa_cons (pv 0) (pa_cons pe_int pa_nil))) (pa_cons pe_int (pa_cons pe_int pa_nil)))) (pe_call G_l_take hr_l_take (by rfl) T.g_l_take T.F_l_take.kp T.b_l_take .nil pass0 (pa_cons (pv 0) (pa_cons pe_int pa_nil))) (fun _ _ => rfl)))
      (pss_cons (ps_set (i := 5) sc_l_text.nd rfl (Or.inr rfl) (pe_ix ix_list (pe_lst (pa_cons pe_int (pa_cons pe_int (pa_cons pe_int pa_nil)))) (pe_call G_l_take hr_l_take (by rfl) T.g_l_take T.F_l_take.kp T.b_l_take .nil pass0 (pa_cons (pv 0) (pa_cons pe_int pa_nil))) (fun _ _ => rfl)))
      (pss_one (ps_ret (pe_join pe_str (pe_lc (own := [("_law_k", 6)]) (g := gName 6) (tt := tYes) (by rfl) sc_l_text.nd (pi_range1 (by rfl) T.m_range (pa_cons (pv 4) pa_nil)) (blkOk_by (own := [("_law_k", 6)]) (N := ["_law_purse_here", "_law_words", "_law_signs", "_law_word", "_law_many", "_law_most", "_law_k"]) (sc := defScope s_l_text) (by decide +kernel)) (fun _ _ _ _ _ => (pg_name (i := 6) sc_l_text.nd rfl (Or.inl rfl))) (fun _ _ _ _ _ => pts_nil) (fun _ _ _ _ _ => (pe_ix ix_str (pv 2) (pe_call G_l_take hr_l_take (by rfl) T.g_l_take T.F_l_take.kp T.b_l_take .nil pass0 (pa_cons (pv 0) (pa_cons (pv 5) pa_nil))) (fun _ _ => rfl)))))))))))), ?_⟩
    refine ⟨(by show 8 ≤ sizeLine; decide), fun l hl => ?_⟩
    have o1 : Off p H (upd H l (.lst ownW)) := (Off.refl p H).new hl
    have p1 : Pu (upd H l (.lst ownW)) p := hp.new hl
    have nlp : l ≠ p := hp.nne hl
    refine ⟨_, rfl, p, 3, rfl, p1, by decide, lt9000 (by decide), fun r H2 _ _ o2 p2 => ⟨rfl, _, rfl, ite2 (fun c => ?_) (fun c => ?_)⟩⟩
    · refine ⟨.ref l, rfl, _, rfl, p, 8, rfl, p2, by decide, lt9000 (by decide), fun r3 H3 r30 r31 o3 p3 => ?_⟩
      have l3 : H3 l = some (.lst ownW) := o3 _ _ nlp (o2 _ _ nlp upd_same)
      obtain ⟨x, hx, hm⟩ := atI_in (xs := ownW) r30 r31
      obtain ⟨z, rfl, hz, oz⟩ := ownW_le x hm
      refine ⟨l, ownW, r3, _, rfl, rfl, SqL.of l3, hx, ?_⟩
      have s7 : ∀ t : Str, t.length ≤ 1 → z.length + t.length ≤ sizeLine := fun t ht => sz_le (by omega)
      have s8 : ∀ t : Str, t.length ≤ 1 → t.length + z.length ≤ sizeLine := fun t ht => sz_le (by omega)
      refine ⟨_, rfl, _, rfl, _, _, rfl, rfl, s7 _ (by decide), _, rfl, 1, rfl, z, rfl, sz_le (by omega), _, rfl, _, _, rfl, rfl, s8 _ (by decide), _, rfl, _, _, rfl, rfl, s7 _ (by decide), (by show 5 ≤ sizeLine; decide), fun l4 hl4 => ?_⟩
      refine ⟨_, rfl, p, 5, rfl, p3.new hl4, by decide, lt9000 (by decide), fun r5 H5 r50 r51 o5 p5 => ?_⟩
      have l5 := o5 l4 _ (p3.nne hl4) upd_same
      obtain ⟨y, l5, hy, hm⟩ := lst_at l5 r50 r51
      refine ⟨l4, _, r5, y, rfl, rfl, SqL.of l5, hy, ?_⟩
      have hy2 : StrLe 100 y := by
        simp only [List.mem_cons, List.not_mem_nil, or_false] at hm
        have c1 := cutS_length z (some 1) none
        rcases hm with rfl | rfl | rfl | rfl | rfl
        · exact ⟨_, rfl, by omega, oz⟩
        · exact ⟨_, rfl, app_le (Nat.le_trans (Nat.add_le_add hz (show _ ≤ 1 by decide)) (by decide)), oz.app (.dec (by decide +kernel))⟩
        · exact ⟨_, rfl, by omega, oz.cut _ _⟩
        · exact ⟨_, rfl, app_le (Nat.le_trans (Nat.add_le_add (show _ ≤ 1 by decide) hz) (by decide)), OkS.app (.dec (by decide +kernel)) oz⟩
        · exact ⟨_, rfl, app_le (Nat.le_trans (Nat.add_le_add hz (show _ ≤ 1 by decide)) (by decide)), oz.app (.dec (by decide +kernel))⟩
      obtain ⟨t, rfl, ht, ot⟩ := hy2
      exact q t H5 ht ot ((o1.trans (o2.trans o3)).new hl4 |>.trans o5) p5
    · refine ⟨_, rfl, p, 11, rfl, p2, by decide, lt9000 (by decide), fun r3 H3 r30 r31 o3 p3 => ?_⟩
      refine ⟨(by show 3 ≤ sizeLine; decide), fun l4 hl4 => ?_⟩
      refine ⟨_, rfl, p, 3, rfl, p3.new hl4, by decide, lt9000 (by decide), fun r5 H5 r50 r51 o5 p5 => ?_⟩
      have l5 := o5 l4 _ (p3.nne hl4) upd_same
      obtain ⟨y, l5, hy, hm⟩ := lst_at l5 r50 r51
      have hy2 : ∃ m : Int, y = .int m ∧ 0 ≤ m ∧ m ≤ 11 := by
        simp only [List.mem_cons, List.not_mem_nil, or_false] at hm
        rcases hm with rfl | rfl | rfl
        · exact ⟨_, rfl, r30, by omega⟩
        · exact ⟨_, rfl, by decide, by decide⟩
        · exact ⟨_, rfl, by decide, by decide⟩
      obtain ⟨m, rfl, m0, m1⟩ := hy2
      refine ⟨l4, _, r5, _, rfl, rfl, SqL.of l5, hy, ?_⟩
      refine ⟨(by show 3 ≤ sizeLine; decide), fun l6 hl6 => ?_⟩
      refine ⟨_, rfl, p, 3, rfl, p5.new hl6, by decide, lt9000 (by decide), fun r7 H7 r70 r71 o7 p7 => ?_⟩
      have l7 := o7 l6 _ (p5.nne hl6) upd_same
      obtain ⟨y, l7, hy, hm⟩ := lst_at l7 r70 r71
      have hy2 : ∃ m : Int, y = .int m ∧ 0 < m ∧ m ≤ 39 := by
        simp only [List.mem_cons, List.not_mem_nil, or_false] at hm
        rcases hm with rfl | rfl | rfl <;> exact ⟨_, rfl, by decide, by decide⟩
      obtain ⟨mo, rfl, mo0, mo1⟩ := hy2
      refine ⟨l6, _, r7, _, rfl, rfl, SqL.of l7, hy, ?_⟩
      have o07 : Off p H H7 := (((o1.trans (o2.trans o3)).new hl4).trans o5).new hl6 |>.trans o7
      refine ⟨⟨_, rfl⟩, _, rfl, m, rfl, by omega, by omega, fun D hD => ?_⟩
      have nDp : D ≠ p := p7.nne hD
      refine lc_it walk_range (fun i H8 => Off p H H8 ∧ Pu H8 p ∧ ∃ ys : List Str, ys.length = i ∧ (∀ y ∈ ys, y.length = 1 ∧ OkS y) ∧ H8 D = some (.lst (ys.map V.str)))
        ⟨o07.new hD, p7.new hD, [], rfl, (by intro y hy; cases hy), upd_same⟩ (fun _ _ _ _ => trivial) ?_ ?_
      · rintro i x H8 H9 hi ⟨o8, p8, ys, yl, y1, hL⟩ ⟨rfl, rfl⟩
        refine ⟨rfl, ?_⟩
        refine ⟨_, rfl, _, rfl, _, rfl, p, mo, rfl, p8, mo0, lt9000 (by omega), fun r10 H10 r100 r101 o10 p10 => ?_⟩
        obtain ⟨c, hc, hcm⟩ := atI_in (xs := ("abcdefghijklmnopqrstuvwxyzabcxyzA?0 -_." : Str).cps.toList) r100 (by rw [signs39]; omega)
        refine ⟨_, r10, c, rfl, rfl, by decide +kernel, hc, _, o10 _ _ nDp hL, ?_, ?_⟩
        · rw [List.length_map, yl]
          exact sz_lt (by omega)
        · refine ⟨(o8.trans o10).mut (o07.free hD nDp), p10.off nDp, ys ++ [⟨#[c]⟩], ?_, ?_, ?_⟩
          · rw [List.length_append, yl]
            rfl
          · intro y hy
            rcases List.mem_append.mp hy with hy | hy
            · exact y1 y hy
            · rw [List.mem_singleton.mp hy]
              exact ⟨rfl, .one (signsOk c hcm)⟩
          · rw [upd_same, List.map_append]
            rfl
      · rintro H8 ⟨o8, p8, ys, yl, y1, hL⟩
        have e := sum_ones ys fun y hy => (y1 y hy).1
        have e0 : (("" : Str)).length = 0 := by decide
        refine ⟨_, D, ys, rfl, rfl, .inl (SqL.of hL), ?_, ?_⟩
        · rw [e, e0]
          omega
        · refine q _ H8 ?_ (OkS.join (.dec (by decide +kernel)) fun y hy => (y1 y hy).2) o8 p8
          show (Builtin.Str.glued _ ys).length ≤ 100
          rw [size_glued, e, e0]
          omega
def sp_l_is_name (K : PySem.W.Frag) : Sp := fun vs H Q _ => ∃ z : Str, vs = [.str z] ∧ z.length ≤ 100 ∧ OkS z ∧ ∀ H', Same H H' → Q (.bl (isName z)) H'
theorem shaped_strs {ss : List Str} (h : ∀ s ∈ ss, OkS s) : SeqAt.shaped (.list (ss.map PyData.str)) = true := by
  have e1 : PyData.canLay0 (.list (ss.map PyData.str)) = true := by
    show PyData.canLayAll0 (ss.map .str) = true
    rw [canLayAll_strs', List.all_eq_true]
    exact fun s hs => (h s hs).strOk
  have e2 : ∀ l : List Str, PyData.depthAll (l.map PyData.str) = 0 := fun l => by
    induction l with
    | nil => rfl
    | cons a r ih =>
      show max 0 (PyData.depthAll (r.map PyData.str)) = 0
      rw [ih]
      rfl
  unfold SeqAt.shaped
  rw [e1]
  show decide (PyData.depthAll (ss.map PyData.str) + 1 ≤ 64) = true
  rw [e2]
  rfl
theorem dp_strs {H : Hp} : ∀ ss : List Str, DpAll K H (ss.map V.str) (ss.map PyData.str)
  | [] => .nil
  | s :: r => .cons (.str s) (dp_strs r)
theorem ok_l_is_name (T : Env K mg) : FnOk P w K mg base CX0 1 T.a_l_is_name T.d_l_is_name ["_law_text_here"] (sp_l_is_name K) := by
  refine T.F_l_is_name.ok sc_l_is_name (fun vs H Q E h => ?_) (fun cdv A outer s H vs Q E hr h => ?_)
  · obtain ⟨x, rfl, _⟩ := h
    rfl
  · obtain ⟨z, rfl, hz, oz, q⟩ := h
    have hz : z.length ≤ sizeLine := sz_le (by omega)
    have qn : ∀ H', Same H H' → Q (.bl (decide (1 ≤ (z.length : Int)) && (decide ((z.length : Int) ≤ 8) && (!inV (.str z) ownW && z.cps.toList.all fun c => decide (c ∈ letterL))))) H' := q
    refine ⟨_, (pss_cons (ps_if (PW.pt (pw_or (pt_cmpR op_in_seq (pv 0) (pe_lst (pa_cons pe_str (pa_cons pe_str (pa_cons pe_str (pa_cons pe_str (pa_cons pe_str (pa_cons pe_str (pa_cons pe_str (pa_cons pe_str pa_nil))))))))) (by rfl)) (pw_or1 (pt_not (pt_chain op_le op_le pe_int (pe_callB call_len_str (by rfl) T.m_len PySem.boot_len (pa_cons (pv 0) pa_nil)) pe_int))))) (pss_one (ps_ret pe_bl)) pss_nil)
      (pss_one (ps_ret (pe_cmpR (op_eqD hr.units) (pe_lc (own := [("_law_sign", 1)]) (g := gName 1)  (by rfl) sc_l_is_name.nd (pi_str (pv 0)) (blkOk_by (own := [("_law_sign", 1)]) (N := ["_law_text_here", "_law_sign"]) (sc := defScope s_l_is_name) (by decide +kernel)) (fun _ _ _ _ _ => (pg_name (i := 1) sc_l_is_name.nd rfl (Or.inl rfl))) (fun _ _ _ _ _ => (pts_one (pt_cmpR op_notIn_sign (pv 1) pe_str (by rfl)))) (fun _ _ _ _ _ => (pv 1))) (pe_lst pa_nil) (nomark _))))), ?_⟩
    refine ⟨_, rfl, (by show 8 ≤ sizeLine; decide), fun l hl => ⟨l, ownW, rfl, .inl (SqL.of upd_same), rfl, rfl, _, rfl, ?_⟩⟩
    have s1 : Same H (upd H l (.lst ownW)) := same_upd hl
    cases c3 : inV (.str z) ownW with
    | true =>
      rw [c3] at qn
      have qn := qn _ s1
      rw [show ((!true) && z.cps.toList.all fun c => decide (c ∈ letterL)) = false from rfl, Bool.and_false, Bool.and_false] at qn
      exact qn
    | false =>
      rw [c3] at qn
      refine ⟨_, rfl, z, rfl, hz, _, _, rfl, rfl, _, rfl, ?_⟩
      by_cases c1 : (1 : Int) ≤ (z.length : Int)
      · rw [decide_eq_true c1] at qn ⊢
        refine ⟨_, _, rfl, rfl, _, rfl, ?_⟩
        by_cases c2 : (z.length : Int) ≤ 8
        · rw [decide_eq_true c2] at qn ⊢
          refine ⟨_, rfl, z, rfl, fun D hD => ?_⟩
          let ok : Nat → Bool := fun c => !decide (c ∈ letterL)
          refine lc_it walk_str (fun j H' => Same H H' ∧ H' D = some (.lst ((((z.cps.toList.take j).filter ok).map fun c => (⟨#[c]⟩ : Str)).map V.str))) ⟨s1.trans (same_upd hD), upd_same⟩ (fun _ _ _ _ => trivial) ?_ ?_
          · rintro j x H1 H2 hj ⟨sm, hL⟩ ⟨rfl, c, hc, rfl⟩
            have g : z.cps.toList[j]? = some c := by
              rw [Array.getElem?_toList]
              exact hc
            refine ⟨rfl, ⟨_, rfl, c, _, rfl, rfl, _, rfl, ite2 (fun cc => ?_) (fun cc => ?_)⟩⟩
            · refine ⟨_, rfl, _, hL, ?_, same_mut sm (s1.free hD), ?_⟩
              · rw [List.length_map, List.length_map]
                refine sz_lt (Nat.lt_of_le_of_lt (List.length_filter_le _ _) ?_)
                rw [List.length_take]
                have e2 : z.cps.size = z.length := rfl
                have e3 : z.cps.toList.length = z.cps.size := by simp
                omega
              · have cc : ok c = true := cc
                rw [upd_same, List.take_add_one, g, List.filter_append]
                simp [cc]
            · have cc : ok c = false := Bool.eq_false_iff.mpr cc
              refine ⟨sm, ?_⟩
              rw [hL, List.take_add_one, g, List.filter_append]
              simp [cc]
          · rintro H' ⟨sm, hL⟩
            have e : z.cps.toList.take z.cps.size = z.cps.toList := List.take_of_length_le (by simp)
            rw [e] at hL
            refine ⟨Nat.zero_le _, fun l2 hl2 => ?_⟩
            have nD : D ≠ l2 := ne_of_none hL hl2
            refine ⟨.list (((z.cps.toList.filter ok).map fun c => (⟨#[c]⟩ : Str)).map PyData.str), .list [], .lst (SqL.of ?_) (dp_strs _), .lst (SqL.of upd_same) .nil, shaped_strs fun s hs => ?_, rfl, ?_⟩
            · rw [upd_ne nD]
              exact hL
            · obtain ⟨c, hc, rfl⟩ := List.mem_map.mp hs
              exact .one (oz c (List.mem_filter.mp hc).1)
            · have e2 : PyData.eqv (.list (((z.cps.toList.filter ok).map fun c => (⟨#[c]⟩ : Str)).map PyData.str)) (.list []) = z.cps.toList.all fun c => decide (c ∈ letterL) := by
                show PyData.eqvAll _ [] = _
                induction z.cps.toList with
                | nil => rfl
                | cons c r ih =>
                  rw [List.filter_cons]
                  by_cases cc : c ∈ letterL
                  · have e : ok c = false := by
                      show (!decide (c ∈ letterL)) = false
                      rw [decide_eq_true cc]
                      rfl
                    rw [e, List.all_cons, decide_eq_true cc]
                    exact ih
                  · have e : ok c = true := by
                      show (!decide (c ∈ letterL)) = true
                      rw [decide_eq_false cc]
                      rfl
                    rw [e, List.all_cons, decide_eq_false cc]
                    rfl
              rw [e2]
              exact qn _ (sm.trans (same_upd hl2))
        · rw [decide_eq_false c2] at qn ⊢
          exact qn _ s1
      · rw [decide_eq_false c1] at qn ⊢
        exact ⟨_, rfl, qn _ s1⟩
end

section
variable {P : Program} {w : World} {K : PySem.W.Frag} {mg : Str → Option Value} {base : Heap}
theorem log_of {n : Int} (h : n.natAbs < 2 ^ 1000) : n.natAbs.log2 < 1920 := Nat.lt_of_lt_of_le (PySem.Flt.log2_lt_of (by decide) h) (by decide)
theorem within_self (n : Int) : withinV (.int n) n n = true := by
  show (decide (n ≤ n) && decide (n ≤ n)) = true
  rw [decide_eq_true (Int.le_refl n)]
  rfl
theorem eqv3 {b c : Bool} (hc : c = true) : PyData.eqv (.list [.bool true, .bool b, .bool c]) (.list [.bool true, .bool b, .bool true]) = true := by
  subst hc
  cases b <;> rfl
def sp_l_numbers_right : Sp := fun vs H Q _ => ∃ p, vs = [.ref p] ∧ Pu H p ∧ ∀ H', Off p H H' → Pu H' p → Q (.bl true) H'
theorem ok_l_numbers_right (T : Env K mg) : FnOk P w K mg base CX0 3 T.a_l_numbers_right T.d_l_numbers_right ["_law_purse_here"] sp_l_numbers_right := by
  have G_l_take : FnOk P w K mg base CX0 2 T.a_l_take T.d_l_take ["_law_purse_here", "_law_many"] (sp_l_take K) := (ok_l_take T).mono (by decide)
  have G_is_whole : FnOk P w K mg base CX0 2 T.a_is_whole T.d_is_whole ["thing"] (sp_is_whole K) := (ok_is_whole T).mono (by decide)
  have G_is_within : FnOk P w K mg base CX0 2 T.a_is_within T.d_is_within ["thing", "low", "high"] (sp_is_within K) := (ok_is_within T).mono (by decide)
  have G_is_name : FnOk P w K mg base CX0 2 T.a_is_name T.d_is_name ["thing"] (sp_is_name K) := (ok_is_name T).mono (by decide)
  refine T.F_l_numbers_right.ok sc_l_numbers_right (fun vs H Q E h => ?_) (fun cdv A outer s H vs Q E hr h => ?_)
  · obtain ⟨p, rfl, _⟩ := h
    rfl
  · obtain ⟨p, rfl, hp, q⟩ := h
    have hr_l_take := hr
    have hr_is_whole := hr
    have hr_is_within := hr
    have hr_is_name := hr
    refine ⟨_, (pss_cons (ps_set (i := 1) sc_l_numbers_right.nd rfl (Or.inl rfl) (pe_op op_mul (pe_call G_l_take hr_l_take (by rfl) T.g_l_take T.F_l_take.kp T.b_l_take .nil pass0 (pa_cons (pv 0) (pa_cons (pe_ix ix_list (pe_lst (pa_cons pe_int (pa_cons (pe_op op_pow pe_int pe_int) (pa_cons (pe_op op_pow pe_int pe_int) pa_nil)))) (pe_call G_l_take hr_l_take (by rfl) T.g_l_take T.F_l_take.kp T.b_l_take .nil pass0 (pa_cons (pv 0) (pa_cons pe_int pa_nil))) (fun _ _ => rfl)) pa_nil))) (pe_ix ix_list (pe_lst (pa_cons pe_int (pa_cons (pe_un un_neg pe_int) pa_nil))) (pe_call G_l_take hr_l_take (by rfl) T.g_l_take T.F_l_take.kp T.b_l_take .nil pass0 (pa_cons (pv 0) (pa_cons pe_int pa_nil))) (fun _ _ => rfl))))
      (pss_cons (ps_set (i := 2) sc_l_numbers_right.nd rfl (Or.inl rfl) (pe_op op_sub (pe_op op_add (pv 1) (pe_call G_l_take hr_l_take (by rfl) T.g_l_take T.F_l_take.kp T.b_l_take .nil pass0 (pa_cons (pv 0) (pa_cons pe_int pa_nil)))) pe_int))
      (pss_cons (ps_set (i := 3) sc_l_numbers_right.nd rfl (Or.inl rfl) (pe_op op_sub (pe_op op_add (pv 1) (pe_call G_l_take hr_l_take (by rfl) T.g_l_take T.F_l_take.kp T.b_l_take .nil pass0 (pa_cons (pv 0) (pa_cons pe_int pa_nil)))) pe_int))
      (pss_cons (ps_set (i := 4) sc_l_numbers_right.nd rfl (Or.inl rfl) (pe_lst (pa_cons (pe_call G_is_whole hr_is_whole (by rfl) T.g_is_whole T.F_is_whole.kp T.b_is_whole .nil pass0 (pa_cons (pv 1) pa_nil)) (pa_cons (pe_call G_is_within hr_is_within (by rfl) T.g_is_within T.F_is_within.kp T.b_is_within .nil pass0 (pa_cons (pv 1) (pa_cons (pv 2) (pa_cons (pv 3) pa_nil)))) (pa_cons (pe_call G_is_within hr_is_within (by rfl) T.g_is_within T.F_is_within.kp T.b_is_within .nil pass0 (pa_cons (pv 1) (pa_cons (pv 1) (pa_cons (pv 1) pa_nil)))) pa_nil)))))
      (pss_cons (ps_if (PW.pt (pw_or (pt_cmpR (op_neD hr.units) (pv 4) (pe_lst (pa_cons pe_bl (pa_cons (pe_chain op_le op_le (pv 2) (pv 1) (pv 3)) (pa_cons pe_bl pa_nil)))) (nomark _)) (pw_or1 (pt_not (pt_val (pe_callB call_isi (by rfl) T.m_isinstance PyProof.Rows.boot_isinstance (pa_cons (pe_ix ix_list (pv 4) pe_int (fun _ _ => rfl)) (pa_cons (pe_bltn (v := .ty "bool") (by rfl) T.m_bool PyProof.Rows.boot_bool rfl) pa_nil)))))))) (pss_one (ps_ret pe_bl)) pss_nil)
      (pss_one (ps_ret (pe_and (pe_cmpR op_isBl (pe_call G_is_name hr_is_name (by rfl) T.g_is_name T.F_is_name.kp T.b_is_name .nil pass0 (pa_cons (pv 1) pa_nil)) pe_bl (nomark _)) (pe_and (pe_cmpR op_isBl (pe_call G_is_whole hr_is_whole (by rfl) T.g_is_whole T.F_is_whole.kp T.b_is_whole .nil pass0 (pa_cons (pe_callTy call_str_int (by rfl) T.m_str PyProof.Rows.boot_str (pa_cons (pv 1) pa_nil)) pa_nil)) pe_bl (nomark _)) (pe_one (pe_cmpR op_isBl (pe_call G_is_within hr_is_within (by rfl) T.g_is_within T.F_is_within.kp T.b_is_within .nil pass0 (pa_cons (pe_callTy call_str_int (by rfl) T.m_str PyProof.Rows.boot_str (pa_cons (pv 1) pa_nil)) (pa_cons (pv 2) (pa_cons (pv 3) pa_nil)))) pe_bl (nomark _)))))))))))), ?_⟩
    refine ⟨_, rfl, _, _, rfl, rfl, ⟨by decide, by decide, by decide⟩, _, _, rfl, rfl, ⟨by decide, by decide, by decide⟩, (by show 3 ≤ sizeLine; decide), fun l1 hl1 => ?_⟩
    refine ⟨_, rfl, p, 3, rfl, hp.new hl1, by decide, lt9000 (by decide), fun r1 H1 r10 r11 o1 p1 => ?_⟩
    obtain ⟨y, l1', hy, hm⟩ := lst_at (o1 l1 _ (hp.nne hl1) upd_same) r10 r11
    have hy2 : ∃ m : Int, y = .int m ∧ 0 < m ∧ m ≤ 10 ^ 29 := by
      simp only [List.mem_cons, List.not_mem_nil, or_false] at hm
      rcases hm with rfl | rfl | rfl <;> exact ⟨_, rfl, by decide, by decide⟩
    obtain ⟨m, rfl, m0, m1⟩ := hy2
    refine ⟨l1, _, r1, _, rfl, rfl, SqL.of l1', hy, p, m, rfl, p1, m0, lt9000 (by omega), fun r2 H2 r20 r21 o2 p2 => ?_⟩
    refine ⟨1, rfl, (by show 2 ≤ sizeLine; decide), fun l3 hl3 => ?_⟩
    refine ⟨_, rfl, p, 2, rfl, p2.new hl3, by decide, lt9000 (by decide), fun r3 H3 r30 r31 o3 p3 => ?_⟩
    obtain ⟨y, l3', hy, hm⟩ := lst_at (o3 l3 _ (p2.nne hl3) upd_same) r30 r31
    have hy2 : ∃ k : Int, y = .int k ∧ (k = 1 ∨ k = -1) := by
      simp only [List.mem_cons, List.not_mem_nil, or_false] at hm
      rcases hm with rfl | rfl
      · exact ⟨_, rfl, .inl rfl⟩
      · exact ⟨_, rfl, .inr rfl⟩
    obtain ⟨k, rfl, hk⟩ := hy2
    refine ⟨l3, _, r3, _, rfl, rfl, SqL.of l3', hy, r2, k, rfl, rfl, .inr (by rcases hk with rfl | rfl <;> exact ⟨by decide, by decide⟩), ?_⟩
    have hn : (r2 * k).natAbs < 2 ^ 1000 := by
      have h1 : (r2 * k).natAbs ≤ 10 ^ 29 := by
        rcases hk with rfl | rfl
        · omega
        · omega
      exact Nat.lt_of_le_of_lt h1 (by decide)
    -- the bounds
    refine ⟨_, rfl, _, rfl, p, 5, rfl, p3, by decide, lt9000 (by decide), fun r4 H4 _ _ o4 p4 => ⟨_, _, rfl, rfl, _, _, rfl, rfl, ?_⟩⟩
    refine ⟨_, rfl, _, rfl, p, 5, rfl, p4, by decide, lt9000 (by decide), fun r5 H5 _ _ o5 p5 => ⟨_, _, rfl, rfl, _, _, rfl, rfl, ?_⟩⟩
    have o05 : Off p H H5 := ((((Off.refl p H).new hl1).trans (o1.trans o2)).new hl3).trans (o3.trans (o4.trans o5))
    -- found
    refine ⟨_, rfl, _, .int, rfl, kn_int _, _, rfl, _, rfl, _, rfl, _, .int, _, _, rfl, kn_int _, _, rfl, _, rfl, _, rfl, _, .int, _, _, rfl, kn_int _, (by show 3 ≤ sizeLine; decide), fun l6 hl6 => ?_⟩
    refine ⟨_, rfl, _, rfl, _, rfl, _, _, rfl, rfl, chain_var rfl ?_⟩
    refine ⟨(by show 3 ≤ sizeLine; decide), fun l7 hl7 => ?_⟩
    have n67 : l6 ≠ l7 := ne_of_none upd_same hl7
    have h67 := (upd_ne (H := upd H5 l6 _) (o := HO.lst [V.bl true, V.bl (decide (r2 * k + r4 - 2 ≤ r2 * k) && decide (r2 * k ≤ r2 * k + r5 - 2)), V.bl true]) n67).trans (upd_same (H := H5) (o := HO.lst [V.bl true, V.bl (withinV (.int (r2 * k)) (r2 * k + r4 - 2) (r2 * k + r5 - 2)), V.bl (withinV (.int (r2 * k)) (r2 * k) (r2 * k))]))
    refine ⟨_, _, .lst (SqL.of h67) (.cons (.bl _) (.cons (.bl _) (.cons (.bl _) .nil))), .lst (SqL.of upd_same) (.cons (.bl _) (.cons (.bl _) (.cons (.bl _) .nil))), rfl, rfl, false, congrArg V.bl (congrArg Bool.not (eqv3 (within_self _))), ?_⟩
    refine ⟨_, rfl, l6, _, 1, _, rfl, rfl, SqL.of h67, atI_nat (j := 1) rfl, _, .ty "bool", _, _, _, rfl, .ty _, kn_bl _, kit_bl .bl, _, rfl, ?_⟩
    -- the last test
    refine ⟨_, rfl, _, .int, rfl, kn_int _, (fun z e => by cases e), fun H8 s8 => ⟨_, _, rfl, rfl, _, rfl, ?_⟩⟩
    refine ⟨_, rfl, _, rfl, log_of hn, _, .str, rfl, kn_str _, _, _, rfl, rfl, _, rfl, ?_⟩
    refine ⟨_, rfl, _, rfl, log_of hn, _, rfl, _, rfl, _, .str, _, _, rfl, kn_str _, _, _, rfl, rfl, ?_⟩
    exact q H8 (((o05.new hl6).new hl7).trans (Off.of s8)) (((p5.new hl6).new hl7).same s8)
def sp_law (K : PySem.W.Frag) : Sp := fun vs H Q _ => ∃ (a : Addr) (ns : List Int), vs = [.ref a] ∧ SqL K H a (ns.map V.int) ∧ ns.length ≤ 63 ∧ ∀ H', Q (.bl true) H'
theorem cutV_mem {xs : List V} {lo hi : Option Int} {x : V} (h : x ∈ cutV xs lo hi) : x ∈ xs := List.mem_of_mem_drop (List.mem_of_mem_take h)
theorem ok_law (T : Env K mg) : FnOk P w K mg base CX0 4 T.a_law T.d_law ["_law_script"] (sp_law K) := by
  have G_l_cell : FnOk P w K mg base CX0 3 T.a_l_cell T.d_l_cell ["_law_script", "_law_k"] (sp_l_cell K) := (ok_l_cell T).mono (by decide)
  have G_l_purse : FnOk P w K mg base CX0 3 T.a_l_purse T.d_l_purse ["_law_cell_here"] (sp_l_purse K) := (ok_l_purse T).mono (by decide)
  have G_l_take : FnOk P w K mg base CX0 3 T.a_l_take T.d_l_take ["_law_purse_here", "_law_many"] (sp_l_take K) := (ok_l_take T).mono (by decide)
  have G_l_text : FnOk P w K mg base CX0 3 T.a_l_text T.d_l_text ["_law_purse_here"] (sp_l_text K) := (ok_l_text T).mono (by decide)
  have G_is_whole : FnOk P w K mg base CX0 3 T.a_is_whole T.d_is_whole ["thing"] (sp_is_whole K) := (ok_is_whole T).mono (by decide)
  have G_is_within : FnOk P w K mg base CX0 3 T.a_is_within T.d_is_within ["thing", "low", "high"] (sp_is_within K) := (ok_is_within T).mono (by decide)
  have G_is_name : FnOk P w K mg base CX0 3 T.a_is_name T.d_is_name ["thing"] (sp_is_name K) := (ok_is_name T).mono (by decide)
  have G_l_is_name : FnOk P w K mg base CX0 3 T.a_l_is_name T.d_l_is_name ["_law_text_here"] (sp_l_is_name K) := (ok_l_is_name T).mono (by decide)
  have G_l_numbers_right : FnOk P w K mg base CX0 3 T.a_l_numbers_right T.d_l_numbers_right ["_law_purse_here"] sp_l_numbers_right := ok_l_numbers_right T
  have G_own_words : FnOk P w K mg base CX0 3 T.a_own_words T.d_own_words [] sp_own_words := (ok_own_words T).mono (by decide)
  refine T.F_law.ok sc_law (fun vs H Q E h => ?_) (fun cdv A outer s H vs Q E hr h => ?_)
  · obtain ⟨a, ns, rfl, _⟩ := h
    rfl
  · obtain ⟨a, ns, rfl, hS, hlen, q⟩ := h
    have hr_l_take := hr
    have hr_l_cell := hr
    have hr_l_purse := hr
    have hr_l_text := hr
    have hr_is_whole := hr
    have hr_is_within := hr
    have hr_is_name := hr
    have hr_l_is_name := hr
    have hr_l_numbers_right := hr
    have hr_own_words := hr
    refine ⟨_, (pss_cons (ps_for PassesOwn.never (by rfl) (pi_list (pe_op op_cat (pe_slice sl_list (pv 0) po_none (po_some pe_int)) (pe_lst (pa_cons (pe_call G_l_cell hr_l_cell (by rfl) T.g_l_cell T.F_l_cell.kp T.b_l_cell .nil pass0 (pa_cons (pv 0) (pa_cons pe_int pa_nil))) pa_nil)))) (pg_name (i := 1) sc_law.nd rfl (Or.inl rfl)) (pss_cons (ps_set (i := 2) sc_law.nd rfl (Or.inl rfl) (pe_call G_l_purse hr_l_purse (by rfl) T.g_l_purse T.F_l_purse.kp T.b_l_purse .nil pass0 (pa_cons (pv 1) pa_nil)))
      (pss_cons (ps_set (i := 3) sc_law.nd rfl (Or.inl rfl) (pe_call G_l_text hr_l_text (by rfl) T.g_l_text T.F_l_text.kp T.b_l_text .nil pass0 (pa_cons (pv 2) pa_nil)))
      (pss_cons (ps_set (i := 4) sc_law.nd rfl (Or.inl rfl) (pe_call G_is_name hr_is_name (by rfl) T.g_is_name T.F_is_name.kp T.b_is_name .nil pass0 (pa_cons (pv 3) pa_nil)))
      (pss_cons (ps_if (PW.pt (pw_or (pt_not (pt_val (pe_callB call_isi (by rfl) T.m_isinstance PyProof.Rows.boot_isinstance (pa_cons (pv 4) (pa_cons (pe_bltn (v := .ty "bool") (by rfl) T.m_bool PyProof.Rows.boot_bool rfl) pa_nil))))) (pw_or (pt_cmpR op_ne (pv 4) (pe_call G_l_is_name hr_l_is_name (by rfl) T.g_l_is_name T.F_l_is_name.kp T.b_l_is_name .nil pass0 (pa_cons (pv 3) pa_nil)) (nomark _)) (pw_or1 (pt_not (pt_val (pe_call G_l_numbers_right hr_l_numbers_right (by rfl) T.g_l_numbers_right T.F_l_numbers_right.kp T.b_l_numbers_right .nil pass0 (pa_cons (pv 2) pa_nil)))))))) (pss_one (ps_ret pe_bl)) pss_nil)
      (pss_cons (ps_set (i := 5) sc_law.nd rfl (Or.inl rfl) (pe_lst (pa_cons pe_bl (pa_cons pe_bl (pa_cons pe_non (pa_cons (pe_lst pa_nil) (pa_cons (pe_tup (pa_cons pe_int pa_nil)) (pa_cons pe_dnewK (pa_cons (pe_lst (pa_cons (pv 3) pa_nil)) (pa_cons (pe_tup (pa_cons (pv 3) pa_nil)) (pa_cons (pe_lst (pa_cons pe_str pa_nil)) (pa_cons (pe_tup (pa_cons pe_str (pa_cons pe_str pa_nil))) pa_nil))))))))))))
      (pss_cons (ps_set (i := 6) sc_law.nd rfl (Or.inl rfl) (pe_ix ix_list (pv 5) (pe_call G_l_take hr_l_take (by rfl) T.g_l_take T.F_l_take.kp T.b_l_take .nil pass0 (pa_cons (pv 2) (pa_cons pe_int pa_nil))) (fun _ _ => rfl)))
      (pss_cons (ps_if (PW.pt (pw_or (pt_cmpR op_notBl (pe_call G_is_whole hr_is_whole (by rfl) T.g_is_whole T.F_is_whole.kp T.b_is_whole .nil pass0 (pa_cons (pv 6) pa_nil)) pe_bl (nomark _)) (pw_or (pt_cmpR op_notBl (pe_call G_is_name hr_is_name (by rfl) T.g_is_name T.F_is_name.kp T.b_is_name .nil pass0 (pa_cons (pv 6) pa_nil)) pe_bl (nomark _)) (pw_or1 (pt_cmpR op_notBl (pe_call G_is_within hr_is_within (by rfl) T.g_is_within T.F_is_within.kp T.b_is_within .nil pass0 (pa_cons (pv 6) (pa_cons (pe_un un_neg pe_int) (pa_cons pe_int pa_nil)))) pe_bl (nomark _)))))) (pss_one (ps_ret pe_bl)) pss_nil)
      (pss_cons (ps_set (i := 7) sc_law.nd rfl (Or.inl rfl) (pe_call0 G_own_words hr_own_words (by rfl) T.g_own_words T.F_own_words.kp T.b_own_words .nil pass0))
      (pss_cons (ps_if (pt_cmpR (op_neD hr.units) (pv 7) (pe_lst (pa_cons pe_str (pa_cons pe_str (pa_cons pe_str (pa_cons pe_str (pa_cons pe_str (pa_cons pe_str (pa_cons pe_str (pa_cons pe_str pa_nil))))))))) (nomark _)) (pss_one (ps_ret pe_bl)) pss_nil)
      (pss_cons (ps_expr (pe_bm PySem.F.plainAttrs_list PySem.F.slot_list_append PySem.F.type_list_append mt_append (pv 7) (pa_cons pe_str pa_nil)))
      (pss_one (ps_expr (pe_bm0 PySem.F.plainAttrs_list PySem.F.slot_list_reverse PySem.F.type_list_reverse mt_reverse (pv 7)))))))))))))))
      (pss_one (ps_ret pe_bl))), ?_⟩
    refine ⟨_, rfl, 20, rfl, a, _, rfl, hS, fun p1 hp1 => ?_⟩
    refine ⟨_, rfl, a, ns, 20, rfl, (same_upd hp1).seq hS, by decide, fun c => ⟨(by show 1 ≤ sizeLine; decide), fun p2 hp2 => ?_⟩⟩
    have n12 : p1 ≠ p2 := ne_of_none upd_same hp2
    refine ⟨p1, p2, _, _, rfl, rfl, (upd_ne n12).trans upd_same, upd_same, ?_, fun p3 hp3 => ?_⟩
    · have e := cutV_length (ns.map V.int) none (some 20)
      rw [List.length_map] at e
      refine sz_le ?_
      rw [List.length_singleton]
      omega
    obtain ⟨xs, ex⟩ : ∃ xs, xs = cutV (ns.map V.int) none (some 20) ++ [V.int c] := ⟨_, rfl⟩
    rw [← ex]
    have hx : ∀ x ∈ xs, ∃ i : Int, x = .int i := fun x hx => by
      rw [ex] at hx
      rcases List.mem_append.mp hx with h | h
      · obtain ⟨n, _, rfl⟩ := List.mem_map.mp (cutV_mem h)
        exact ⟨n, rfl⟩
      · exact ⟨c, List.mem_singleton.mp h⟩
    have h3 : (upd (upd (upd H p1 (HO.lst (cutV (ns.map V.int) none (some 20)))) p2 (HO.lst [V.int c])) p3 (HO.lst xs)) p3 = some (.lst xs) := upd_same
    refine ⟨p3, rfl, ⟨_, SqL.of h3⟩, ?_⟩
    generalize (upd (upd (upd H p1 (HO.lst (cutV (ns.map V.int) none (some 20)))) p2 (HO.lst [V.int c])) p3 (HO.lst xs)) = H0 at h3 ⊢
    refine for_list (K := K) (a := p3) (xs := xs) (fun i σ H' => ∃ v1 v2 v3 v4 v5 v6 v7, σ = [some (.ref a), v1, v2, v3, v4, v5, v6, v7] ∧ Same H0 H') ⟨none, none, none, none, none, none, none, rfl, Same.refl H0⟩ (fun i σ H' _ ⟨_, _, _, _, _, _, _, _, sm⟩ => sm.seq (SqL.of h3)) ?_ (fun σ H' ⟨_, _, _, _, _, _, _, e, _⟩ => ?_)
    · rintro i x σ H1 hi ⟨v1, v2, v3, v4, v5, v6, v7, rfl, s1⟩
      obtain ⟨c, rfl⟩ := hx x (List.mem_of_getElem? hi)
      -- purse, text, found
      refine ⟨_, rfl, c, rfl, fun p H2 np s2 p2 => ?_⟩
      refine ⟨_, rfl, p, rfl, p2, fun z H3 hz oz o3 p3 => ?_⟩
      refine ⟨_, rfl, .str z, .str, rfl, kn_str z, (fun _ e => by cases e; exact sz_le (by omega)), fun H4 s4 => ?_⟩
      have s04 : Same H0 H4 := (Off.same (s1.trans s2) (s1.free np) o3).trans s4
      have p4 : Pu H4 p := p3.same s4
      -- the first test
      refine ⟨_, rfl, _, .ty "bool", _, _, _, rfl, .ty _, kn_bl _, kit_bl .bl, _, rfl, ?_⟩
      refine ⟨_, rfl, _, rfl, z, rfl, hz, oz, fun H5 s5 => ⟨rfl, false, congrArg V.bl (congrArg Bool.not (decide_eq_true rfl)), ?_⟩⟩
      refine ⟨_, rfl, p, rfl, p4.same s5, fun H6 o6 p6 => ⟨_, rfl, ?_⟩⟩
      have s06 : Same H0 H6 := Off.same (s04.trans s5) (s1.free np) o6
      -- some things
      refine ⟨Nat.zero_le _, fun l1 hl1 => ⟨(by show 1 ≤ sizeLine; decide), fun t1 ht1 => fun d1 hd1 => ⟨_, rfl, (by show 1 ≤ sizeLine; decide), fun l2 hl2 => ⟨_, rfl, (by show 1 ≤ sizeLine; decide), fun t2 ht2 => ⟨(by show 1 ≤ sizeLine; decide), fun l3 hl3 => ⟨(by show 2 ≤ sizeLine; decide), fun t3 ht3 => ⟨(by show 10 ≤ sizeLine; decide), fun L hL => ?_⟩⟩⟩⟩⟩⟩⟩
      have e1 : Same H6 _ := same_upd (o := .lst []) hl1
      have e2 : Same _ _ := same_upd (o := .tup [.int 1]) ht1
      have e3 : Same _ _ := same_upd (o := .dK []) hd1
      have e4 : Same _ _ := same_upd (o := .lst [.str z]) hl2
      have e5 : Same _ _ := same_upd (o := .tup [.str z]) ht2
      have e6 : Same _ _ := same_upd (o := .lst [.str "a"]) hl3
      have e7 : Same _ _ := same_upd (o := .tup [.str "a", .str "b"]) ht3
      have e8 : Same _ _ := same_upd (o := .lst [.bl true, .bl false, .non, .ref l1, .ref t1, .ref d1, .ref l2, .ref t2, .ref l3, .ref t3]) hL
      have q1 := p6.same e1
      have q2 := q1.same e2
      have q3 := q2.same e3
      have q4 := q3.same e4
      have q5 := q4.same e5
      have q6 := q5.same e6
      have q7 := q6.same e7
      have q8 := q7.same e8
      have e58 := e6.trans (e7.trans e8)
      have e38 := e4.trans (e5.trans e58)
      have s08 := s06.trans (e1.trans (e2.trans (e3.trans e38)))
      refine ⟨_, rfl, _, rfl, p, 10, rfl, q8, by decide, lt9000 (by decide), fun r H9 r0 r1 o9 p9 => ?_⟩
      obtain ⟨y, hL9, hy, hm⟩ := lst_at (o9 L _ (q7.nne hL) upd_same) r0 r1
      refine ⟨L, _, r, y, rfl, rfl, SqL.of hL9, hy, ?_⟩
      have hk : ∃ k, Knd K H9 y k ∧ k.isWhole = false ∧ nameV y = false ∧ (∀ lo hi, withinV y lo hi = false) ∧ ∀ z, y ≠ .str z := by
        simp only [List.mem_cons, List.not_mem_nil, or_false] at hm
        rcases hm with rfl | rfl | rfl | rfl | rfl | rfl | rfl | rfl | rfl | rfl
        · exact ⟨.bl, kn_bl _, rfl, rfl, fun _ _ => rfl, fun _ e => by cases e⟩
        · exact ⟨.bl, kn_bl _, rfl, rfl, fun _ _ => rfl, fun _ e => by cases e⟩
        · exact ⟨.non, kn_non, rfl, rfl, fun _ _ => rfl, fun _ e => by cases e⟩
        · exact ⟨.lst, kn_lst (o9 _ _ (p6.nne hl1) (e38 _ _ (e3 _ _ (e2 _ _ upd_same)))), rfl, rfl, fun _ _ => rfl, fun _ e => by cases e⟩
        · exact ⟨.tup, kn_tup (o9 _ _ (q1.nne ht1) (e38 _ _ (e3 _ _ upd_same))), rfl, rfl, fun _ _ => rfl, fun _ e => by cases e⟩
        · exact ⟨.dct, kn_dct (o9 _ _ (q2.nne hd1) (e38 _ _ upd_same)), rfl, rfl, fun _ _ => rfl, fun _ e => by cases e⟩
        · exact ⟨.lst, kn_lst (o9 _ _ (q3.nne hl2) (e58 _ _ (e5 _ _ upd_same))), rfl, rfl, fun _ _ => rfl, fun _ e => by cases e⟩
        · exact ⟨.tup, kn_tup (o9 _ _ (q4.nne ht2) (e58 _ _ upd_same)), rfl, rfl, fun _ _ => rfl, fun _ e => by cases e⟩
        · exact ⟨.lst, kn_lst (o9 _ _ (q5.nne hl3) (e8 _ _ (e7 _ _ upd_same))), rfl, rfl, fun _ _ => rfl, fun _ e => by cases e⟩
        · exact ⟨.tup, kn_tup (o9 _ _ (q6.nne ht3) (e8 _ _ upd_same)), rfl, rfl, fun _ _ => rfl, fun _ e => by cases e⟩
      obtain ⟨k, hk, k1, k2, k3, k4⟩ := hk
      have s09 : Same H0 H9 := Off.same s08 (s1.free np) o9
      refine ⟨_, rfl, y, k, rfl, hk, _, _, rfl, rfl, false, congrArg V.bl (congrArg Bool.not (decide_eq_true k1)), ?_⟩
      refine ⟨_, rfl, y, k, rfl, hk, (fun z e => absurd e (k4 z)), fun H10 s10 => ⟨_, _, rfl, rfl, false, congrArg V.bl (congrArg Bool.not (decide_eq_true k2)), ?_⟩⟩
      have hk2 : Knd K H10 y k := hk.same s10
      refine ⟨_, rfl, 2, rfl, y, k, -2, 2, rfl, hk2, _, _, rfl, rfl, false, congrArg V.bl (congrArg Bool.not (decide_eq_true (k3 _ _))), ?_⟩
      -- the own words
      refine ⟨rfl, fun l4 hl4 => ?_⟩
      refine ⟨_, rfl, (by show 8 ≤ sizeLine; decide), fun l5 hl5 => ?_⟩
      have n45 : l4 ≠ l5 := ne_of_none upd_same hl5
      have h4 := (upd_ne (H := upd H10 l4 (.lst ownW)) (o := .lst ownW) n45).trans upd_same
      refine ⟨_, _, .lst (SqL.of h4) (dp_strs (K := K) ["rel", "same", "unlike", "one", "both", "fresh", "call", "not"]), .lst (SqL.of upd_same) (dp_strs (K := K) ["rel", "same", "unlike", "one", "both", "fresh", "call", "not"]), by decide +kernel, by decide +kernel, false, congrArg V.bl (by decide +kernel), ?_⟩
      refine ⟨_, rfl, .inl ⟨rfl, _, SqL.of h4⟩, l4, _, _, rfl, rfl, h4, (by show 8 < sizeLine; decide), ?_⟩
      refine ⟨_, rfl, .inl ⟨rfl, _, SqL.of upd_same⟩, l4, _, rfl, rfl, upd_same, ?_⟩
      refine ⟨_, _, _, _, _, _, _, rfl, ?_⟩
      have n4 : H0 l4 = none := (s09.trans s10).free hl4
      exact same_mut (same_mut ((s09.trans s10).trans ((same_upd hl4).trans (same_upd hl5))) n4) n4
    · exact q H'
end

theorem all_mk {l : PySem.W.OpenLaw} {w : World} {K : PySem.W.Frag} {h : Heap} {mg : Str → Option Value} {fa f_is_whole f_is_within f_own_words f_is_name f_l_cell f_l_purse f_l_take f_l_text f_l_is_name f_l_numbers_right f_law : Addr} (X : K.In h) (G : h.Ns mainGlobals mg) (hfa : mg "law" = some (.ref fa))
    {oc_is_whole kV_is_whole dc_is_whole pm_is_whole cd_is_whole ct_is_whole : Value} {od_is_whole an_is_whole : Option Addr} {sl_is_whole : Array (Option Value)}
    {oc_is_within kV_is_within dc_is_within pm_is_within cd_is_within ct_is_within : Value} {od_is_within an_is_within : Option Addr} {sl_is_within : Array (Option Value)}
    {oc_own_words kV_own_words dc_own_words pm_own_words cd_own_words ct_own_words : Value} {od_own_words an_own_words : Option Addr} {sl_own_words : Array (Option Value)}
    {oc_is_name kV_is_name dc_is_name pm_is_name cd_is_name ct_is_name : Value} {od_is_name an_is_name : Option Addr} {sl_is_name : Array (Option Value)}
    {oc_l_cell kV_l_cell dc_l_cell pm_l_cell cd_l_cell ct_l_cell : Value} {od_l_cell an_l_cell : Option Addr} {sl_l_cell : Array (Option Value)}
    {oc_l_purse kV_l_purse dc_l_purse pm_l_purse cd_l_purse ct_l_purse : Value} {od_l_purse an_l_purse : Option Addr} {sl_l_purse : Array (Option Value)}
    {oc_l_take kV_l_take dc_l_take pm_l_take cd_l_take ct_l_take : Value} {od_l_take an_l_take : Option Addr} {sl_l_take : Array (Option Value)}
    {oc_l_text kV_l_text dc_l_text pm_l_text cd_l_text ct_l_text : Value} {od_l_text an_l_text : Option Addr} {sl_l_text : Array (Option Value)}
    {oc_l_is_name kV_l_is_name dc_l_is_name pm_l_is_name cd_l_is_name ct_l_is_name : Value} {od_l_is_name an_l_is_name : Option Addr} {sl_l_is_name : Array (Option Value)}
    {oc_l_numbers_right kV_l_numbers_right dc_l_numbers_right pm_l_numbers_right cd_l_numbers_right ct_l_numbers_right : Value} {od_l_numbers_right an_l_numbers_right : Option Addr} {sl_l_numbers_right : Array (Option Value)}
    {oc_law kV_law dc_law pm_law cd_law ct_law : Value} {od_law an_law : Option Addr} {sl_law : Array (Option Value)}
    (a_is_whole : PySem.W.nsIn K mainGlobals "is_whole" = some (some (.ref f_is_whole)))
    (l_is_whole : K.lookup f_is_whole = some ⟨oc_is_whole, od_is_whole, .func (PySem.W.fnOf "is_whole" "is_whole" (defArgs s_is_whole) (defBody s_is_whole) (defScope s_is_whole) .none kV_is_whole dc_is_whole pm_is_whole an_is_whole cd_is_whole ct_is_whole), sl_is_whole⟩)
    (c_is_whole : PySem.W.codeIn K cd_is_whole "is_whole" = true)
    (k_is_whole : PySem.W.keepIn K (.ref f_is_whole) = true)
    (a_is_within : PySem.W.nsIn K mainGlobals "is_within" = some (some (.ref f_is_within)))
    (l_is_within : K.lookup f_is_within = some ⟨oc_is_within, od_is_within, .func (PySem.W.fnOf "is_within" "is_within" (defArgs s_is_within) (defBody s_is_within) (defScope s_is_within) .none kV_is_within dc_is_within pm_is_within an_is_within cd_is_within ct_is_within), sl_is_within⟩)
    (c_is_within : PySem.W.codeIn K cd_is_within "is_within" = true)
    (k_is_within : PySem.W.keepIn K (.ref f_is_within) = true)
    (a_own_words : PySem.W.nsIn K mainGlobals "own_words" = some (some (.ref f_own_words)))
    (l_own_words : K.lookup f_own_words = some ⟨oc_own_words, od_own_words, .func (PySem.W.fnOf "own_words" "own_words" (defArgs s_own_words) (defBody s_own_words) (defScope s_own_words) .none kV_own_words dc_own_words pm_own_words an_own_words cd_own_words ct_own_words), sl_own_words⟩)
    (c_own_words : PySem.W.codeIn K cd_own_words "own_words" = true)
    (k_own_words : PySem.W.keepIn K (.ref f_own_words) = true)
    (a_is_name : PySem.W.nsIn K mainGlobals "is_name" = some (some (.ref f_is_name)))
    (l_is_name : K.lookup f_is_name = some ⟨oc_is_name, od_is_name, .func (PySem.W.fnOf "is_name" "is_name" (defArgs s_is_name) (defBody s_is_name) (defScope s_is_name) .none kV_is_name dc_is_name pm_is_name an_is_name cd_is_name ct_is_name), sl_is_name⟩)
    (c_is_name : PySem.W.codeIn K cd_is_name "is_name" = true)
    (k_is_name : PySem.W.keepIn K (.ref f_is_name) = true)
    (a_l_cell : PySem.W.nsIn K mainGlobals "_law_cell" = some (some (.ref f_l_cell)))
    (l_l_cell : K.lookup f_l_cell = some ⟨oc_l_cell, od_l_cell, .func (PySem.W.fnOf "_law_cell" "_law_cell" (defArgs s_l_cell) (defBody s_l_cell) (defScope s_l_cell) .none kV_l_cell dc_l_cell pm_l_cell an_l_cell cd_l_cell ct_l_cell), sl_l_cell⟩)
    (c_l_cell : PySem.W.codeIn K cd_l_cell "_law_cell" = true)
    (k_l_cell : PySem.W.keepIn K (.ref f_l_cell) = true)
    (a_l_purse : PySem.W.nsIn K mainGlobals "_law_purse" = some (some (.ref f_l_purse)))
    (l_l_purse : K.lookup f_l_purse = some ⟨oc_l_purse, od_l_purse, .func (PySem.W.fnOf "_law_purse" "_law_purse" (defArgs s_l_purse) (defBody s_l_purse) (defScope s_l_purse) .none kV_l_purse dc_l_purse pm_l_purse an_l_purse cd_l_purse ct_l_purse), sl_l_purse⟩)
    (c_l_purse : PySem.W.codeIn K cd_l_purse "_law_purse" = true)
    (k_l_purse : PySem.W.keepIn K (.ref f_l_purse) = true)
    (a_l_take : PySem.W.nsIn K mainGlobals "_law_take" = some (some (.ref f_l_take)))
    (l_l_take : K.lookup f_l_take = some ⟨oc_l_take, od_l_take, .func (PySem.W.fnOf "_law_take" "_law_take" (defArgs s_l_take) (defBody s_l_take) (defScope s_l_take) .none kV_l_take dc_l_take pm_l_take an_l_take cd_l_take ct_l_take), sl_l_take⟩)
    (c_l_take : PySem.W.codeIn K cd_l_take "_law_take" = true)
    (k_l_take : PySem.W.keepIn K (.ref f_l_take) = true)
    (a_l_text : PySem.W.nsIn K mainGlobals "_law_text" = some (some (.ref f_l_text)))
    (l_l_text : K.lookup f_l_text = some ⟨oc_l_text, od_l_text, .func (PySem.W.fnOf "_law_text" "_law_text" (defArgs s_l_text) (defBody s_l_text) (defScope s_l_text) .none kV_l_text dc_l_text pm_l_text an_l_text cd_l_text ct_l_text), sl_l_text⟩)
    (c_l_text : PySem.W.codeIn K cd_l_text "_law_text" = true)
    (k_l_text : PySem.W.keepIn K (.ref f_l_text) = true)
    (a_l_is_name : PySem.W.nsIn K mainGlobals "_law_is_name" = some (some (.ref f_l_is_name)))
    (l_l_is_name : K.lookup f_l_is_name = some ⟨oc_l_is_name, od_l_is_name, .func (PySem.W.fnOf "_law_is_name" "_law_is_name" (defArgs s_l_is_name) (defBody s_l_is_name) (defScope s_l_is_name) .none kV_l_is_name dc_l_is_name pm_l_is_name an_l_is_name cd_l_is_name ct_l_is_name), sl_l_is_name⟩)
    (c_l_is_name : PySem.W.codeIn K cd_l_is_name "_law_is_name" = true)
    (k_l_is_name : PySem.W.keepIn K (.ref f_l_is_name) = true)
    (a_l_numbers_right : PySem.W.nsIn K mainGlobals "_law_numbers_right" = some (some (.ref f_l_numbers_right)))
    (l_l_numbers_right : K.lookup f_l_numbers_right = some ⟨oc_l_numbers_right, od_l_numbers_right, .func (PySem.W.fnOf "_law_numbers_right" "_law_numbers_right" (defArgs s_l_numbers_right) (defBody s_l_numbers_right) (defScope s_l_numbers_right) .none kV_l_numbers_right dc_l_numbers_right pm_l_numbers_right an_l_numbers_right cd_l_numbers_right ct_l_numbers_right), sl_l_numbers_right⟩)
    (c_l_numbers_right : PySem.W.codeIn K cd_l_numbers_right "_law_numbers_right" = true)
    (k_l_numbers_right : PySem.W.keepIn K (.ref f_l_numbers_right) = true)
    (a_law : PySem.W.nsIn K mainGlobals "law" = some (some (.ref f_law)))
    (l_law : K.lookup f_law = some ⟨oc_law, od_law, .func (PySem.W.fnOf "law" "law" (defArgs s_law) (defBody s_law) (defScope s_law) .none kV_law dc_law pm_law an_law cd_law ct_law), sl_law⟩)
    (c_law : PySem.W.codeIn K cd_law "law" = true)
    (k_law : PySem.W.keepIn K (.ref f_law) = true)
    (z_list : PySem.W.nsIn K mainGlobals "list" = some none)
    (z_all : PySem.W.nsIn K mainGlobals "all" = some none)
    (z_isinstance : PySem.W.nsIn K mainGlobals "isinstance" = some none)
    (z_int : PySem.W.nsIn K mainGlobals "int" = some none)
    (z_len : PySem.W.nsIn K mainGlobals "len" = some none)
    (z_max : PySem.W.nsIn K mainGlobals "max" = some none)
    (z_bool : PySem.W.nsIn K mainGlobals "bool" = some none)
    (z_str : PySem.W.nsIn K mainGlobals "str" = some none)
    (z_range : PySem.W.nsIn K mainGlobals "range" = some none)
    {tt_LETTERS : Tok}
    (v_LETTERS : PySem.W.nsIn K mainGlobals "LETTERS" = some (some (Value.str "abcdefghijklmnopqrstuvwxyz" tt_LETTERS)))
    {tt_LONGEST : Tok}
    (v_LONGEST : PySem.W.nsIn K mainGlobals "LONGEST" = some (some (Value.int 8 tt_LONGEST)))
    {ac_OWN_WORDS : Addr} {dd_OWN_WORDS : Option Addr} {nn_OWN_WORDS : Nat} {ss_OWN_WORDS : Array (Option Value)} {u_OWN_WORDS_0 u_OWN_WORDS_1 u_OWN_WORDS_2 u_OWN_WORDS_3 u_OWN_WORDS_4 u_OWN_WORDS_5 u_OWN_WORDS_6 u_OWN_WORDS_7 : Tok}
    (v_OWN_WORDS : PySem.W.nsIn K mainGlobals "OWN_WORDS" = some (some (.ref ac_OWN_WORDS)))
    (y_OWN_WORDS : K.lookup ac_OWN_WORDS = some ⟨.type "tuple", dd_OWN_WORDS, .seq #[Value.str "rel" u_OWN_WORDS_0, Value.str "same" u_OWN_WORDS_1, Value.str "unlike" u_OWN_WORDS_2, Value.str "one" u_OWN_WORDS_3, Value.str "both" u_OWN_WORDS_4, Value.str "fresh" u_OWN_WORDS_5, Value.str "call" u_OWN_WORDS_6, Value.str "not" u_OWN_WORDS_7] nn_OWN_WORDS, ss_OWN_WORDS⟩)
    : ∃ fd : FuncData, (∀ (s : Shared) (v : Value), BindsTo s fd ⟨[v], []⟩ [("_law_script", v)]) ∧ ∀ base : Heap, K.In base → base.Ns mainGlobals mg → FnOk l.prog w K mg base CX0 4 fa fd ["_law_script"] (sp_law K) := by
  have e : f_law = fa := (Value.ref.inj (Option.some.inj (hfa.symm.trans (PySem.W.mg_of X G a_law)))).symm
  subst e
  have F_is_whole := fun_mk (st := s_is_whole) l_is_whole c_is_whole k_is_whole
  have b_is_whole := F_is_whole.binds (ps := ["thing"]) fun _ _ _ _ _ _ us hl => match us, hl with | [_], _ => rfl
  have F_is_within := fun_mk (st := s_is_within) l_is_within c_is_within k_is_within
  have b_is_within := F_is_within.binds (ps := ["thing", "low", "high"]) fun _ _ _ _ _ _ us hl => match us, hl with | [_, _, _], _ => rfl
  have F_own_words := fun_mk (st := s_own_words) l_own_words c_own_words k_own_words
  have b_own_words := F_own_words.binds (ps := []) fun _ _ _ _ _ _ us hl => match us, hl with | [], _ => rfl
  have F_is_name := fun_mk (st := s_is_name) l_is_name c_is_name k_is_name
  have b_is_name := F_is_name.binds (ps := ["thing"]) fun _ _ _ _ _ _ us hl => match us, hl with | [_], _ => rfl
  have F_l_cell := fun_mk (st := s_l_cell) l_l_cell c_l_cell k_l_cell
  have b_l_cell := F_l_cell.binds (ps := ["_law_script", "_law_k"]) fun _ _ _ _ _ _ us hl => match us, hl with | [_, _], _ => rfl
  have F_l_purse := fun_mk (st := s_l_purse) l_l_purse c_l_purse k_l_purse
  have b_l_purse := F_l_purse.binds (ps := ["_law_cell_here"]) fun _ _ _ _ _ _ us hl => match us, hl with | [_], _ => rfl
  have F_l_take := fun_mk (st := s_l_take) l_l_take c_l_take k_l_take
  have b_l_take := F_l_take.binds (ps := ["_law_purse_here", "_law_many"]) fun _ _ _ _ _ _ us hl => match us, hl with | [_, _], _ => rfl
  have F_l_text := fun_mk (st := s_l_text) l_l_text c_l_text k_l_text
  have b_l_text := F_l_text.binds (ps := ["_law_purse_here"]) fun _ _ _ _ _ _ us hl => match us, hl with | [_], _ => rfl
  have F_l_is_name := fun_mk (st := s_l_is_name) l_l_is_name c_l_is_name k_l_is_name
  have b_l_is_name := F_l_is_name.binds (ps := ["_law_text_here"]) fun _ _ _ _ _ _ us hl => match us, hl with | [_], _ => rfl
  have F_l_numbers_right := fun_mk (st := s_l_numbers_right) l_l_numbers_right c_l_numbers_right k_l_numbers_right
  have b_l_numbers_right := F_l_numbers_right.binds (ps := ["_law_purse_here"]) fun _ _ _ _ _ _ us hl => match us, hl with | [_], _ => rfl
  have F_law := fun_mk (st := s_law) l_law c_law k_law
  have b_law := F_law.binds (ps := ["_law_script"]) fun _ _ _ _ _ _ us hl => match us, hl with | [_], _ => rfl
  refine ⟨PySem.W.fnOf "law" "law" (defArgs s_law) (defBody s_law) (defScope s_law) .none kV_law dc_law pm_law an_law cd_law ct_law, fun s v => .of_eq rfl, fun base _ _ => ok_law (P := l.prog) (w := w) (base := base) (K := K) (mg := mg) {
    a_is_whole := f_is_whole, d_is_whole := _, F_is_whole := F_is_whole, b_is_whole := b_is_whole, g_is_whole := PySem.W.mg_of X G a_is_whole,
    a_is_within := f_is_within, d_is_within := _, F_is_within := F_is_within, b_is_within := b_is_within, g_is_within := PySem.W.mg_of X G a_is_within,
    a_own_words := f_own_words, d_own_words := _, F_own_words := F_own_words, b_own_words := b_own_words, g_own_words := PySem.W.mg_of X G a_own_words,
    a_is_name := f_is_name, d_is_name := _, F_is_name := F_is_name, b_is_name := b_is_name, g_is_name := PySem.W.mg_of X G a_is_name,
    a_l_cell := f_l_cell, d_l_cell := _, F_l_cell := F_l_cell, b_l_cell := b_l_cell, g_l_cell := PySem.W.mg_of X G a_l_cell,
    a_l_purse := f_l_purse, d_l_purse := _, F_l_purse := F_l_purse, b_l_purse := b_l_purse, g_l_purse := PySem.W.mg_of X G a_l_purse,
    a_l_take := f_l_take, d_l_take := _, F_l_take := F_l_take, b_l_take := b_l_take, g_l_take := PySem.W.mg_of X G a_l_take,
    a_l_text := f_l_text, d_l_text := _, F_l_text := F_l_text, b_l_text := b_l_text, g_l_text := PySem.W.mg_of X G a_l_text,
    a_l_is_name := f_l_is_name, d_l_is_name := _, F_l_is_name := F_l_is_name, b_l_is_name := b_l_is_name, g_l_is_name := PySem.W.mg_of X G a_l_is_name,
    a_l_numbers_right := f_l_numbers_right, d_l_numbers_right := _, F_l_numbers_right := F_l_numbers_right, b_l_numbers_right := b_l_numbers_right, g_l_numbers_right := PySem.W.mg_of X G a_l_numbers_right,
    a_law := f_law, d_law := _, F_law := F_law, b_law := b_law, g_law := PySem.W.mg_of X G a_law,
    m_list := PySem.W.mg_none_of X G z_list,
    m_all := PySem.W.mg_none_of X G z_all,
    m_isinstance := PySem.W.mg_none_of X G z_isinstance,
    m_int := PySem.W.mg_none_of X G z_int,
    m_len := PySem.W.mg_none_of X G z_len,
    m_max := PySem.W.mg_none_of X G z_max,
    m_bool := PySem.W.mg_none_of X G z_bool,
    m_str := PySem.W.mg_none_of X G z_str,
    m_range := PySem.W.mg_none_of X G z_range,
    t_LETTERS := tt_LETTERS, g_LETTERS := PySem.W.mg_of X G v_LETTERS,
    t_LONGEST := tt_LONGEST, g_LONGEST := PySem.W.mg_of X G v_LONGEST,
    a_OWN_WORDS := ac_OWN_WORDS, g_OWN_WORDS := PySem.W.mg_of X G v_OWN_WORDS, q_OWN_WORDS := fun _ => .inr ⟨_, _, _, y_OWN_WORDS, rfl, rfl, (by show 8 ≤ sizeLine; decide), (.cons ⟨_, rfl⟩ (.cons ⟨_, rfl⟩ (.cons ⟨_, rfl⟩ (.cons ⟨_, rfl⟩ (.cons ⟨_, rfl⟩ (.cons ⟨_, rfl⟩ (.cons ⟨_, rfl⟩ (.cons ⟨_, rfl⟩ .nil))))))))⟩ }⟩
end Fs
open PySem PySem.W PyProof.Rows
set_option maxRecDepth 100000 in
set_option maxHeartbeats 0 in
theorem PySem.Challenge.cw_fairseek_k01_words_told_holds : PySem.Challenge.rw_fairseek_k01_words_told.Holds := by
  w_on; o_law; k_head; (case hw => w_witness2)
  k_fill
  refine L2.walk_ofK (l := PySem.Challenge.rw_fairseek_k01_words_told) (n := 63) (k := 4) (x := "_law_script") (CX := L2.CX0) (sp := Fs.sp_law) rfl (by decide) rfl ⟨rfl, by decide, by decide⟩ (fun w h Y => PySem.W.kIn_of Y) ?F (fun _ _ a ns hl _ hS => ⟨a, ns, rfl, hS, hl, fun _ => rfl⟩) (fun _ _ _ _ h => h)
  case F =>
    intro w mg fa h KX G hmg
    refine' Fs.all_mk KX G hmg ?a_is_whole ?l_is_whole ?c_is_whole ?k_is_whole ?a_is_within ?l_is_within ?c_is_within ?k_is_within ?a_own_words ?l_own_words ?c_own_words ?k_own_words ?a_is_name ?l_is_name ?c_is_name ?k_is_name ?a_l_cell ?l_l_cell ?c_l_cell ?k_l_cell ?a_l_purse ?l_l_purse ?c_l_purse ?k_l_purse ?a_l_take ?l_l_take ?c_l_take ?k_l_take ?a_l_text ?l_l_text ?c_l_text ?k_l_text ?a_l_is_name ?l_l_is_name ?c_l_is_name ?k_l_is_name ?a_l_numbers_right ?l_l_numbers_right ?c_l_numbers_right ?k_l_numbers_right ?a_law ?l_law ?c_law ?k_law ?z_list ?z_all ?z_isinstance ?z_int ?z_len ?z_max ?z_bool ?z_str ?z_range ?v_LETTERS ?v_LONGEST ?v_OWN_WORDS ?y_OWN_WORDS
    (case a_is_whole => k_is)
    (case l_is_whole => k_is)
    (case c_is_whole => k_is)
    (case k_is_whole => k_is)
    (case a_is_within => k_is)
    (case l_is_within => k_is)
    (case c_is_within => k_is)
    (case k_is_within => k_is)
    (case a_own_words => k_is)
    (case l_own_words => k_is)
    (case c_own_words => k_is)
    (case k_own_words => k_is)
    (case a_is_name => k_is)
    (case l_is_name => k_is)
    (case c_is_name => k_is)
    (case k_is_name => k_is)
    (case a_l_cell => k_is)
    (case l_l_cell => k_is)
    (case c_l_cell => k_is)
    (case k_l_cell => k_is)
    (case a_l_purse => k_is)
    (case l_l_purse => k_is)
    (case c_l_purse => k_is)
    (case k_l_purse => k_is)
    (case a_l_take => k_is)
    (case l_l_take => k_is)
    (case c_l_take => k_is)
    (case k_l_take => k_is)
    (case a_l_text => k_is)
    (case l_l_text => k_is)
    (case c_l_text => k_is)
    (case k_l_text => k_is)
    (case a_l_is_name => k_is)
    (case l_l_is_name => k_is)
    (case c_l_is_name => k_is)
    (case k_l_is_name => k_is)
    (case a_l_numbers_right => k_is)
    (case l_l_numbers_right => k_is)
    (case c_l_numbers_right => k_is)
    (case k_l_numbers_right => k_is)
    (case a_law => k_is)
    (case l_law => k_is)
    (case c_law => k_is)
    (case k_law => k_is)
    (case z_list => k_is)
    (case z_all => k_is)
    (case z_isinstance => k_is)
    (case z_int => k_is)
    (case z_len => k_is)
    (case z_max => k_is)
    (case z_bool => k_is)
    (case z_str => k_is)
    (case z_range => k_is)
    (case v_LETTERS => k_is)
    (case v_LONGEST => k_is)
    (case v_OWN_WORDS => k_is)
    (case y_OWN_WORDS => k_is)
#print axioms PySem.Challenge.cw_fairseek_k01_words_told_holds
